import PyProof.Rows.All
import Wide.All
import OpenK.AllK
import Wide.FinOn
import HandS.ForMost
import HandS.Zip
import HandS.TupAny
import HandS.TupMul
import HandS.Deep
import HandS.Style
import HandS.SetFor
import HandS.Strs
import HandS.Walk
import HandS.IsInst
import HandS.Conv
import HandS.Wide
import HandS.WideBits
import HandS.Evl
import HandS.MakeKwOnly
import KE.GoesMore
import KE.GoesEnumKw
import KE.KBits
import KE.SortData
import HandS.TupSets
import KE.KExcIs
import HandS.ExcInit
import HandS.ExcField
import HandS.ExcOwn
import HandS.WordsExc
import HandS.SetFor
import HandS.Lambda
import KE.KLam
import KE.KDictDisplayH
import HandS.ExcInit
import HandS.ExcField
import HandS.ExcOwn
import HandS.WordsExc
import KE.RegKIsAll
import PySem.Challenge.RW_calledseats_k12_invalid_arguments
set_option Elab.async false
set_option linter.all false
set_option maxRecDepth 100000
set_option maxHeartbeats 4000000


namespace CZ
open PySem PySem.Spec PyProof.Rows L2
open PySem.Sem (wp)
/-- one draw of a zip: strict or not -/
def zdraw (b : Bool) (it : Value) : Sem (Option Value) := if b = true then Builtin.SmallTypes.nextOrEnd it else (Builtin.SmallTypes.nextOf it >>= fun x => pure (some x))
/-- a zip object: f0 what it has handed out, b its strictness -/
abbrev ZipO (h : Heap) (z TI TO : Addr) (f0 : Value) (b : Bool) : Prop := h.get? z = some { cls := .type "zip", data := .fields #[f0, .bool false, .bool b, .ref TI, .ref TO] }
abbrev TupO (h : Heap) (T : Addr) (vs : Array Value) : Prop := h.get? T = some { cls := .type "tuple", data := .seq vs }
theorem val_b (b : Bool) : (Value.bool b == Value.bool true) = b := by cases b <;> rfl
section
variable {prog : Program} {w : World} {A : Around} {E : Value → Shared → Prop} {s : Shared} {b : Bool}
theorem zdraw_item {it : Addr} {fp : List Addr} {n i : Nat} {P : Nat → Value → Prop} {St : Nat → Heap → Prop} {Q : Option Value → Shared → Prop} (D : Draws prog w A it fp n P St) (hi : i < n) (st : St i s.heap)
    (hQ : ∀ x h' tk, P i x → St (i + 1) h' → Heap.SameBut it s.heap h' → Q (some x) { s with heap := h', toks := tk }) : wpAny (model prog w) A (zdraw b (.ref it)) Q E s := by
  cases b with
  | false => exact wpAny_bind (m := Builtin.SmallTypes.nextOf (.ref it)) (D.item i s _ _ hi st fun x h' tk p st' sb => wpAny_pure (hQ x h' tk p st' sb))
  | true =>
    show wpAny _ _ (Builtin.SmallTypes.nextOrEnd (.ref it)) _ _ _
    unfold Builtin.SmallTypes.nextOrEnd
    exact wpAny_bind (wpAny_attempt (D.item i s _ _ hi st fun x h' tk p st' sb => wpAny_pure (hQ x h' tk p st' sb)))
theorem zend_strict {it : Addr} {fp : List Addr} {n : Nat} {P : Nat → Value → Prop} {St : Nat → Heap → Prop} {Q : Option Value → Shared → Prop} (D : Draws prog w A it fp n P St) (st : St n s.heap)
    (hQ : ∀ h', Heap.ExtBut it s.heap h' → Q none { s with heap := h' }) : wpAny (model prog w) A (Builtin.SmallTypes.nextOrEnd (.ref it)) Q E s := by
  unfold Builtin.SmallTypes.nextOrEnd
  refine wpAny_bind (wpAny_attempt (D.done s _ _ st fun h' e eb he => ?_))
  obtain ⟨o, ho, hc⟩ := he
  exact wpAny_bind (wpAny_isInstance (T := "StopIteration") (b := true) ⟨o, ho, hc⟩ isSubtype_stop (wpAny_pure (hQ h' eb)))
theorem upd_tup {T : Addr} {vs : Array Value} {x : Value} {k : Nat} {Q : Unit → Shared → Prop} (hT : TupO s.heap T vs) (hz : vs.size ≤ 8)
    (h : ∀ h', TupO h' T (vs.setIfInBounds k x) → Heap.SameBut T s.heap h' → Q () { s with heap := h' }) : wpAny (model prog w) A (updateSeq T (·.setIfInBounds k x)) Q E s := by
  have z8 : (8 : Nat) ≤ sizeLine := by decide
  refine wpAny_updateSeq hT rfl (h _ ?_ (Heap.SameBut.update ..)) (Nat.le_trans hz z8) (by rw [Array.size_setIfInBounds]; exact Nat.le_succ_of_le (Nat.le_trans hz z8))
  unfold TupO
  rw [Heap.get?_update_self _ hT rfl]
  simp [Obj.mapSeq]
theorem iter_zip {z TI TO : Addr} {f0 : Value} {Q : Value → Shared → Prop} (hz : ZipO s.heap z TI TO f0 b) (h : Q (.ref z) s) : wpAny (model prog w) A (pyIter (.ref z)) Q E s := by
  have hT : s.TypeIs (.ref z) "zip" := ⟨_, hz, rfl⟩
  exact wpAny_pyIter_slot hT F.slot_zip_iter (wpAny_call_entry F.slot_zip_iter hT F.entry_zip_iter (wpAny_pure ⟨_, rfl, "zip", _, hT, F.slot_zip_next.lookup, h⟩) (F.args_zip_iter_1 _))
/-- the tuple that was handed out is let go -/
theorem go_zip {elts : List Expr} {x1} {pos : Pos} {z TI TO T : Addr} {Q : Unit → Shared → Prop} (hz : ZipO s.heap z TI TO (rawInt T) b)
    (hQ : ∀ h', ZipO h' z TI TO .none b → Heap.SameBut z s.heap h' → Q () { s with heap := h' }) : wpAny (model prog w) A (letOwnedTupleGo (.Tuple elts x1 pos) (.ref z) (.ref T)) Q E s := by
  unfold letOwnedTupleGo
  refine wpAny_bind (wpAny_load hz ?_)
  show wpAny _ _ (ite _ _ _) Q E s
  rw [if_pos (by simp)]
  exact wpAny_bind (wpAny_rule (wpAny_setField_rec hz (by simp) fun h' hz' hs' => hQ h' hz' hs'))
/-- the StopIteration that a zip ends by -/
theorem stop_it {Q : Fin → Shared → Prop} (hh : A.handled = none) (hE : ∀ h' e, (∀ c o, s.heap.get? c = some o → h'.get? c = some o) → (∃ o, h'.get? e = some o ∧ o.cls = .type "StopIteration") → E (.ref e) { s with heap := h' }) :
    wpAny (model prog w) A (PySem.Builtin.SmallTypes.stopIteration : Sem Fin) Q E s := by
  unfold PySem.Builtin.SmallTypes.stopIteration
  show wpAny _ _ (newExc (.type "StopIteration") [] >>= _) _ _ _
  refine wpAny_bind ?_
  simp only [newExc, newTuple]
  refine wpAny_bind (wpAny_newObj_type ?_ (by size_fits))
  refine wpAny_bind (m := firstArgMember _ _) (wpAny_of_eq (a := Value.none) (by first | rfl | (simp only [firstArgMember]; rfl)) ?_)
  refine wpAny_newObj_type ?_ (by size_fits)
  simp only [raiseNew]
  refine wpAny_bind (wpAny_handled ?_)
  rw [hh]
  exact wpAny_bind (wpAny_pure (wpAny_throw (hE _ _ (fun c o e => Heap.get?_push_of_some _ (Heap.get?_push_of_some _ e)) ⟨_, Heap.get?_push_size _ rfl, rfl⟩)))
end
end CZ

namespace CZ
open PySem PySem.Spec PyProof.Rows L2
open PySem.Sem (wp)
/-- the cells of a zip over 2 iterators lie apart -/
structure Sep2 (z TI TO i1 i2 : Addr) (fp1 fp2 : List Addr) : Prop where
  zTO : z ≠ TO
  zTI : z ≠ TI
  TOTI : TO ≠ TI
  m1 : i1 ∈ fp1
  z1 : z ∉ fp1
  T1 : TO ∉ fp1
  I1 : TI ≠ i1
  s2_1 : i2 ∉ fp1
  m2 : i2 ∈ fp2
  z2 : z ∉ fp2
  T2 : TO ∉ fp2
  I2 : TI ≠ i2
  s1_2 : i1 ∉ fp2
section
variable {prog : Program} {w : World} {A : Around} {E : Value → Shared → Prop} {s : Shared} {b : Bool}
theorem next_item2 {z TI TO i1 i2 : Addr} {fp1 fp2 : List Addr} {n1 n2 i : Nat} {P1 P2 : Nat → Value → Prop} {St1 St2 : Nat → Heap → Prop} {a1 a2 : Value} {Q : Value → Shared → Prop} (S : Sep2 z TI TO i1 i2 fp1 fp2) (D1 : Draws prog w A i1 fp1 n1 P1 St1) (D2 : Draws prog w A i2 fp2 n2 P2 St2)
    (hz : ZipO s.heap z TI TO .none b) (hTI : TupO s.heap TI #[.ref i1, .ref i2]) (hTO : TupO s.heap TO #[a1, a2]) (st1 : St1 i s.heap) (st2 : St2 i s.heap) (hi1 : i < n1) (hi2 : i < n2)
    (hQ : ∀ x1 x2 h' tk, P1 i x1 → P2 i x2 → ZipO h' z TI TO (rawInt s.heap.objs.size) b → TupO h' TO #[x1, x2] → St1 (i + 1) h' → St2 (i + 1) h' → TupO h' s.heap.objs.size #[x1, x2] →
      (∀ c o, c ≠ z → c ≠ TO → c ≠ i1 → c ≠ i2 → s.heap.get? c = some o → h'.get? c = some o) → Q (.ref s.heap.objs.size) { s with heap := h', toks := tk }) :
    wpAny (model prog w) A (Builtin.«zip.__next__» ⟨[.ref z], []⟩) (fun fin s' => ∃ v, fin = .done (.ret v) ∧ Q v s') E s := by
  obtain ⟨hp, g, d, tk0, os⟩ := s
  refine wpAny_bind (m := field (.ref z) 2) (wpAny_field hz rfl (x := .bool b) rfl ?_)
  refine wpAny_bind (m := field (.ref z) 3) (wpAny_field hz rfl (x := .ref TI) rfl ?_)
  refine wpAny_bind (wpAny_seqItems hTI rfl ?_)
  show wpAny _ _ (Builtin.SmallTypes.ownedTupleIsFree (.ref z) >>= _) _ _ _
  rw [val_b]
  refine wpAny_bind ?_
  unfold Builtin.SmallTypes.ownedTupleIsFree
  refine wpAny_bind (wpAny_field hz rfl (x := .none) rfl (wpAny_pure ?_))
  simp only [if_true]
  refine wpAny_bind (wpAny_rule (wpAny_bind (wpAny_field hz rfl (x := .ref TO) rfl ?_)))
  refine wpAny_bind (wpAny_setField_rec hz (by simp) fun g0 hz0 hs0 => wpAny_bind ?_)
  replace hs0 : Heap.SameBut z hp g0 := hs0
  replace hz0 : ZipO g0 z TI TO .ellipsis b := hz0
  have hT0 : TupO g0 TO #[a1, a2] := hs0.extBut _ _ S.zTO.symm hTO
  have t1_0 : St1 i g0 := D1.frame _ _ _ st1 fun c hc o e => hs0.extBut c o (fun q => S.z1 (q ▸ hc)) e
  have t2_0 : St2 i g0 := D2.frame _ _ _ st2 fun c hc o e => hs0.extBut c o (fun q => S.z2 (q ▸ hc)) e
  have k0 : ∀ c o, c ≠ z → c ≠ TO → c ≠ i1 → c ≠ i2 → hp.get? c = some o → g0.get? c = some o := fun c o q0 _ _ _ e => hs0.extBut c o q0 e
  simp only [List.zipIdx_cons, List.zipIdx_nil, List.forIn_cons, List.forIn_nil]
  refine wpAny_bind (wpAny_bind (wpAny_onRaise (m := zdraw b (.ref i1)) (zdraw_item (s := ⟨g0, g, d, tk0, os⟩) D1 hi1 t1_0 fun x1 d1 tk1 p1 n1 hd1 => ?_)))
  replace hd1 : Heap.SameBut i1 g0 d1 := hd1
  have hU1 : TupO d1 TO #[a1, a2] := hd1.extBut _ _ (fun q => S.T1 (q ▸ S.m1)) hT0
  refine wpAny_bind (wpAny_seqItems (s := ⟨d1, g, d, tk1, os⟩) hU1 rfl ?_)
  refine wpAny_bind (upd_tup (s := ⟨d1, g, d, tk1, os⟩) hU1 (by simp) fun g1 hT1 hs1 => ?_)
  replace hs1 : Heap.SameBut TO d1 g1 := hs1
  replace hT1 : TupO g1 TO #[x1, a2] := hT1
  have hz1 : ZipO g1 z TI TO .ellipsis b := hs1.extBut _ _ S.zTO (hd1.extBut _ _ (fun q => S.z1 (q ▸ S.m1)) hz0)
  have t1_1 : St1 (i + 1) g1 := D1.frame _ _ _ n1 fun c hc o e => hs1.extBut c o (fun q => S.T1 (q ▸ hc)) e
  have t2_1 : St2 i g1 := D2.frame _ _ _ t2_0 fun c hc o e => hs1.extBut c o (fun q => S.T2 (q ▸ hc)) (hd1.extBut c o (fun q => S.s1_2 (q ▸ hc)) e)
  have k1 : ∀ c o, c ≠ z → c ≠ TO → c ≠ i1 → c ≠ i2 → hp.get? c = some o → g1.get? c = some o := fun c o qz qT q1 q2 e => hs1.extBut c o qT (hd1.extBut c o q1 (k0 c o qz qT q1 q2 e))
  have e1 : g1.objs.size = g0.objs.size := by rw [hs1.1, hd1.1]
  refine wpAny_bind (wpAny_letGo (wpAny_pure ?_))
  refine wpAny_bind (wpAny_bind (wpAny_onRaise (m := zdraw b (.ref i2)) (zdraw_item (s := ⟨g1, g, d, tk1, os⟩) D2 hi2 t2_1 fun x2 d2 tk2 p2 n2 hd2 => ?_)))
  replace hd2 : Heap.SameBut i2 g1 d2 := hd2
  have hU2 : TupO d2 TO #[x1, a2] := hd2.extBut _ _ (fun q => S.T2 (q ▸ S.m2)) hT1
  refine wpAny_bind (wpAny_seqItems (s := ⟨d2, g, d, tk2, os⟩) hU2 rfl ?_)
  refine wpAny_bind (upd_tup (s := ⟨d2, g, d, tk2, os⟩) hU2 (by simp) fun g2 hT2 hs2 => ?_)
  replace hs2 : Heap.SameBut TO d2 g2 := hs2
  replace hT2 : TupO g2 TO #[x1, x2] := hT2
  have hz2 : ZipO g2 z TI TO .ellipsis b := hs2.extBut _ _ S.zTO (hd2.extBut _ _ (fun q => S.z2 (q ▸ S.m2)) hz1)
  have t1_2 : St1 (i + 1) g2 := D1.frame _ _ _ t1_1 fun c hc o e => hs2.extBut c o (fun q => S.T1 (q ▸ hc)) (hd2.extBut c o (fun q => S.s2_1 (q ▸ hc)) e)
  have t2_2 : St2 (i + 1) g2 := D2.frame _ _ _ n2 fun c hc o e => hs2.extBut c o (fun q => S.T2 (q ▸ hc)) e
  have k2 : ∀ c o, c ≠ z → c ≠ TO → c ≠ i1 → c ≠ i2 → hp.get? c = some o → g2.get? c = some o := fun c o qz qT q1 q2 e => hs2.extBut c o qT (hd2.extBut c o q2 (k1 c o qz qT q1 q2 e))
  have e2 : g2.objs.size = g1.objs.size := by rw [hs2.1, hd2.1]
  refine wpAny_bind (wpAny_letGo (wpAny_pure ?_))
  refine wpAny_pure ?_
  refine wpAny_bind (wpAny_seqItems (s := ⟨g2, g, d, tk2, os⟩) hT2 rfl ?_)
  refine wpAny_bind (wpAny_newTuple ?_)
  have hsz : g2.objs.size = hp.objs.size := by rw [e2, e1, hs0.1]
  have hlt : z < g2.objs.size := Heap.lt_size hz2
  refine wpAny_bind ?_
  unfold Builtin.SmallTypes.ownedTupleHandOut
  have hy : ZipO (g2.push { cls := .type "tuple", data := .seq #[x1, x2] }) z TI TO .ellipsis b := Heap.get?_push_of_some _ hz2
  refine wpAny_bind (wpAny_setField_rec hy (by simp) fun u1 hu1 hv1 => wpAny_setField_rec hu1 (by simp) fun u2 hu2 hv2 => ?_)
  have up : ∀ c o, c ≠ z → g2.get? c = some o → u2.get? c = some o := fun c o q e => hv2.extBut c o q (hv1.extBut c o q (Heap.get?_push_of_some _ e))
  have hN : TupO u2 g2.objs.size #[x1, x2] := hv2.extBut _ _ (Nat.ne_of_gt hlt) (hv1.extBut _ _ (Nat.ne_of_gt hlt) (Heap.get?_push_size _ rfl))
  have hZ : ZipO u2 z TI TO (rawInt g2.objs.size) b := hu2
  rw [hsz] at hN hZ
  refine wpAny_pure ⟨_, rfl, ?_⟩
  show Q (.ref g2.objs.size) ⟨u2, g, d, tk2, os⟩
  rw [hsz]
  exact hQ x1 x2 u2 tk2 p1 p2 hZ (up _ _ S.zTO.symm hT2) (D1.frame _ _ _ t1_2 fun c hc o e => up c o (fun q => S.z1 (q ▸ hc)) e) (D2.frame _ _ _ t2_2 fun c hc o e => up c o (fun q => S.z2 (q ▸ hc)) e) hN fun c o qz qT q1 q2 e => up c o qz (k2 c o qz qT q1 q2 e)
theorem next_end2 {z TI TO i1 i2 : Addr} {fp1 fp2 : List Addr} {n : Nat} {P1 P2 : Nat → Value → Prop} {St1 St2 : Nat → Heap → Prop} {a1 a2 : Value} {Q : Fin → Shared → Prop} (hh : A.handled = none) (S : Sep2 z TI TO i1 i2 fp1 fp2) (D1 : Draws prog w A i1 fp1 n P1 St1) (D2 : Draws prog w A i2 fp2 n P2 St2)
    (hz : ZipO s.heap z TI TO .none b) (hTI : TupO s.heap TI #[.ref i1, .ref i2]) (hTO : TupO s.heap TO #[a1, a2]) (st1 : St1 n s.heap) (st2 : St2 n s.heap)
    (hE : ∀ h' e, (∀ c o, c ≠ z → c ≠ TO → c ≠ i1 → c ≠ i2 → s.heap.get? c = some o → h'.get? c = some o) → (∃ o, h'.get? e = some o ∧ o.cls = .type "StopIteration") → E (.ref e) { s with heap := h' }) :
    wpAny (model prog w) A (Builtin.«zip.__next__» ⟨[.ref z], []⟩) Q E s := by
  obtain ⟨hp, g, d, tk0, os⟩ := s
  refine wpAny_bind (m := field (.ref z) 2) (wpAny_field hz rfl (x := .bool b) rfl ?_)
  refine wpAny_bind (m := field (.ref z) 3) (wpAny_field hz rfl (x := .ref TI) rfl ?_)
  refine wpAny_bind (wpAny_seqItems hTI rfl ?_)
  show wpAny _ _ (Builtin.SmallTypes.ownedTupleIsFree (.ref z) >>= _) _ _ _
  rw [val_b]
  refine wpAny_bind ?_
  unfold Builtin.SmallTypes.ownedTupleIsFree
  refine wpAny_bind (wpAny_field hz rfl (x := .none) rfl (wpAny_pure ?_))
  simp only [if_true]
  refine wpAny_bind (wpAny_rule (wpAny_bind (wpAny_field hz rfl (x := .ref TO) rfl ?_)))
  refine wpAny_bind (wpAny_setField_rec hz (by simp) fun g0 hz0 hs0 => wpAny_bind ?_)
  replace hs0 : Heap.SameBut z hp g0 := hs0
  replace hz0 : ZipO g0 z TI TO .ellipsis b := hz0
  have t1_0 : St1 n g0 := D1.frame _ _ _ st1 fun c hc o e => hs0.extBut c o (fun q => S.z1 (q ▸ hc)) e
  have t2_0 : St2 n g0 := D2.frame _ _ _ st2 fun c hc o e => hs0.extBut c o (fun q => S.z2 (q ▸ hc)) e
  simp only [List.zipIdx_cons, List.zipIdx_nil, List.forIn_cons, List.forIn_nil]
  refine wpAny_bind (wpAny_bind (wpAny_onRaise ?_))
  cases b with
  | false =>
    refine wpAny_bind (m := Builtin.SmallTypes.nextOf (.ref i1)) (D1.done ⟨g0, g, d, tk0, os⟩ _ _ t1_0 fun y e hy he => ?_)
    replace hy : Heap.ExtBut i1 g0 y := hy
    obtain ⟨oe, hoe, hce⟩ := he
    replace hoe : y.get? e = some oe := hoe
    have hzy : ZipO y z TI TO .ellipsis false := hy _ _ (fun q => S.z1 (q ▸ S.m1)) hz0
    have hez : e ≠ z := fun x => by subst x; rw [hzy] at hoe; cases hoe; simp at hce
    refine wpAny_setField_rec (s := ⟨y, g, d, tk0, os⟩) hzy (by simp) fun y2 _ hv => ?_
    replace hv : Heap.SameBut z y y2 := hv
    exact hE y2 e (fun c o qz qT q1 q2 x => hv.extBut c o qz (hy c o q1 (hs0.extBut c o qz x))) ⟨oe, hv.extBut _ _ hez hoe, hce⟩
  | true =>
    refine zend_strict (s := ⟨g0, g, d, tk0, os⟩) D1 t1_0 fun y hy => ?_
    replace hy : Heap.ExtBut i1 g0 y := hy
    have hzy : ZipO y z TI TO .ellipsis true := hy _ _ (fun q => S.z1 (q ▸ S.m1)) hz0
    have t2_1 : St2 n y := D2.frame _ _ _ t2_0 fun c hc o e => hy c o (fun q => S.s1_2 (q ▸ hc)) e
    refine wpAny_bind (wpAny_setField_rec (s := ⟨y, g, d, tk0, os⟩) hzy (by simp) fun y1 _ hv1 => ?_)
    replace hv1 : Heap.SameBut z y y1 := hv1
    have r2_1 : St2 n y1 := D2.frame _ _ _ t2_1 fun c hc o e => hv1.extBut c o (fun q => S.z2 (q ▸ hc)) e
    have k1 : ∀ c o, c ≠ z → c ≠ TO → c ≠ i1 → c ≠ i2 → hp.get? c = some o → y1.get? c = some o := fun c o qz qT q1 q2 e => hv1.extBut c o qz (hy c o q1 (hs0.extBut c o qz e))
    refine wpAny_bind ?_
    refine wpAny_bind ?_
    simp only [List.drop_succ_cons, List.drop_zero, List.zipIdx_cons, List.zipIdx_nil, List.forIn_cons, List.forIn_nil]
    refine wpAny_bind (wpAny_bind (zend_strict (s := ⟨y1, g, d, tk0, os⟩) D2 r2_1 fun y2 hy2 => ?_))
    replace hy2 : Heap.ExtBut i2 y1 y2 := hy2
    have k2 : ∀ c o, c ≠ z → c ≠ TO → c ≠ i1 → c ≠ i2 → hp.get? c = some o → y2.get? c = some o := fun c o qz qT q1 q2 e => hy2 c o q2 (k1 c o qz qT q1 q2 e)
    refine wpAny_pure ?_
    refine wpAny_pure ?_
    exact wpAny_bind (wpAny_rule (stop_it (s := ⟨y2, g, d, tk0, os⟩) hh fun h2 e kk he => hE h2 e (fun c o qz qT q1 q2 x => kk c o (k2 c o qz qT q1 q2 x)) he))
theorem py_item2 {z TI TO i1 i2 : Addr} {fp1 fp2 : List Addr} {n1 n2 i : Nat} {P1 P2 : Nat → Value → Prop} {St1 St2 : Nat → Heap → Prop} {a1 a2 : Value} {Q : Option Value → Shared → Prop} (S : Sep2 z TI TO i1 i2 fp1 fp2) (D1 : Draws prog w A.in1 i1 fp1 n1 P1 St1) (D2 : Draws prog w A.in1 i2 fp2 n2 P2 St2)
    (hz : ZipO s.heap z TI TO .none b) (hTI : TupO s.heap TI #[.ref i1, .ref i2]) (hTO : TupO s.heap TO #[a1, a2]) (st1 : St1 i s.heap) (st2 : St2 i s.heap) (hi1 : i < n1) (hi2 : i < n2)
    (hQ : ∀ x1 x2 h' tk, P1 i x1 → P2 i x2 → ZipO h' z TI TO (rawInt s.heap.objs.size) b → TupO h' TO #[x1, x2] → St1 (i + 1) h' → St2 (i + 1) h' → TupO h' s.heap.objs.size #[x1, x2] →
      (∀ c o, c ≠ z → c ≠ TO → c ≠ i1 → c ≠ i2 → s.heap.get? c = some o → h'.get? c = some o) → Q (some (.ref s.heap.objs.size)) { s with heap := h', toks := tk }) : wpAny (model prog w) A (pyNext (.ref z)) Q E s := by
  have hT : s.TypeIs (.ref z) "zip" := ⟨_, hz, rfl⟩
  unfold pyNext
  refine wpAny_bind (wpAny_attempt (wpAny_callSpecial?_slot (name := Str.ofString "__next__") hT F.slot_zip_next (wpAny_call_entry F.slot_zip_next hT F.entry_zip_next ?_ (F.args_zip_next_1 _))))
  exact next_item2 S D1 D2 hz hTI hTO st1 st2 hi1 hi2 fun x1 x2 h2 tk p1 p2 q1 q2 u1 u2 q3 q4 => wpAny_pure (hQ x1 x2 h2 tk p1 p2 q1 q2 u1 u2 q3 q4)
theorem py_end2 {z TI TO i1 i2 : Addr} {fp1 fp2 : List Addr} {n : Nat} {P1 P2 : Nat → Value → Prop} {St1 St2 : Nat → Heap → Prop} {a1 a2 : Value} {Q : Option Value → Shared → Prop} (hh : A.handled = none) (S : Sep2 z TI TO i1 i2 fp1 fp2) (D1 : Draws prog w A.in1 i1 fp1 n P1 St1) (D2 : Draws prog w A.in1 i2 fp2 n P2 St2)
    (hz : ZipO s.heap z TI TO .none b) (hTI : TupO s.heap TI #[.ref i1, .ref i2]) (hTO : TupO s.heap TO #[a1, a2]) (st1 : St1 n s.heap) (st2 : St2 n s.heap)
    (hQ : ∀ h', (∀ c o, c ≠ z → c ≠ TO → c ≠ i1 → c ≠ i2 → s.heap.get? c = some o → h'.get? c = some o) → Q none { s with heap := h' }) : wpAny (model prog w) A (pyNext (.ref z)) Q E s := by
  have hT : s.TypeIs (.ref z) "zip" := ⟨_, hz, rfl⟩
  unfold pyNext
  refine wpAny_bind (wpAny_attempt (wpAny_callSpecial?_slot (name := Str.ofString "__next__") hT F.slot_zip_next (wpAny_call_entry F.slot_zip_next hT F.entry_zip_next ?_ (F.args_zip_next_1 _))))
  refine next_end2 (A := A.in1) hh S D1 D2 hz hTI hTO st1 st2 fun h2 e kk he => ?_
  obtain ⟨o, ho, hc⟩ := he
  exact wpAny_bind (wpAny_isInstance (T := "StopIteration") (b := true) ⟨o, ho, hc⟩ isSubtype_stop (wpAny_pure (hQ _ kk)))
theorem typeCall_strict2 (v1 v2 x : Value) : checkTypeCall "zip" ⟨[v1, v2], [(Str.ofString "strict", x)]⟩ = pure () := by kernel_rfl
theorem newCall_strict2 (v1 v2 x : Value) : checkBuiltinCall "zip.__new__" ⟨[.type "zip", v1, v2], [(Str.ofString "strict", x)]⟩ = pure () := by kernel_rfl
theorem initArgs_strict2 (obj v1 v2 x : Value) : argsOk "object.__init__" ⟨[obj, v1, v2], [(Str.ofString "strict", x)]⟩ := by unfold argsOk; kernel_rfl
abbrev sT2 (h : Heap) (o1 o2 : Obj) : Heap := (((h.push o1).push o2).push { cls := .type "tuple", data := .seq #[.ref h.objs.size, .ref (h.push o1).objs.size] })
abbrev sO2 (h : Heap) (o1 o2 : Obj) : Heap := (sT2 h o1 o2).push { cls := .type "tuple", data := .seq #[.none, .none] }
abbrev sZ2 (h : Heap) (o1 o2 : Obj) : Heap := (sO2 h o1 o2).push { cls := .type "zip", data := .fields #[.none, .bool false, .bool true, .ref ((h.push o1).push o2).objs.size, .ref (sT2 h o1 o2).objs.size] }
theorem meets_strict2 {v1 v2 : Value} {o1 o2 : Obj} {G1 G2 : Heap → Prop} (B1 : Begins v1 o1 G1) (B2 : Begins v2 o2 G2) :
    Meets (Builtin.«zip.__new__» ⟨[.type "zip", v1, v2], [(Str.ofString "strict", .bool true)]⟩) (fun _ R s => (G1 s.heap ∧ G2 s.heap) ∧ R (.ok (.ret (.ref (sO2 s.heap o1 o2).objs.size))) { s with heap := (sZ2 s.heap o1 o2) }) :=
  .of_wp fun prog w A R s h => by
    obtain ⟨hp, g, d, tk, os⟩ := s
    obtain ⟨⟨h1, h2⟩, h⟩ := h
    have hsub := sub_zip
    have e1 : (Str.ofString "strict" != ("strict" : Str)) = false := by decide +kernel
    have w1 : ∀ {A' : Around} {E : Value → Shared → Prop} {Q : Value → Shared → Prop}, Q (.ref hp.objs.size) ⟨(hp.push o1), g, d, tk, os⟩ → wpAny (model prog w) A' (pyIter v1) Q E ⟨hp, g, d, tk, os⟩ := fun q => B1.iter prog w _ _ ⟨hp, g, d, tk, os⟩ _ (B1.keeps _ _ h1 fun c u e => e) q
    have w2 : ∀ {A' : Around} {E : Value → Shared → Prop} {Q : Value → Shared → Prop}, Q (.ref (hp.push o1).objs.size) ⟨((hp.push o1).push o2), g, d, tk, os⟩ → wpAny (model prog w) A' (pyIter v2) Q E ⟨(hp.push o1), g, d, tk, os⟩ := fun q => B2.iter prog w _ _ ⟨(hp.push o1), g, d, tk, os⟩ _ (B2.keeps _ _ h2 fun c u e => (Heap.get?_push_of_some _ e)) q
    wp_walk using w1, w2
    exact ⟨_, rfl, h⟩
/-- zip(.., strict=True) of 2: its new cells -/
theorem begins_strict2 {v1 v2 : Value} {o1 o2 : Obj} {G1 G2 : Heap → Prop} {Q : Value → Shared → Prop} (B1 : Begins v1 o1 G1) (B2 : Begins v2 o2 G2) (h1 : G1 s.heap) (h2 : G2 s.heap)
    (h : ∀ h', ZipO h' (s.heap.objs.size + 4) (s.heap.objs.size + 2) (s.heap.objs.size + 3) .none true → TupO h' (s.heap.objs.size + 2) #[.ref s.heap.objs.size, .ref (s.heap.objs.size + 1)] → TupO h' (s.heap.objs.size + 3) #[.none, .none] → h'.get? s.heap.objs.size = some o1 → h'.get? (s.heap.objs.size + 1) = some o2 → (∀ c o, s.heap.get? c = some o → h'.get? c = some o) → Q (.ref (s.heap.objs.size + 4)) { s with heap := h' }) :
    wpAny (model prog w) A (call (.type "zip") [v1, v2] [(Str.ofString "strict", .bool true)]) Q E s := by
  refine callType_newKw F.called_zip (by decide) (typeCall_strict2 _ _ _) (newCall_strict2 _ _ _) (fun obj => initArgs_strict2 obj _ _ _) F.entry_zip_new (meets_strict2 B1 B2) ⟨⟨h1, h2⟩, ?_⟩
  have z1 : (s.heap.push o1).objs.size = s.heap.objs.size + 1 := by rw [Heap.size_push]
  have z2 : ((s.heap.push o1).push o2).objs.size = s.heap.objs.size + 2 := by rw [Heap.size_push, z1]
  have z3 : (sT2 s.heap o1 o2).objs.size = s.heap.objs.size + 3 := by rw [Heap.size_push, z2]
  have z4 : (sO2 s.heap o1 o2).objs.size = s.heap.objs.size + 4 := by rw [Heap.size_push, z3]
  have z5 : (sZ2 s.heap o1 o2).objs.size = s.heap.objs.size + 5 := by rw [Heap.size_push, z4]
  have q0 : (sZ2 s.heap o1 o2).get? s.heap.objs.size = some o1 := (Heap.get?_push_of_some _ (Heap.get?_push_of_some _ (Heap.get?_push_of_some _ (Heap.get?_push_of_some _ (Heap.get?_push_size _ B1.free)))))
  have q1 : (sZ2 s.heap o1 o2).get? (s.heap.push o1).objs.size = some o2 := (Heap.get?_push_of_some _ (Heap.get?_push_of_some _ (Heap.get?_push_of_some _ (Heap.get?_push_size _ B2.free))))
  rw [z1] at q1
  have q2 : (sZ2 s.heap o1 o2).get? ((s.heap.push o1).push o2).objs.size = some ({ cls := .type "tuple", data := .seq #[.ref s.heap.objs.size, .ref (s.heap.push o1).objs.size] } : Obj) := (Heap.get?_push_of_some _ (Heap.get?_push_of_some _ (Heap.get?_push_size _ rfl)))
  rw [z2] at q2
  have q3 : (sZ2 s.heap o1 o2).get? (sT2 s.heap o1 o2).objs.size = some ({ cls := .type "tuple", data := .seq #[.none, .none] } : Obj) := (Heap.get?_push_of_some _ (Heap.get?_push_size _ rfl))
  rw [z3] at q3
  have q4 : (sZ2 s.heap o1 o2).get? (sO2 s.heap o1 o2).objs.size = some ({ cls := .type "zip", data := .fields #[.none, .bool false, .bool true, .ref ((s.heap.push o1).push o2).objs.size, .ref (sT2 s.heap o1 o2).objs.size] } : Obj) := (Heap.get?_push_size _ rfl)
  rw [z4] at q4
  rw [z1] at q2
  rw [z3, z2] at q4
  show _ ∧ _
  rw [z4]
  exact ⟨⟨_, q4, rfl⟩, h _ q4 q2 q3 q0 q1 fun c o e => (Heap.get?_push_of_some _ (Heap.get?_push_of_some _ (Heap.get?_push_of_some _ (Heap.get?_push_of_some _ (Heap.get?_push_of_some _ e)))))⟩
end
/-- the cells of a zip over 3 iterators lie apart -/
structure Sep3 (z TI TO i1 i2 i3 : Addr) (fp1 fp2 fp3 : List Addr) : Prop where
  zTO : z ≠ TO
  zTI : z ≠ TI
  TOTI : TO ≠ TI
  m1 : i1 ∈ fp1
  z1 : z ∉ fp1
  T1 : TO ∉ fp1
  I1 : TI ≠ i1
  s2_1 : i2 ∉ fp1
  s3_1 : i3 ∉ fp1
  m2 : i2 ∈ fp2
  z2 : z ∉ fp2
  T2 : TO ∉ fp2
  I2 : TI ≠ i2
  s1_2 : i1 ∉ fp2
  s3_2 : i3 ∉ fp2
  m3 : i3 ∈ fp3
  z3 : z ∉ fp3
  T3 : TO ∉ fp3
  I3 : TI ≠ i3
  s1_3 : i1 ∉ fp3
  s2_3 : i2 ∉ fp3
section
variable {prog : Program} {w : World} {A : Around} {E : Value → Shared → Prop} {s : Shared} {b : Bool}
theorem next_item3 {z TI TO i1 i2 i3 : Addr} {fp1 fp2 fp3 : List Addr} {n1 n2 n3 i : Nat} {P1 P2 P3 : Nat → Value → Prop} {St1 St2 St3 : Nat → Heap → Prop} {a1 a2 a3 : Value} {Q : Value → Shared → Prop} (S : Sep3 z TI TO i1 i2 i3 fp1 fp2 fp3) (D1 : Draws prog w A i1 fp1 n1 P1 St1) (D2 : Draws prog w A i2 fp2 n2 P2 St2) (D3 : Draws prog w A i3 fp3 n3 P3 St3)
    (hz : ZipO s.heap z TI TO .none b) (hTI : TupO s.heap TI #[.ref i1, .ref i2, .ref i3]) (hTO : TupO s.heap TO #[a1, a2, a3]) (st1 : St1 i s.heap) (st2 : St2 i s.heap) (st3 : St3 i s.heap) (hi1 : i < n1) (hi2 : i < n2) (hi3 : i < n3)
    (hQ : ∀ x1 x2 x3 h' tk, P1 i x1 → P2 i x2 → P3 i x3 → ZipO h' z TI TO (rawInt s.heap.objs.size) b → TupO h' TO #[x1, x2, x3] → St1 (i + 1) h' → St2 (i + 1) h' → St3 (i + 1) h' → TupO h' s.heap.objs.size #[x1, x2, x3] →
      (∀ c o, c ≠ z → c ≠ TO → c ≠ i1 → c ≠ i2 → c ≠ i3 → s.heap.get? c = some o → h'.get? c = some o) → Q (.ref s.heap.objs.size) { s with heap := h', toks := tk }) :
    wpAny (model prog w) A (Builtin.«zip.__next__» ⟨[.ref z], []⟩) (fun fin s' => ∃ v, fin = .done (.ret v) ∧ Q v s') E s := by
  obtain ⟨hp, g, d, tk0, os⟩ := s
  refine wpAny_bind (m := field (.ref z) 2) (wpAny_field hz rfl (x := .bool b) rfl ?_)
  refine wpAny_bind (m := field (.ref z) 3) (wpAny_field hz rfl (x := .ref TI) rfl ?_)
  refine wpAny_bind (wpAny_seqItems hTI rfl ?_)
  show wpAny _ _ (Builtin.SmallTypes.ownedTupleIsFree (.ref z) >>= _) _ _ _
  rw [val_b]
  refine wpAny_bind ?_
  unfold Builtin.SmallTypes.ownedTupleIsFree
  refine wpAny_bind (wpAny_field hz rfl (x := .none) rfl (wpAny_pure ?_))
  simp only [if_true]
  refine wpAny_bind (wpAny_rule (wpAny_bind (wpAny_field hz rfl (x := .ref TO) rfl ?_)))
  refine wpAny_bind (wpAny_setField_rec hz (by simp) fun g0 hz0 hs0 => wpAny_bind ?_)
  replace hs0 : Heap.SameBut z hp g0 := hs0
  replace hz0 : ZipO g0 z TI TO .ellipsis b := hz0
  have hT0 : TupO g0 TO #[a1, a2, a3] := hs0.extBut _ _ S.zTO.symm hTO
  have t1_0 : St1 i g0 := D1.frame _ _ _ st1 fun c hc o e => hs0.extBut c o (fun q => S.z1 (q ▸ hc)) e
  have t2_0 : St2 i g0 := D2.frame _ _ _ st2 fun c hc o e => hs0.extBut c o (fun q => S.z2 (q ▸ hc)) e
  have t3_0 : St3 i g0 := D3.frame _ _ _ st3 fun c hc o e => hs0.extBut c o (fun q => S.z3 (q ▸ hc)) e
  have k0 : ∀ c o, c ≠ z → c ≠ TO → c ≠ i1 → c ≠ i2 → c ≠ i3 → hp.get? c = some o → g0.get? c = some o := fun c o q0 _ _ _ _ e => hs0.extBut c o q0 e
  simp only [List.zipIdx_cons, List.zipIdx_nil, List.forIn_cons, List.forIn_nil]
  refine wpAny_bind (wpAny_bind (wpAny_onRaise (m := zdraw b (.ref i1)) (zdraw_item (s := ⟨g0, g, d, tk0, os⟩) D1 hi1 t1_0 fun x1 d1 tk1 p1 n1 hd1 => ?_)))
  replace hd1 : Heap.SameBut i1 g0 d1 := hd1
  have hU1 : TupO d1 TO #[a1, a2, a3] := hd1.extBut _ _ (fun q => S.T1 (q ▸ S.m1)) hT0
  refine wpAny_bind (wpAny_seqItems (s := ⟨d1, g, d, tk1, os⟩) hU1 rfl ?_)
  refine wpAny_bind (upd_tup (s := ⟨d1, g, d, tk1, os⟩) hU1 (by simp) fun g1 hT1 hs1 => ?_)
  replace hs1 : Heap.SameBut TO d1 g1 := hs1
  replace hT1 : TupO g1 TO #[x1, a2, a3] := hT1
  have hz1 : ZipO g1 z TI TO .ellipsis b := hs1.extBut _ _ S.zTO (hd1.extBut _ _ (fun q => S.z1 (q ▸ S.m1)) hz0)
  have t1_1 : St1 (i + 1) g1 := D1.frame _ _ _ n1 fun c hc o e => hs1.extBut c o (fun q => S.T1 (q ▸ hc)) e
  have t2_1 : St2 i g1 := D2.frame _ _ _ t2_0 fun c hc o e => hs1.extBut c o (fun q => S.T2 (q ▸ hc)) (hd1.extBut c o (fun q => S.s1_2 (q ▸ hc)) e)
  have t3_1 : St3 i g1 := D3.frame _ _ _ t3_0 fun c hc o e => hs1.extBut c o (fun q => S.T3 (q ▸ hc)) (hd1.extBut c o (fun q => S.s1_3 (q ▸ hc)) e)
  have k1 : ∀ c o, c ≠ z → c ≠ TO → c ≠ i1 → c ≠ i2 → c ≠ i3 → hp.get? c = some o → g1.get? c = some o := fun c o qz qT q1 q2 q3 e => hs1.extBut c o qT (hd1.extBut c o q1 (k0 c o qz qT q1 q2 q3 e))
  have e1 : g1.objs.size = g0.objs.size := by rw [hs1.1, hd1.1]
  refine wpAny_bind (wpAny_letGo (wpAny_pure ?_))
  refine wpAny_bind (wpAny_bind (wpAny_onRaise (m := zdraw b (.ref i2)) (zdraw_item (s := ⟨g1, g, d, tk1, os⟩) D2 hi2 t2_1 fun x2 d2 tk2 p2 n2 hd2 => ?_)))
  replace hd2 : Heap.SameBut i2 g1 d2 := hd2
  have hU2 : TupO d2 TO #[x1, a2, a3] := hd2.extBut _ _ (fun q => S.T2 (q ▸ S.m2)) hT1
  refine wpAny_bind (wpAny_seqItems (s := ⟨d2, g, d, tk2, os⟩) hU2 rfl ?_)
  refine wpAny_bind (upd_tup (s := ⟨d2, g, d, tk2, os⟩) hU2 (by simp) fun g2 hT2 hs2 => ?_)
  replace hs2 : Heap.SameBut TO d2 g2 := hs2
  replace hT2 : TupO g2 TO #[x1, x2, a3] := hT2
  have hz2 : ZipO g2 z TI TO .ellipsis b := hs2.extBut _ _ S.zTO (hd2.extBut _ _ (fun q => S.z2 (q ▸ S.m2)) hz1)
  have t1_2 : St1 (i + 1) g2 := D1.frame _ _ _ t1_1 fun c hc o e => hs2.extBut c o (fun q => S.T1 (q ▸ hc)) (hd2.extBut c o (fun q => S.s2_1 (q ▸ hc)) e)
  have t2_2 : St2 (i + 1) g2 := D2.frame _ _ _ n2 fun c hc o e => hs2.extBut c o (fun q => S.T2 (q ▸ hc)) e
  have t3_2 : St3 i g2 := D3.frame _ _ _ t3_1 fun c hc o e => hs2.extBut c o (fun q => S.T3 (q ▸ hc)) (hd2.extBut c o (fun q => S.s2_3 (q ▸ hc)) e)
  have k2 : ∀ c o, c ≠ z → c ≠ TO → c ≠ i1 → c ≠ i2 → c ≠ i3 → hp.get? c = some o → g2.get? c = some o := fun c o qz qT q1 q2 q3 e => hs2.extBut c o qT (hd2.extBut c o q2 (k1 c o qz qT q1 q2 q3 e))
  have e2 : g2.objs.size = g1.objs.size := by rw [hs2.1, hd2.1]
  refine wpAny_bind (wpAny_letGo (wpAny_pure ?_))
  refine wpAny_bind (wpAny_bind (wpAny_onRaise (m := zdraw b (.ref i3)) (zdraw_item (s := ⟨g2, g, d, tk2, os⟩) D3 hi3 t3_2 fun x3 d3 tk3 p3 n3 hd3 => ?_)))
  replace hd3 : Heap.SameBut i3 g2 d3 := hd3
  have hU3 : TupO d3 TO #[x1, x2, a3] := hd3.extBut _ _ (fun q => S.T3 (q ▸ S.m3)) hT2
  refine wpAny_bind (wpAny_seqItems (s := ⟨d3, g, d, tk3, os⟩) hU3 rfl ?_)
  refine wpAny_bind (upd_tup (s := ⟨d3, g, d, tk3, os⟩) hU3 (by simp) fun g3 hT3 hs3 => ?_)
  replace hs3 : Heap.SameBut TO d3 g3 := hs3
  replace hT3 : TupO g3 TO #[x1, x2, x3] := hT3
  have hz3 : ZipO g3 z TI TO .ellipsis b := hs3.extBut _ _ S.zTO (hd3.extBut _ _ (fun q => S.z3 (q ▸ S.m3)) hz2)
  have t1_3 : St1 (i + 1) g3 := D1.frame _ _ _ t1_2 fun c hc o e => hs3.extBut c o (fun q => S.T1 (q ▸ hc)) (hd3.extBut c o (fun q => S.s3_1 (q ▸ hc)) e)
  have t2_3 : St2 (i + 1) g3 := D2.frame _ _ _ t2_2 fun c hc o e => hs3.extBut c o (fun q => S.T2 (q ▸ hc)) (hd3.extBut c o (fun q => S.s3_2 (q ▸ hc)) e)
  have t3_3 : St3 (i + 1) g3 := D3.frame _ _ _ n3 fun c hc o e => hs3.extBut c o (fun q => S.T3 (q ▸ hc)) e
  have k3 : ∀ c o, c ≠ z → c ≠ TO → c ≠ i1 → c ≠ i2 → c ≠ i3 → hp.get? c = some o → g3.get? c = some o := fun c o qz qT q1 q2 q3 e => hs3.extBut c o qT (hd3.extBut c o q3 (k2 c o qz qT q1 q2 q3 e))
  have e3 : g3.objs.size = g2.objs.size := by rw [hs3.1, hd3.1]
  refine wpAny_bind (wpAny_letGo (wpAny_pure ?_))
  refine wpAny_pure ?_
  refine wpAny_bind (wpAny_seqItems (s := ⟨g3, g, d, tk3, os⟩) hT3 rfl ?_)
  refine wpAny_bind (wpAny_newTuple ?_)
  have hsz : g3.objs.size = hp.objs.size := by rw [e3, e2, e1, hs0.1]
  have hlt : z < g3.objs.size := Heap.lt_size hz3
  refine wpAny_bind ?_
  unfold Builtin.SmallTypes.ownedTupleHandOut
  have hy : ZipO (g3.push { cls := .type "tuple", data := .seq #[x1, x2, x3] }) z TI TO .ellipsis b := Heap.get?_push_of_some _ hz3
  refine wpAny_bind (wpAny_setField_rec hy (by simp) fun u1 hu1 hv1 => wpAny_setField_rec hu1 (by simp) fun u2 hu2 hv2 => ?_)
  have up : ∀ c o, c ≠ z → g3.get? c = some o → u2.get? c = some o := fun c o q e => hv2.extBut c o q (hv1.extBut c o q (Heap.get?_push_of_some _ e))
  have hN : TupO u2 g3.objs.size #[x1, x2, x3] := hv2.extBut _ _ (Nat.ne_of_gt hlt) (hv1.extBut _ _ (Nat.ne_of_gt hlt) (Heap.get?_push_size _ rfl))
  have hZ : ZipO u2 z TI TO (rawInt g3.objs.size) b := hu2
  rw [hsz] at hN hZ
  refine wpAny_pure ⟨_, rfl, ?_⟩
  show Q (.ref g3.objs.size) ⟨u2, g, d, tk3, os⟩
  rw [hsz]
  exact hQ x1 x2 x3 u2 tk3 p1 p2 p3 hZ (up _ _ S.zTO.symm hT3) (D1.frame _ _ _ t1_3 fun c hc o e => up c o (fun q => S.z1 (q ▸ hc)) e) (D2.frame _ _ _ t2_3 fun c hc o e => up c o (fun q => S.z2 (q ▸ hc)) e) (D3.frame _ _ _ t3_3 fun c hc o e => up c o (fun q => S.z3 (q ▸ hc)) e) hN fun c o qz qT q1 q2 q3 e => up c o qz (k3 c o qz qT q1 q2 q3 e)
theorem next_end3 {z TI TO i1 i2 i3 : Addr} {fp1 fp2 fp3 : List Addr} {n : Nat} {P1 P2 P3 : Nat → Value → Prop} {St1 St2 St3 : Nat → Heap → Prop} {a1 a2 a3 : Value} {Q : Fin → Shared → Prop} (hh : A.handled = none) (S : Sep3 z TI TO i1 i2 i3 fp1 fp2 fp3) (D1 : Draws prog w A i1 fp1 n P1 St1) (D2 : Draws prog w A i2 fp2 n P2 St2) (D3 : Draws prog w A i3 fp3 n P3 St3)
    (hz : ZipO s.heap z TI TO .none b) (hTI : TupO s.heap TI #[.ref i1, .ref i2, .ref i3]) (hTO : TupO s.heap TO #[a1, a2, a3]) (st1 : St1 n s.heap) (st2 : St2 n s.heap) (st3 : St3 n s.heap)
    (hE : ∀ h' e, (∀ c o, c ≠ z → c ≠ TO → c ≠ i1 → c ≠ i2 → c ≠ i3 → s.heap.get? c = some o → h'.get? c = some o) → (∃ o, h'.get? e = some o ∧ o.cls = .type "StopIteration") → E (.ref e) { s with heap := h' }) :
    wpAny (model prog w) A (Builtin.«zip.__next__» ⟨[.ref z], []⟩) Q E s := by
  obtain ⟨hp, g, d, tk0, os⟩ := s
  refine wpAny_bind (m := field (.ref z) 2) (wpAny_field hz rfl (x := .bool b) rfl ?_)
  refine wpAny_bind (m := field (.ref z) 3) (wpAny_field hz rfl (x := .ref TI) rfl ?_)
  refine wpAny_bind (wpAny_seqItems hTI rfl ?_)
  show wpAny _ _ (Builtin.SmallTypes.ownedTupleIsFree (.ref z) >>= _) _ _ _
  rw [val_b]
  refine wpAny_bind ?_
  unfold Builtin.SmallTypes.ownedTupleIsFree
  refine wpAny_bind (wpAny_field hz rfl (x := .none) rfl (wpAny_pure ?_))
  simp only [if_true]
  refine wpAny_bind (wpAny_rule (wpAny_bind (wpAny_field hz rfl (x := .ref TO) rfl ?_)))
  refine wpAny_bind (wpAny_setField_rec hz (by simp) fun g0 hz0 hs0 => wpAny_bind ?_)
  replace hs0 : Heap.SameBut z hp g0 := hs0
  replace hz0 : ZipO g0 z TI TO .ellipsis b := hz0
  have t1_0 : St1 n g0 := D1.frame _ _ _ st1 fun c hc o e => hs0.extBut c o (fun q => S.z1 (q ▸ hc)) e
  have t2_0 : St2 n g0 := D2.frame _ _ _ st2 fun c hc o e => hs0.extBut c o (fun q => S.z2 (q ▸ hc)) e
  have t3_0 : St3 n g0 := D3.frame _ _ _ st3 fun c hc o e => hs0.extBut c o (fun q => S.z3 (q ▸ hc)) e
  simp only [List.zipIdx_cons, List.zipIdx_nil, List.forIn_cons, List.forIn_nil]
  refine wpAny_bind (wpAny_bind (wpAny_onRaise ?_))
  cases b with
  | false =>
    refine wpAny_bind (m := Builtin.SmallTypes.nextOf (.ref i1)) (D1.done ⟨g0, g, d, tk0, os⟩ _ _ t1_0 fun y e hy he => ?_)
    replace hy : Heap.ExtBut i1 g0 y := hy
    obtain ⟨oe, hoe, hce⟩ := he
    replace hoe : y.get? e = some oe := hoe
    have hzy : ZipO y z TI TO .ellipsis false := hy _ _ (fun q => S.z1 (q ▸ S.m1)) hz0
    have hez : e ≠ z := fun x => by subst x; rw [hzy] at hoe; cases hoe; simp at hce
    refine wpAny_setField_rec (s := ⟨y, g, d, tk0, os⟩) hzy (by simp) fun y2 _ hv => ?_
    replace hv : Heap.SameBut z y y2 := hv
    exact hE y2 e (fun c o qz qT q1 q2 q3 x => hv.extBut c o qz (hy c o q1 (hs0.extBut c o qz x))) ⟨oe, hv.extBut _ _ hez hoe, hce⟩
  | true =>
    refine zend_strict (s := ⟨g0, g, d, tk0, os⟩) D1 t1_0 fun y hy => ?_
    replace hy : Heap.ExtBut i1 g0 y := hy
    have hzy : ZipO y z TI TO .ellipsis true := hy _ _ (fun q => S.z1 (q ▸ S.m1)) hz0
    have t2_1 : St2 n y := D2.frame _ _ _ t2_0 fun c hc o e => hy c o (fun q => S.s1_2 (q ▸ hc)) e
    have t3_1 : St3 n y := D3.frame _ _ _ t3_0 fun c hc o e => hy c o (fun q => S.s1_3 (q ▸ hc)) e
    refine wpAny_bind (wpAny_setField_rec (s := ⟨y, g, d, tk0, os⟩) hzy (by simp) fun y1 _ hv1 => ?_)
    replace hv1 : Heap.SameBut z y y1 := hv1
    have r2_1 : St2 n y1 := D2.frame _ _ _ t2_1 fun c hc o e => hv1.extBut c o (fun q => S.z2 (q ▸ hc)) e
    have r3_1 : St3 n y1 := D3.frame _ _ _ t3_1 fun c hc o e => hv1.extBut c o (fun q => S.z3 (q ▸ hc)) e
    have k1 : ∀ c o, c ≠ z → c ≠ TO → c ≠ i1 → c ≠ i2 → c ≠ i3 → hp.get? c = some o → y1.get? c = some o := fun c o qz qT q1 q2 q3 e => hv1.extBut c o qz (hy c o q1 (hs0.extBut c o qz e))
    refine wpAny_bind ?_
    refine wpAny_bind ?_
    simp only [List.drop_succ_cons, List.drop_zero, List.zipIdx_cons, List.zipIdx_nil, List.forIn_cons, List.forIn_nil]
    refine wpAny_bind (wpAny_bind (zend_strict (s := ⟨y1, g, d, tk0, os⟩) D2 r2_1 fun y2 hy2 => ?_))
    replace hy2 : Heap.ExtBut i2 y1 y2 := hy2
    have k2 : ∀ c o, c ≠ z → c ≠ TO → c ≠ i1 → c ≠ i2 → c ≠ i3 → hp.get? c = some o → y2.get? c = some o := fun c o qz qT q1 q2 q3 e => hy2 c o q2 (k1 c o qz qT q1 q2 q3 e)
    have r3_2 : St3 n y2 := D3.frame _ _ _ r3_1 fun c hc o e => hy2 c o (fun q => S.s2_3 (q ▸ hc)) e
    refine wpAny_pure ?_
    refine wpAny_bind (wpAny_bind (zend_strict (s := ⟨y2, g, d, tk0, os⟩) D3 r3_2 fun y3 hy3 => ?_))
    replace hy3 : Heap.ExtBut i3 y2 y3 := hy3
    have k3 : ∀ c o, c ≠ z → c ≠ TO → c ≠ i1 → c ≠ i2 → c ≠ i3 → hp.get? c = some o → y3.get? c = some o := fun c o qz qT q1 q2 q3 e => hy3 c o q3 (k2 c o qz qT q1 q2 q3 e)
    refine wpAny_pure ?_
    refine wpAny_pure ?_
    exact wpAny_bind (wpAny_rule (stop_it (s := ⟨y3, g, d, tk0, os⟩) hh fun h2 e kk he => hE h2 e (fun c o qz qT q1 q2 q3 x => kk c o (k3 c o qz qT q1 q2 q3 x)) he))
theorem py_item3 {z TI TO i1 i2 i3 : Addr} {fp1 fp2 fp3 : List Addr} {n1 n2 n3 i : Nat} {P1 P2 P3 : Nat → Value → Prop} {St1 St2 St3 : Nat → Heap → Prop} {a1 a2 a3 : Value} {Q : Option Value → Shared → Prop} (S : Sep3 z TI TO i1 i2 i3 fp1 fp2 fp3) (D1 : Draws prog w A.in1 i1 fp1 n1 P1 St1) (D2 : Draws prog w A.in1 i2 fp2 n2 P2 St2) (D3 : Draws prog w A.in1 i3 fp3 n3 P3 St3)
    (hz : ZipO s.heap z TI TO .none b) (hTI : TupO s.heap TI #[.ref i1, .ref i2, .ref i3]) (hTO : TupO s.heap TO #[a1, a2, a3]) (st1 : St1 i s.heap) (st2 : St2 i s.heap) (st3 : St3 i s.heap) (hi1 : i < n1) (hi2 : i < n2) (hi3 : i < n3)
    (hQ : ∀ x1 x2 x3 h' tk, P1 i x1 → P2 i x2 → P3 i x3 → ZipO h' z TI TO (rawInt s.heap.objs.size) b → TupO h' TO #[x1, x2, x3] → St1 (i + 1) h' → St2 (i + 1) h' → St3 (i + 1) h' → TupO h' s.heap.objs.size #[x1, x2, x3] →
      (∀ c o, c ≠ z → c ≠ TO → c ≠ i1 → c ≠ i2 → c ≠ i3 → s.heap.get? c = some o → h'.get? c = some o) → Q (some (.ref s.heap.objs.size)) { s with heap := h', toks := tk }) : wpAny (model prog w) A (pyNext (.ref z)) Q E s := by
  have hT : s.TypeIs (.ref z) "zip" := ⟨_, hz, rfl⟩
  unfold pyNext
  refine wpAny_bind (wpAny_attempt (wpAny_callSpecial?_slot (name := Str.ofString "__next__") hT F.slot_zip_next (wpAny_call_entry F.slot_zip_next hT F.entry_zip_next ?_ (F.args_zip_next_1 _))))
  exact next_item3 S D1 D2 D3 hz hTI hTO st1 st2 st3 hi1 hi2 hi3 fun x1 x2 x3 h2 tk p1 p2 p3 q1 q2 u1 u2 u3 q3 q4 => wpAny_pure (hQ x1 x2 x3 h2 tk p1 p2 p3 q1 q2 u1 u2 u3 q3 q4)
theorem py_end3 {z TI TO i1 i2 i3 : Addr} {fp1 fp2 fp3 : List Addr} {n : Nat} {P1 P2 P3 : Nat → Value → Prop} {St1 St2 St3 : Nat → Heap → Prop} {a1 a2 a3 : Value} {Q : Option Value → Shared → Prop} (hh : A.handled = none) (S : Sep3 z TI TO i1 i2 i3 fp1 fp2 fp3) (D1 : Draws prog w A.in1 i1 fp1 n P1 St1) (D2 : Draws prog w A.in1 i2 fp2 n P2 St2) (D3 : Draws prog w A.in1 i3 fp3 n P3 St3)
    (hz : ZipO s.heap z TI TO .none b) (hTI : TupO s.heap TI #[.ref i1, .ref i2, .ref i3]) (hTO : TupO s.heap TO #[a1, a2, a3]) (st1 : St1 n s.heap) (st2 : St2 n s.heap) (st3 : St3 n s.heap)
    (hQ : ∀ h', (∀ c o, c ≠ z → c ≠ TO → c ≠ i1 → c ≠ i2 → c ≠ i3 → s.heap.get? c = some o → h'.get? c = some o) → Q none { s with heap := h' }) : wpAny (model prog w) A (pyNext (.ref z)) Q E s := by
  have hT : s.TypeIs (.ref z) "zip" := ⟨_, hz, rfl⟩
  unfold pyNext
  refine wpAny_bind (wpAny_attempt (wpAny_callSpecial?_slot (name := Str.ofString "__next__") hT F.slot_zip_next (wpAny_call_entry F.slot_zip_next hT F.entry_zip_next ?_ (F.args_zip_next_1 _))))
  refine next_end3 (A := A.in1) hh S D1 D2 D3 hz hTI hTO st1 st2 st3 fun h2 e kk he => ?_
  obtain ⟨o, ho, hc⟩ := he
  exact wpAny_bind (wpAny_isInstance (T := "StopIteration") (b := true) ⟨o, ho, hc⟩ isSubtype_stop (wpAny_pure (hQ _ kk)))
theorem typeCall_strict3 (v1 v2 v3 x : Value) : checkTypeCall "zip" ⟨[v1, v2, v3], [(Str.ofString "strict", x)]⟩ = pure () := by kernel_rfl
theorem newCall_strict3 (v1 v2 v3 x : Value) : checkBuiltinCall "zip.__new__" ⟨[.type "zip", v1, v2, v3], [(Str.ofString "strict", x)]⟩ = pure () := by kernel_rfl
theorem initArgs_strict3 (obj v1 v2 v3 x : Value) : argsOk "object.__init__" ⟨[obj, v1, v2, v3], [(Str.ofString "strict", x)]⟩ := by unfold argsOk; kernel_rfl
abbrev sT3 (h : Heap) (o1 o2 o3 : Obj) : Heap := ((((h.push o1).push o2).push o3).push { cls := .type "tuple", data := .seq #[.ref h.objs.size, .ref (h.push o1).objs.size, .ref ((h.push o1).push o2).objs.size] })
abbrev sO3 (h : Heap) (o1 o2 o3 : Obj) : Heap := (sT3 h o1 o2 o3).push { cls := .type "tuple", data := .seq #[.none, .none, .none] }
abbrev sZ3 (h : Heap) (o1 o2 o3 : Obj) : Heap := (sO3 h o1 o2 o3).push { cls := .type "zip", data := .fields #[.none, .bool false, .bool true, .ref (((h.push o1).push o2).push o3).objs.size, .ref (sT3 h o1 o2 o3).objs.size] }
theorem meets_strict3 {v1 v2 v3 : Value} {o1 o2 o3 : Obj} {G1 G2 G3 : Heap → Prop} (B1 : Begins v1 o1 G1) (B2 : Begins v2 o2 G2) (B3 : Begins v3 o3 G3) :
    Meets (Builtin.«zip.__new__» ⟨[.type "zip", v1, v2, v3], [(Str.ofString "strict", .bool true)]⟩) (fun _ R s => (G1 s.heap ∧ G2 s.heap ∧ G3 s.heap) ∧ R (.ok (.ret (.ref (sO3 s.heap o1 o2 o3).objs.size))) { s with heap := (sZ3 s.heap o1 o2 o3) }) :=
  .of_wp fun prog w A R s h => by
    obtain ⟨hp, g, d, tk, os⟩ := s
    obtain ⟨⟨h1, h2, h3⟩, h⟩ := h
    have hsub := sub_zip
    have e1 : (Str.ofString "strict" != ("strict" : Str)) = false := by decide +kernel
    have w1 : ∀ {A' : Around} {E : Value → Shared → Prop} {Q : Value → Shared → Prop}, Q (.ref hp.objs.size) ⟨(hp.push o1), g, d, tk, os⟩ → wpAny (model prog w) A' (pyIter v1) Q E ⟨hp, g, d, tk, os⟩ := fun q => B1.iter prog w _ _ ⟨hp, g, d, tk, os⟩ _ (B1.keeps _ _ h1 fun c u e => e) q
    have w2 : ∀ {A' : Around} {E : Value → Shared → Prop} {Q : Value → Shared → Prop}, Q (.ref (hp.push o1).objs.size) ⟨((hp.push o1).push o2), g, d, tk, os⟩ → wpAny (model prog w) A' (pyIter v2) Q E ⟨(hp.push o1), g, d, tk, os⟩ := fun q => B2.iter prog w _ _ ⟨(hp.push o1), g, d, tk, os⟩ _ (B2.keeps _ _ h2 fun c u e => (Heap.get?_push_of_some _ e)) q
    have w3 : ∀ {A' : Around} {E : Value → Shared → Prop} {Q : Value → Shared → Prop}, Q (.ref ((hp.push o1).push o2).objs.size) ⟨(((hp.push o1).push o2).push o3), g, d, tk, os⟩ → wpAny (model prog w) A' (pyIter v3) Q E ⟨((hp.push o1).push o2), g, d, tk, os⟩ := fun q => B3.iter prog w _ _ ⟨((hp.push o1).push o2), g, d, tk, os⟩ _ (B3.keeps _ _ h3 fun c u e => (Heap.get?_push_of_some _ (Heap.get?_push_of_some _ e))) q
    wp_walk using w1, w2, w3
    exact ⟨_, rfl, h⟩
/-- zip(.., strict=True) of 3: its new cells -/
theorem begins_strict3 {v1 v2 v3 : Value} {o1 o2 o3 : Obj} {G1 G2 G3 : Heap → Prop} {Q : Value → Shared → Prop} (B1 : Begins v1 o1 G1) (B2 : Begins v2 o2 G2) (B3 : Begins v3 o3 G3) (h1 : G1 s.heap) (h2 : G2 s.heap) (h3 : G3 s.heap)
    (h : ∀ h', ZipO h' (s.heap.objs.size + 5) (s.heap.objs.size + 3) (s.heap.objs.size + 4) .none true → TupO h' (s.heap.objs.size + 3) #[.ref s.heap.objs.size, .ref (s.heap.objs.size + 1), .ref (s.heap.objs.size + 2)] → TupO h' (s.heap.objs.size + 4) #[.none, .none, .none] → h'.get? s.heap.objs.size = some o1 → h'.get? (s.heap.objs.size + 1) = some o2 → h'.get? (s.heap.objs.size + 2) = some o3 → (∀ c o, s.heap.get? c = some o → h'.get? c = some o) → Q (.ref (s.heap.objs.size + 5)) { s with heap := h' }) :
    wpAny (model prog w) A (call (.type "zip") [v1, v2, v3] [(Str.ofString "strict", .bool true)]) Q E s := by
  refine callType_newKw F.called_zip (by decide) (typeCall_strict3 _ _ _ _) (newCall_strict3 _ _ _ _) (fun obj => initArgs_strict3 obj _ _ _ _) F.entry_zip_new (meets_strict3 B1 B2 B3) ⟨⟨h1, h2, h3⟩, ?_⟩
  have z1 : (s.heap.push o1).objs.size = s.heap.objs.size + 1 := by rw [Heap.size_push]
  have z2 : ((s.heap.push o1).push o2).objs.size = s.heap.objs.size + 2 := by rw [Heap.size_push, z1]
  have z3 : (((s.heap.push o1).push o2).push o3).objs.size = s.heap.objs.size + 3 := by rw [Heap.size_push, z2]
  have z4 : (sT3 s.heap o1 o2 o3).objs.size = s.heap.objs.size + 4 := by rw [Heap.size_push, z3]
  have z5 : (sO3 s.heap o1 o2 o3).objs.size = s.heap.objs.size + 5 := by rw [Heap.size_push, z4]
  have z6 : (sZ3 s.heap o1 o2 o3).objs.size = s.heap.objs.size + 6 := by rw [Heap.size_push, z5]
  have q0 : (sZ3 s.heap o1 o2 o3).get? s.heap.objs.size = some o1 := (Heap.get?_push_of_some _ (Heap.get?_push_of_some _ (Heap.get?_push_of_some _ (Heap.get?_push_of_some _ (Heap.get?_push_of_some _ (Heap.get?_push_size _ B1.free))))))
  have q1 : (sZ3 s.heap o1 o2 o3).get? (s.heap.push o1).objs.size = some o2 := (Heap.get?_push_of_some _ (Heap.get?_push_of_some _ (Heap.get?_push_of_some _ (Heap.get?_push_of_some _ (Heap.get?_push_size _ B2.free)))))
  rw [z1] at q1
  have q2 : (sZ3 s.heap o1 o2 o3).get? ((s.heap.push o1).push o2).objs.size = some o3 := (Heap.get?_push_of_some _ (Heap.get?_push_of_some _ (Heap.get?_push_of_some _ (Heap.get?_push_size _ B3.free))))
  rw [z2] at q2
  have q3 : (sZ3 s.heap o1 o2 o3).get? (((s.heap.push o1).push o2).push o3).objs.size = some ({ cls := .type "tuple", data := .seq #[.ref s.heap.objs.size, .ref (s.heap.push o1).objs.size, .ref ((s.heap.push o1).push o2).objs.size] } : Obj) := (Heap.get?_push_of_some _ (Heap.get?_push_of_some _ (Heap.get?_push_size _ rfl)))
  rw [z3] at q3
  have q4 : (sZ3 s.heap o1 o2 o3).get? (sT3 s.heap o1 o2 o3).objs.size = some ({ cls := .type "tuple", data := .seq #[.none, .none, .none] } : Obj) := (Heap.get?_push_of_some _ (Heap.get?_push_size _ rfl))
  rw [z4] at q4
  have q5 : (sZ3 s.heap o1 o2 o3).get? (sO3 s.heap o1 o2 o3).objs.size = some ({ cls := .type "zip", data := .fields #[.none, .bool false, .bool true, .ref (((s.heap.push o1).push o2).push o3).objs.size, .ref (sT3 s.heap o1 o2 o3).objs.size] } : Obj) := (Heap.get?_push_size _ rfl)
  rw [z5] at q5
  rw [z2, z1] at q3
  rw [z4, z3] at q5
  show _ ∧ _
  rw [z5]
  exact ⟨⟨_, q5, rfl⟩, h _ q5 q3 q4 q0 q1 q2 fun c o e => (Heap.get?_push_of_some _ (Heap.get?_push_of_some _ (Heap.get?_push_of_some _ (Heap.get?_push_of_some _ (Heap.get?_push_of_some _ (Heap.get?_push_of_some _ e))))))⟩
end
end CZ

namespace CZ
open PySem PySem.Spec PyProof.Rows L2
/-- a list (false) or a tuple (true) that is read -/
def SqK (K : PySem.W.Frag) (H : Hp) (p : Bool × Addr) (xs : List V) : Prop := if p.1 = true then SqT K H p.2 xs else SqL K H p.2 xs
def SqIt (h : Heap) (it : Addr) (p : Bool × Addr) (i : Nat) : Prop := if p.1 = true then h.IsTupleIter it p.2 i else h.IsListIter it p.2 i
def SeqIs (h : Heap) (p : Bool × Addr) (its : List Value) : Prop := if p.1 = true then h.IsTuple p.2 its.toArray else h.IsList p.2 its.toArray
/-- the iterator's object as it begins -/
def itO (p : Bool × Addr) : Obj := if p.1 = true then { cls := .type "tuple_iterator", data := .fields #[.ref p.2, .int 0 0] } else { cls := .type "list_iterator", data := .fields #[.ref p.2, .int 0 0] }
theorem SqIt.at {h h' : Heap} {it : Addr} {p : Bool × Addr} {i : Nat} (x : SqIt h it p i) (k : ∀ o, h.get? it = some o → h'.get? it = some o) : SqIt h' it p i := by
  obtain ⟨b, a⟩ := p
  cases b
  · exact Heap.IsListIter.at (show h.IsListIter it a i from x) k
  · exact Heap.IsTupleIter.at (show h.IsTupleIter it a i from x) k
theorem SqIt.obj {h : Heap} {it : Addr} {p : Bool × Addr} {i : Nat} (x : SqIt h it p i) : ∃ o, h.get? it = some o ∧ ∀ v, o.data ≠ .cell v := by
  obtain ⟨b, a⟩ := p
  cases b
  · obtain ⟨o, e, _, d⟩ := (show h.IsListIter it a i from x)
    exact ⟨o, e, fun v q => by rw [d] at q; cases q⟩
  · obtain ⟨o, e, _, d⟩ := (show h.IsTupleIter it a i from x)
    exact ⟨o, e, fun v q => by rw [d] at q; cases q⟩
theorem SqIt.begin {h : Heap} {it : Addr} {p : Bool × Addr} (e : h.get? it = some (itO p)) : SqIt h it p 0 := by
  obtain ⟨b, a⟩ := p
  cases b
  · exact ⟨_, e, rfl, rfl⟩
  · exact ⟨_, e, rfl, rfl⟩
theorem begins_of (p : Bool × Addr) (its : List Value) : Begins (.ref p.2) (itO p) (fun h => SeqIs h p its) := by
  obtain ⟨b, a⟩ := p
  cases b
  · exact begins_list a its.toArray
  · exact begins_tuple a its.toArray
theorem draws_of {prog : Program} {w : World} {A : Around} (hh : A.handled = none) (it : Addr) (p : Bool × Addr) (ne : p.2 ≠ it) (its : List Value) :
    Draws prog w A it [it, p.2] its.toArray.size (fun i v => its.toArray[i]? = some v) (fun i h => SqIt h it p i ∧ SeqIs h p its) := by
  obtain ⟨b, a⟩ := p
  cases b
  · exact Draws.list hh it a ne its.toArray
  · exact Draws.tuple hh it a ne its.toArray
section
variable {X : Cx} {pins : List (Addr × Obj)} {σ : L2.St} {H : Hp} {s : Shared} {p : Bool × Addr} {xs ys : List V}
theorem sq_seq (I : Inv X pins σ H s) (h : SqK X.K H p xs) : ∃ its : List Value, Vals xs its ∧ SeqIs s.heap p its ∧ p.2 < s.heap.objs.size := by
  obtain ⟨b, a⟩ := p
  cases b
  · obtain ⟨its, rv, q, _⟩ := I.list (show SqL X.K H a xs from h)
    exact ⟨its, rv, q.isList, q.lt⟩
  · obtain ⟨its, rv, q, _⟩ := I.tuple (show SqT X.K H a xs from h)
    obtain ⟨o, ho, _⟩ := id q
    exact ⟨its, rv, q, Heap.lt_size ho⟩
theorem sq_inj (I : Inv X pins σ H s) (h : SqK X.K H p xs) (h2 : SqK X.K H p ys) : xs = ys := by
  obtain ⟨b, a⟩ := p
  cases b
  · exact I.list_inj (show SqL X.K H a xs from h) h2
  · exact I.tuple_inj (show SqT X.K H a xs from h) h2
end
/-- what a zip of lists and tuples of one length gives -/
def ItZ (K : PySem.W.Frag) (l : List (Bool × Addr)) : It :=
  ⟨fun i H => ∃ vs : List V, Paired (fun p v => ∃ xs, SqK K H p xs ∧ xs[i]? = some v) l vs,
    fun i H v H2 => ∃ (T : Addr) (vs : List V), v = .ref T ∧ H T = none ∧ H2 = upd H T (.tup vs) ∧ Paired (fun p v => ∀ xs, SqK K H p xs → xs[i]? = some v) l vs,
    fun i H => ∀ p ∈ l, ∃ xs, SqK K H p xs ∧ xs.length = i⟩
def YRow (xss : List (List V)) : Nat → Hp → V → Hp → Prop := fun i H v H2 => ∃ (T : Addr) (vs : List V), v = .ref T ∧ H T = none ∧ H2 = upd H T (.tup vs) ∧ Paired (fun (xs : List V) v => xs[i]? = some v) xss vs
theorem pair_go {K : PySem.W.Frag} {H : Hp} {i : Nat} : ∀ {l : List (Bool × Addr)} {xss : List (List V)}, Paired (fun p xs => SqK K H p xs) l xss → (∀ xs ∈ xss, i < xs.length) → ∃ vs, Paired (fun p v => ∃ xs, SqK K H p xs ∧ xs[i]? = some v) l vs
  | _, _, .nil, _ => ⟨[], .nil⟩
  | _, _, .cons (b := xs) r t, h => by
    obtain ⟨vs, q⟩ := pair_go t fun ys hy => h ys (List.mem_cons_of_mem _ hy)
    have hi := h xs List.mem_cons_self
    exact ⟨xs[i] :: vs, .cons ⟨xs, r, List.getElem?_eq_getElem hi⟩ q⟩
theorem pair_row {K : PySem.W.Frag} {H : Hp} {i : Nat} : ∀ {l : List (Bool × Addr)} {xss : List (List V)} {vs : List V}, Paired (fun p xs => SqK K H p xs) l xss → Paired (fun p v => ∀ xs, SqK K H p xs → xs[i]? = some v) l vs → Paired (fun (xs : List V) v => xs[i]? = some v) xss vs
  | _, _, _, .nil, .nil => .nil
  | _, _, _, .cons r t, .cons q u => .cons (q _ r) (pair_row t u)
theorem pair_stop {K : PySem.W.Frag} {H : Hp} {n : Nat} : ∀ {l : List (Bool × Addr)} {xss : List (List V)}, Paired (fun p xs => SqK K H p xs) l xss → (∀ xs ∈ xss, xs.length = n) → ∀ p ∈ l, ∃ xs, SqK K H p xs ∧ xs.length = n
  | _, _, .nil, _, _, hp => nomatch hp
  | _, _, .cons r t, h, p, hp => by
    rcases List.mem_cons.mp hp with e | hp
    · rw [e]
      exact ⟨_, r, h _ List.mem_cons_self⟩
    · exact pair_stop t (fun ys hy => h ys (List.mem_cons_of_mem _ hy)) p hp
theorem walk_rows {K : PySem.W.Frag} {l : List (Bool × Addr)} {xss : List (List V)} {n : Nat} (hn : ∀ xs ∈ xss, xs.length = n) : Walk (ItZ K l) n (fun H => Paired (fun p xs => SqK K H p xs) l xss) (YRow xss) :=
  ⟨fun i H hi q => pair_go q fun xs hx => by rw [hn xs hx]; exact hi, fun H q => pair_stop q hn, fun i H x H2 _ q y => by
    obtain ⟨T, vs, h1, h2, h3, h4⟩ := y
    exact ⟨T, vs, h1, h2, h3, pair_row q h4⟩⟩
/-- the reading of zip(..): which are tuples is told by the flags -/
def iZ (K : PySem.W.Frag) (fl : List Bool) (ta : TA) : TI := fun σ H R => ta σ H fun vs H1 => ∃ l : List Addr, vs = l.map V.ref ∧ l.length = fl.length ∧ (∀ p ∈ fl.zip l, ∃ xs, SqK K H1 p xs) ∧ R (ItZ K (fl.zip l)) H1
theorem nin_new {M a : Nat} (j k : Nat) (h : a < M) (hjk : j ≠ k) : M + j ∉ [M + k, a] := by
  simp only [List.mem_cons, List.mem_nil_iff, or_false, not_or]
  omega
theorem looks_ty {M : Model} {h : Heap} (T : String) (_ : True) : ∃ k, (k = Keeper.frame ∨ k = Keeper.machine ∨ k = Keeper.boundFrame) ∧ PySem.W.Looks M h (keeperOf (.type T)) k := ⟨_, .inr (.inl rfl), PySem.W.Looks.of_pure rfl⟩
end CZ

namespace CZ
open PySem PySem.Spec PyProof.Rows L2
theorem turn_z2 {P : Program} {w : World} {K : PySem.W.Frag} {elts : List Expr} {kk : Nat} {tpos : Pos} {z TI TO i1 i2 : Addr} {p1 p2 : Bool × Addr} {b : Bool} (S : Sep2 z TI TO i1 i2 [i1, p1.2] [i2, p2.2]) (ne1 : p1.2 ≠ i1) (ne2 : p2.2 ≠ i2) :
    Turn P w K (.Tuple elts kk tpos) (ItZ K [p1, p2]) [z, TI, TO, i1, i2] z (fun i h => ZipO h z TI TO .none b ∧ TupO h TI #[.ref i1, .ref i2] ∧ (∃ a1 a2, TupO h TO #[a1, a2]) ∧ SqIt h i1 p1 i ∧ SqIt h i2 p2 i) where
  mem := by simp
  obj := fun i h st c hc => by
    obtain ⟨hz, hTI, ⟨a1, a2, hTO⟩, h1, h2⟩ := st
    have e : c = z ∨ c = TI ∨ c = TO ∨ c = i1 ∨ c = i2 := by simpa using hc
    rcases e with q | q | q | q | q
    · rw [q]; exact ⟨_, hz, fun v q => nomatch q⟩
    · rw [q]; exact ⟨_, hTI, fun v q => nomatch q⟩
    · rw [q]; exact ⟨_, hTO, fun v q => nomatch q⟩
    · rw [q]; exact h1.obj
    · rw [q]; exact h2.obj
  keep := fun i h h2 st k => by
    obtain ⟨hz, hTI, ⟨a1, a2, hTO⟩, h1, h2⟩ := st
    exact ⟨k z (by simp) _ hz, k TI (by simp) _ hTI, ⟨a1, a2, k TO (by simp) _ hTO⟩, h1.at fun o q => k i1 (by simp) o q, h2.at fun o q => k i2 (by simp) o q⟩
  item := by
    intro X hP hw hK hc i pins s σ H E I hf st hg
    subst hP hw hK
    obtain ⟨hz, hTI, ⟨a1, a2, hTO⟩, h1, h2⟩ := st
    obtain ⟨vs, hv⟩ := hg
    cases hv with
    | cons r1 hv1 =>
      rename_i v1 ws1
      obtain ⟨xs1, hq1, hx1⟩ := r1
      obtain ⟨its1, rv1, q1, _⟩ := sq_seq I hq1
      obtain ⟨u1, hu1, ru1⟩ := rv1.get hx1
      have g1 : its1.toArray[i]? = some u1 := by simpa using hu1
      have l1 : i < its1.toArray.size := by have := (List.getElem?_eq_some_iff.mp hu1).1; simpa using this
      cases hv1 with
      | cons r2 hv2 =>
        rename_i v2 ws2
        obtain ⟨xs2, hq2, hx2⟩ := r2
        obtain ⟨its2, rv2, q2, _⟩ := sq_seq I hq2
        obtain ⟨u2, hu2, ru2⟩ := rv2.get hx2
        have g2 : its2.toArray[i]? = some u2 := by simpa using hu2
        have l2 : i < its2.toArray.size := by have := (List.getElem?_eq_some_iff.mp hu2).1; simpa using this
        cases hv2
        have hzl : z < s.heap.objs.size := Heap.lt_size hz
        refine py_item2 S (draws_of (A := X.A.in1) (I.ok.hd hc) i1 p1 ne1 its1) (draws_of (A := X.A.in1) (I.ok.hd hc) i2 p2 ne2 its2) hz hTI hTO ⟨h1, q1⟩ ⟨h2, q2⟩ l1 l2 fun x1 x2 hA tk y1 y2 z2 TO2 n1 n2 hT hk => ?_
        obtain rfl : u1 = x1 := Option.some.inj (g1.symm.trans y1)
        obtain rfl : u2 = x2 := Option.some.inj (g2.symm.trans y2)
        refine ⟨_, rfl, go_zip (s := { s with heap := hA, toks := tk }) z2 fun hB z3 sb => ?_⟩
        replace sb : Heap.SameBut z hA hB := sb
        have hT2 : hB.get? s.heap.objs.size = some { cls := .type "tuple", data := .seq #[u1, u2] } := (sb.2 _ (Nat.ne_of_gt hzl)).trans hT
        have new : ObjOk X.prog X.w (upd H s.heap.objs.size (.tup [v1, v2])) hB s.heap.objs.size (.tup [v1, v2]) := ⟨by show 2 ≤ sizeLine; decide, [u1, u2], (.cons ru1 (.cons ru2 .nil)), ⟨_, hT2, rfl, _, rfl⟩⟩
        have I1 : Inv X pins σ (upd H s.heap.objs.size (.tup [v1, v2])) { s with heap := hB, toks := tk } := I.turnedNew (t' := tk) (ch := [z, TI, TO, i1, i2]) (fun c o hb q => (sb.2 c (fun q => hb (by simp [q]))).trans (hk c o (fun q => hb (by simp [q])) (fun q => hb (by simp [q])) (fun q => hb (by simp [q])) (fun q => hb (by simp [q])) q)) hf (Nat.le_refl _) new
        refine ⟨.ref s.heap.objs.size, _, I1, rfl, ⟨_, _, rfl, I.hok.fresh (Nat.le_refl _), rfl, (.cons (fun l hl => by rw [sq_inj I hl hq1]; exact hx1) (.cons (fun l hl => by rw [sq_inj I hl hq2]; exact hx2) .nil))⟩, ⟨z3, (sb.2 _ S.zTI.symm).trans (hk _ _ S.zTI.symm S.TOTI.symm S.I1 S.I2 hTI), ⟨u1, u2, (sb.2 _ S.zTO.symm).trans TO2⟩, (n1.1.at fun o q => (sb.2 _ (fun q => S.z1 (by rw [← q]; exact S.m1))).trans q), (n2.1.at fun o q => (sb.2 _ (fun q => S.z2 (by rw [← q]; exact S.m2))).trans q)⟩, fun c hcm => ?_⟩
        have hlt : c < s.heap.objs.size := by
          have e : c = z ∨ c = TI ∨ c = TO ∨ c = i1 ∨ c = i2 := by simpa using hcm
          rcases e with q | q | q | q | q
          · rw [q]; exact hzl
          · rw [q]; exact Heap.lt_size hTI
          · rw [q]; exact Heap.lt_size hTO
          · rw [q]; obtain ⟨_, e1, _⟩ := h1.obj; exact Heap.lt_size e1
          · rw [q]; obtain ⟨_, e1, _⟩ := h2.obj; exact Heap.lt_size e1
        rw [upd_ne (Nat.ne_of_lt hlt)]
        exact (hf c hcm).1
  done := by
    intro X hP hw hK hc i pins s σ H E I hf st hg
    subst hP hw hK
    obtain ⟨hz, hTI, ⟨a1, a2, hTO⟩, h1, h2⟩ := st
    obtain ⟨xs1, hq1, hx1⟩ := hg p1 (by simp)
    obtain ⟨its1, rv1, q1, _⟩ := sq_seq I hq1
    have l1 : its1.toArray.size = i := by have := rv1.length; simp; omega
    have D1 := draws_of (prog := X.prog) (w := X.w) (A := X.A.in1) (I.ok.hd hc) i1 p1 ne1 its1
    rw [l1] at D1
    obtain ⟨xs2, hq2, hx2⟩ := hg p2 (by simp)
    obtain ⟨its2, rv2, q2, _⟩ := sq_seq I hq2
    have l2 : its2.toArray.size = i := by have := rv2.length; simp; omega
    have D2 := draws_of (prog := X.prog) (w := X.w) (A := X.A.in1) (I.ok.hd hc) i2 p2 ne2 its2
    rw [l2] at D2
    exact py_end2 (I.ok.hd hc) S D1 D2 hz hTI hTO ⟨h1, q1⟩ ⟨h2, q2⟩ fun h2 hk => ⟨rfl, I.turnedL (t' := s.toks) (ch := [z, TI, TO, i1, i2]) (fun c o hb q => hk c o (fun q => hb (by simp [q])) (fun q => hb (by simp [q])) (fun q => hb (by simp [q])) (fun q => hb (by simp [q])) q) hf⟩
  self := fun A i s Q E st h => iter_zip st.1 h
theorem sep_new2 {M : Nat} {p1 p2 : Bool × Addr} (h1 : p1.2 < M) (h2 : p2.2 < M) : Sep2 (M + 4) (M + 2) (M + 3) M (M + 1) [M, p1.2] [M + 1, p2.2] where
  zTO := by show (M + 4 : Nat) ≠ M + 3; omega
  zTI := by show (M + 4 : Nat) ≠ M + 2; omega
  TOTI := by show (M + 3 : Nat) ≠ M + 2; omega
  m1 := by simp
  z1 := nin_new (a := p1.2) 4 0 h1 (by decide)
  T1 := nin_new (a := p1.2) 3 0 h1 (by decide)
  I1 := by show (M + 2 : Nat) ≠ M; omega
  s2_1 := nin_new (a := p1.2) 1 0 h1 (by decide)
  m2 := by simp
  z2 := nin_new (a := p2.2) 4 1 h2 (by decide)
  T2 := nin_new (a := p2.2) 3 1 h2 (by decide)
  I2 := by show (M + 2 : Nat) ≠ M + 1; omega
  s1_2 := nin_new (a := p2.2) 0 1 h2 (by decide)
theorem pi_z2s {X : Cx} {e1 e2 : Expr} {ta : TA} {p pos tpos : Pos} {elts : List Expr} {kk : Nat} {jj : Nat} {kp kp2 : Pos} {fl : List Bool} (hfl : fl.length = 2) (hg : Gl X "zip") (hm : X.mg "zip" = none) (ha : PA X [e1, e2] ta)
    (hs : starEach [e1, e2] X.env = (false, eval e1 X.env) :: starEach [e2] X.env := by rfl) (hpl : (backTo pos (starEach [e2] X.env)).any (·.1) = false := by rfl) :
    PI X (.Tuple elts kk tpos) (.Call (.Name "zip" p) [e1, e2] [⟨some "strict", .Constant (.bool true) jj kp, kp2⟩] pos) (iZ X.K fl ta) := by
  refine ⟨fun pins s σ H R I h => ?_⟩
  refine wpAny_Call_Name_kw (ld_blt I hg hm PyProof.Rows.boot_zip ?_)
  refine PySem.W.callWith_of (P := fun _ => True) ?_ (fun h _ => looks_ty "zip" True.intro) ?_
  · show ((backTo pos (starEach _ X.env)).any (·.1) || false) = false
    rw [hs, Bool.or_false]
    exact hpl
  have he : backTo pos (starEach [e1, e2] X.env) = (false, eval e1 X.env) :: backTo pos (starEach [e2] X.env) := by rw [hs]; rfl
  rw [he]
  refine PyProof.Rows.evalArgs_kwB rfl ?_
  rw [← he]
  refine thn (ha.run pos pins s σ H _ I h) fun us s0 ⟨vs, H1, I0, r1, q1⟩ => ?_
  refine PyProof.Rows.kws_cons (Constant_bool (PyProof.Rows.kws_nil ⟨True.intro, ?_⟩))
  have I1 := I0
  obtain ⟨l, ev, el, hl, q1⟩ := q1
  subst ev
  obtain ⟨b1, b2, rfl⟩ : ∃ b1 b2 : Bool, fl = [b1, b2] := match fl, hfl with | [_, _], _ => ⟨_, _, rfl⟩
  obtain ⟨c1, c2, rfl⟩ : ∃ c1 c2 : Addr, l = [c1, c2] := match l, el with | [_, _], _ => ⟨_, _, rfl⟩
  cases r1 with
  | cons r_1 rr1 =>
    cases r_1
    cases rr1 with
    | cons r_2 rr2 =>
      cases r_2
      cases rr2
      obtain ⟨xs1, hq1⟩ := hl (b1, c1) (by simp)
      obtain ⟨its1, rv1, g1, lt1⟩ := sq_seq I1 hq1
      obtain ⟨xs2, hq2⟩ := hl (b2, c2) (by simp)
      obtain ⟨its2, rv2, g2, lt2⟩ := sq_seq I1 hq2
      have frs : ∀ c, c ∈ [s0.heap.objs.size + 4, s0.heap.objs.size + 2, s0.heap.objs.size + 3, s0.heap.objs.size, s0.heap.objs.size + 1] → FpOk X pins H1 c := fun c hcm => by
        have e : c = s0.heap.objs.size + 4 ∨ c = s0.heap.objs.size + 2 ∨ c = s0.heap.objs.size + 3 ∨ c = s0.heap.objs.size ∨ c = s0.heap.objs.size + 1 := by simpa using hcm
        have hle : s0.heap.objs.size ≤ c := by
          rcases e with q | q | q | q | q
          · rw [q]; exact Nat.le_add_right _ _
          · rw [q]; exact Nat.le_add_right _ _
          · rw [q]; exact Nat.le_add_right _ _
          · rw [q]; exact Nat.le_refl _
          · rw [q]; exact Nat.le_add_right _ _
        exact I1.fpOk hle (I1.hok.fresh hle)
      refine begins_strict2 (begins_of (b1, c1) its1) (begins_of (b2, c2) its2) g1 g2 fun hA hz hTI hTO y1 y2 kk => iter_zip hz ?_
      have I2 : Inv X pins σ H1 { s0 with heap := hA } := I1.kept (t' := s0.toks) kk
      exact ⟨_, [s0.heap.objs.size + 4, s0.heap.objs.size + 2, s0.heap.objs.size + 3, s0.heap.objs.size, s0.heap.objs.size + 1], _, _, H1, rfl, I2, turn_z2 (sep_new2 lt1 lt2) (Nat.ne_of_lt lt1) (Nat.ne_of_lt (Nat.lt_of_lt_of_le lt2 (Nat.le_add_right _ 1))), ⟨hz, hTI, ⟨_, _, hTO⟩, SqIt.begin y1, SqIt.begin y2⟩, frs, q1⟩
theorem pi_z2 {X : Cx} {e1 e2 : Expr} {ta : TA} {p pos tpos : Pos} {elts : List Expr} {kk : Nat} {fl : List Bool} (hfl : fl.length = 2) (hg : Gl X "zip") (hm : X.mg "zip" = none) (ha : PA X [e1, e2] ta)
    (hs : starEach [e1, e2] X.env = (false, eval e1 X.env) :: starEach [e2] X.env := by rfl) (hpl : (backTo pos (starEach [e2] X.env)).any (·.1) = false := by rfl) :
    PI X (.Tuple elts kk tpos) (.Call (.Name "zip" p) [e1, e2] [] pos) (iZ X.K fl ta) := by
  refine ⟨fun pins s σ H R I h => ?_⟩
  refine Call_ (ld_blt I hg hm PyProof.Rows.boot_zip (PyProof.Rows.callWith_type1 (thn (ha.run pos pins s σ H _ I h) fun us s0 ⟨vs, H1, I1, r1, q1⟩ => ?_) hs hpl))
  obtain ⟨l, ev, el, hl, q1⟩ := q1
  subst ev
  obtain ⟨b1, b2, rfl⟩ : ∃ b1 b2 : Bool, fl = [b1, b2] := match fl, hfl with | [_, _], _ => ⟨_, _, rfl⟩
  obtain ⟨c1, c2, rfl⟩ : ∃ c1 c2 : Addr, l = [c1, c2] := match l, el with | [_, _], _ => ⟨_, _, rfl⟩
  cases r1 with
  | cons r_1 rr1 =>
    cases r_1
    cases rr1 with
    | cons r_2 rr2 =>
      cases r_2
      cases rr2
      obtain ⟨xs1, hq1⟩ := hl (b1, c1) (by simp)
      obtain ⟨its1, rv1, g1, lt1⟩ := sq_seq I1 hq1
      obtain ⟨xs2, hq2⟩ := hl (b2, c2) (by simp)
      obtain ⟨its2, rv2, g2, lt2⟩ := sq_seq I1 hq2
      have frs : ∀ c, c ∈ [s0.heap.objs.size + 4, s0.heap.objs.size + 2, s0.heap.objs.size + 3, s0.heap.objs.size, s0.heap.objs.size + 1] → FpOk X pins H1 c := fun c hcm => by
        have e : c = s0.heap.objs.size + 4 ∨ c = s0.heap.objs.size + 2 ∨ c = s0.heap.objs.size + 3 ∨ c = s0.heap.objs.size ∨ c = s0.heap.objs.size + 1 := by simpa using hcm
        have hle : s0.heap.objs.size ≤ c := by
          rcases e with q | q | q | q | q
          · rw [q]; exact Nat.le_add_right _ _
          · rw [q]; exact Nat.le_add_right _ _
          · rw [q]; exact Nat.le_add_right _ _
          · rw [q]; exact Nat.le_refl _
          · rw [q]; exact Nat.le_add_right _ _
        exact I1.fpOk hle (I1.hok.fresh hle)
      refine zip_begins2 (begins_of (b1, c1) its1) (begins_of (b2, c2) its2) g1 g2 fun hA hz hTI hTO y1 y2 _ kk => iter_zip (b := false) hz ?_
      have I2 : Inv X pins σ H1 { s0 with heap := hA } := I1.kept (t' := s0.toks) kk
      exact ⟨_, [s0.heap.objs.size + 4, s0.heap.objs.size + 2, s0.heap.objs.size + 3, s0.heap.objs.size, s0.heap.objs.size + 1], _, _, H1, rfl, I2, turn_z2 (sep_new2 lt1 lt2) (Nat.ne_of_lt lt1) (Nat.ne_of_lt (Nat.lt_of_lt_of_le lt2 (Nat.le_add_right _ 1))), ⟨hz, hTI, ⟨_, _, hTO⟩, SqIt.begin y1, SqIt.begin y2⟩, frs, q1⟩
theorem turn_z3 {P : Program} {w : World} {K : PySem.W.Frag} {elts : List Expr} {kk : Nat} {tpos : Pos} {z TI TO i1 i2 i3 : Addr} {p1 p2 p3 : Bool × Addr} {b : Bool} (S : Sep3 z TI TO i1 i2 i3 [i1, p1.2] [i2, p2.2] [i3, p3.2]) (ne1 : p1.2 ≠ i1) (ne2 : p2.2 ≠ i2) (ne3 : p3.2 ≠ i3) :
    Turn P w K (.Tuple elts kk tpos) (ItZ K [p1, p2, p3]) [z, TI, TO, i1, i2, i3] z (fun i h => ZipO h z TI TO .none b ∧ TupO h TI #[.ref i1, .ref i2, .ref i3] ∧ (∃ a1 a2 a3, TupO h TO #[a1, a2, a3]) ∧ SqIt h i1 p1 i ∧ SqIt h i2 p2 i ∧ SqIt h i3 p3 i) where
  mem := by simp
  obj := fun i h st c hc => by
    obtain ⟨hz, hTI, ⟨a1, a2, a3, hTO⟩, h1, h2, h3⟩ := st
    have e : c = z ∨ c = TI ∨ c = TO ∨ c = i1 ∨ c = i2 ∨ c = i3 := by simpa using hc
    rcases e with q | q | q | q | q | q
    · rw [q]; exact ⟨_, hz, fun v q => nomatch q⟩
    · rw [q]; exact ⟨_, hTI, fun v q => nomatch q⟩
    · rw [q]; exact ⟨_, hTO, fun v q => nomatch q⟩
    · rw [q]; exact h1.obj
    · rw [q]; exact h2.obj
    · rw [q]; exact h3.obj
  keep := fun i h h2 st k => by
    obtain ⟨hz, hTI, ⟨a1, a2, a3, hTO⟩, h1, h2, h3⟩ := st
    exact ⟨k z (by simp) _ hz, k TI (by simp) _ hTI, ⟨a1, a2, a3, k TO (by simp) _ hTO⟩, h1.at fun o q => k i1 (by simp) o q, h2.at fun o q => k i2 (by simp) o q, h3.at fun o q => k i3 (by simp) o q⟩
  item := by
    intro X hP hw hK hc i pins s σ H E I hf st hg
    subst hP hw hK
    obtain ⟨hz, hTI, ⟨a1, a2, a3, hTO⟩, h1, h2, h3⟩ := st
    obtain ⟨vs, hv⟩ := hg
    cases hv with
    | cons r1 hv1 =>
      rename_i v1 ws1
      obtain ⟨xs1, hq1, hx1⟩ := r1
      obtain ⟨its1, rv1, q1, _⟩ := sq_seq I hq1
      obtain ⟨u1, hu1, ru1⟩ := rv1.get hx1
      have g1 : its1.toArray[i]? = some u1 := by simpa using hu1
      have l1 : i < its1.toArray.size := by have := (List.getElem?_eq_some_iff.mp hu1).1; simpa using this
      cases hv1 with
      | cons r2 hv2 =>
        rename_i v2 ws2
        obtain ⟨xs2, hq2, hx2⟩ := r2
        obtain ⟨its2, rv2, q2, _⟩ := sq_seq I hq2
        obtain ⟨u2, hu2, ru2⟩ := rv2.get hx2
        have g2 : its2.toArray[i]? = some u2 := by simpa using hu2
        have l2 : i < its2.toArray.size := by have := (List.getElem?_eq_some_iff.mp hu2).1; simpa using this
        cases hv2 with
        | cons r3 hv3 =>
          rename_i v3 ws3
          obtain ⟨xs3, hq3, hx3⟩ := r3
          obtain ⟨its3, rv3, q3, _⟩ := sq_seq I hq3
          obtain ⟨u3, hu3, ru3⟩ := rv3.get hx3
          have g3 : its3.toArray[i]? = some u3 := by simpa using hu3
          have l3 : i < its3.toArray.size := by have := (List.getElem?_eq_some_iff.mp hu3).1; simpa using this
          cases hv3
          have hzl : z < s.heap.objs.size := Heap.lt_size hz
          refine py_item3 S (draws_of (A := X.A.in1) (I.ok.hd hc) i1 p1 ne1 its1) (draws_of (A := X.A.in1) (I.ok.hd hc) i2 p2 ne2 its2) (draws_of (A := X.A.in1) (I.ok.hd hc) i3 p3 ne3 its3) hz hTI hTO ⟨h1, q1⟩ ⟨h2, q2⟩ ⟨h3, q3⟩ l1 l2 l3 fun x1 x2 x3 hA tk y1 y2 y3 z2 TO2 n1 n2 n3 hT hk => ?_
          obtain rfl : u1 = x1 := Option.some.inj (g1.symm.trans y1)
          obtain rfl : u2 = x2 := Option.some.inj (g2.symm.trans y2)
          obtain rfl : u3 = x3 := Option.some.inj (g3.symm.trans y3)
          refine ⟨_, rfl, go_zip (s := { s with heap := hA, toks := tk }) z2 fun hB z3 sb => ?_⟩
          replace sb : Heap.SameBut z hA hB := sb
          have hT2 : hB.get? s.heap.objs.size = some { cls := .type "tuple", data := .seq #[u1, u2, u3] } := (sb.2 _ (Nat.ne_of_gt hzl)).trans hT
          have new : ObjOk X.prog X.w (upd H s.heap.objs.size (.tup [v1, v2, v3])) hB s.heap.objs.size (.tup [v1, v2, v3]) := ⟨by show 3 ≤ sizeLine; decide, [u1, u2, u3], (.cons ru1 (.cons ru2 (.cons ru3 .nil))), ⟨_, hT2, rfl, _, rfl⟩⟩
          have I1 : Inv X pins σ (upd H s.heap.objs.size (.tup [v1, v2, v3])) { s with heap := hB, toks := tk } := I.turnedNew (t' := tk) (ch := [z, TI, TO, i1, i2, i3]) (fun c o hb q => (sb.2 c (fun q => hb (by simp [q]))).trans (hk c o (fun q => hb (by simp [q])) (fun q => hb (by simp [q])) (fun q => hb (by simp [q])) (fun q => hb (by simp [q])) (fun q => hb (by simp [q])) q)) hf (Nat.le_refl _) new
          refine ⟨.ref s.heap.objs.size, _, I1, rfl, ⟨_, _, rfl, I.hok.fresh (Nat.le_refl _), rfl, (.cons (fun l hl => by rw [sq_inj I hl hq1]; exact hx1) (.cons (fun l hl => by rw [sq_inj I hl hq2]; exact hx2) (.cons (fun l hl => by rw [sq_inj I hl hq3]; exact hx3) .nil)))⟩, ⟨z3, (sb.2 _ S.zTI.symm).trans (hk _ _ S.zTI.symm S.TOTI.symm S.I1 S.I2 S.I3 hTI), ⟨u1, u2, u3, (sb.2 _ S.zTO.symm).trans TO2⟩, (n1.1.at fun o q => (sb.2 _ (fun q => S.z1 (by rw [← q]; exact S.m1))).trans q), (n2.1.at fun o q => (sb.2 _ (fun q => S.z2 (by rw [← q]; exact S.m2))).trans q), (n3.1.at fun o q => (sb.2 _ (fun q => S.z3 (by rw [← q]; exact S.m3))).trans q)⟩, fun c hcm => ?_⟩
          have hlt : c < s.heap.objs.size := by
            have e : c = z ∨ c = TI ∨ c = TO ∨ c = i1 ∨ c = i2 ∨ c = i3 := by simpa using hcm
            rcases e with q | q | q | q | q | q
            · rw [q]; exact hzl
            · rw [q]; exact Heap.lt_size hTI
            · rw [q]; exact Heap.lt_size hTO
            · rw [q]; obtain ⟨_, e1, _⟩ := h1.obj; exact Heap.lt_size e1
            · rw [q]; obtain ⟨_, e1, _⟩ := h2.obj; exact Heap.lt_size e1
            · rw [q]; obtain ⟨_, e1, _⟩ := h3.obj; exact Heap.lt_size e1
          rw [upd_ne (Nat.ne_of_lt hlt)]
          exact (hf c hcm).1
  done := by
    intro X hP hw hK hc i pins s σ H E I hf st hg
    subst hP hw hK
    obtain ⟨hz, hTI, ⟨a1, a2, a3, hTO⟩, h1, h2, h3⟩ := st
    obtain ⟨xs1, hq1, hx1⟩ := hg p1 (by simp)
    obtain ⟨its1, rv1, q1, _⟩ := sq_seq I hq1
    have l1 : its1.toArray.size = i := by have := rv1.length; simp; omega
    have D1 := draws_of (prog := X.prog) (w := X.w) (A := X.A.in1) (I.ok.hd hc) i1 p1 ne1 its1
    rw [l1] at D1
    obtain ⟨xs2, hq2, hx2⟩ := hg p2 (by simp)
    obtain ⟨its2, rv2, q2, _⟩ := sq_seq I hq2
    have l2 : its2.toArray.size = i := by have := rv2.length; simp; omega
    have D2 := draws_of (prog := X.prog) (w := X.w) (A := X.A.in1) (I.ok.hd hc) i2 p2 ne2 its2
    rw [l2] at D2
    obtain ⟨xs3, hq3, hx3⟩ := hg p3 (by simp)
    obtain ⟨its3, rv3, q3, _⟩ := sq_seq I hq3
    have l3 : its3.toArray.size = i := by have := rv3.length; simp; omega
    have D3 := draws_of (prog := X.prog) (w := X.w) (A := X.A.in1) (I.ok.hd hc) i3 p3 ne3 its3
    rw [l3] at D3
    exact py_end3 (I.ok.hd hc) S D1 D2 D3 hz hTI hTO ⟨h1, q1⟩ ⟨h2, q2⟩ ⟨h3, q3⟩ fun h2 hk => ⟨rfl, I.turnedL (t' := s.toks) (ch := [z, TI, TO, i1, i2, i3]) (fun c o hb q => hk c o (fun q => hb (by simp [q])) (fun q => hb (by simp [q])) (fun q => hb (by simp [q])) (fun q => hb (by simp [q])) (fun q => hb (by simp [q])) q) hf⟩
  self := fun A i s Q E st h => iter_zip st.1 h
theorem sep_new3 {M : Nat} {p1 p2 p3 : Bool × Addr} (h1 : p1.2 < M) (h2 : p2.2 < M) (h3 : p3.2 < M) : Sep3 (M + 5) (M + 3) (M + 4) M (M + 1) (M + 2) [M, p1.2] [M + 1, p2.2] [M + 2, p3.2] where
  zTO := by show (M + 5 : Nat) ≠ M + 4; omega
  zTI := by show (M + 5 : Nat) ≠ M + 3; omega
  TOTI := by show (M + 4 : Nat) ≠ M + 3; omega
  m1 := by simp
  z1 := nin_new (a := p1.2) 5 0 h1 (by decide)
  T1 := nin_new (a := p1.2) 4 0 h1 (by decide)
  I1 := by show (M + 3 : Nat) ≠ M; omega
  s2_1 := nin_new (a := p1.2) 1 0 h1 (by decide)
  s3_1 := nin_new (a := p1.2) 2 0 h1 (by decide)
  m2 := by simp
  z2 := nin_new (a := p2.2) 5 1 h2 (by decide)
  T2 := nin_new (a := p2.2) 4 1 h2 (by decide)
  I2 := by show (M + 3 : Nat) ≠ M + 1; omega
  s1_2 := nin_new (a := p2.2) 0 1 h2 (by decide)
  s3_2 := nin_new (a := p2.2) 2 1 h2 (by decide)
  m3 := by simp
  z3 := nin_new (a := p3.2) 5 2 h3 (by decide)
  T3 := nin_new (a := p3.2) 4 2 h3 (by decide)
  I3 := by show (M + 3 : Nat) ≠ M + 2; omega
  s1_3 := nin_new (a := p3.2) 0 2 h3 (by decide)
  s2_3 := nin_new (a := p3.2) 1 2 h3 (by decide)
theorem pi_z3s {X : Cx} {e1 e2 e3 : Expr} {ta : TA} {p pos tpos : Pos} {elts : List Expr} {kk : Nat} {jj : Nat} {kp kp2 : Pos} {fl : List Bool} (hfl : fl.length = 3) (hg : Gl X "zip") (hm : X.mg "zip" = none) (ha : PA X [e1, e2, e3] ta)
    (hs : starEach [e1, e2, e3] X.env = (false, eval e1 X.env) :: starEach [e2, e3] X.env := by rfl) (hpl : (backTo pos (starEach [e2, e3] X.env)).any (·.1) = false := by rfl) :
    PI X (.Tuple elts kk tpos) (.Call (.Name "zip" p) [e1, e2, e3] [⟨some "strict", .Constant (.bool true) jj kp, kp2⟩] pos) (iZ X.K fl ta) := by
  refine ⟨fun pins s σ H R I h => ?_⟩
  refine wpAny_Call_Name_kw (ld_blt I hg hm PyProof.Rows.boot_zip ?_)
  refine PySem.W.callWith_of (P := fun _ => True) ?_ (fun h _ => looks_ty "zip" True.intro) ?_
  · show ((backTo pos (starEach _ X.env)).any (·.1) || false) = false
    rw [hs, Bool.or_false]
    exact hpl
  have he : backTo pos (starEach [e1, e2, e3] X.env) = (false, eval e1 X.env) :: backTo pos (starEach [e2, e3] X.env) := by rw [hs]; rfl
  rw [he]
  refine PyProof.Rows.evalArgs_kwB rfl ?_
  rw [← he]
  refine thn (ha.run pos pins s σ H _ I h) fun us s0 ⟨vs, H1, I0, r1, q1⟩ => ?_
  refine PyProof.Rows.kws_cons (Constant_bool (PyProof.Rows.kws_nil ⟨True.intro, ?_⟩))
  have I1 := I0
  obtain ⟨l, ev, el, hl, q1⟩ := q1
  subst ev
  obtain ⟨b1, b2, b3, rfl⟩ : ∃ b1 b2 b3 : Bool, fl = [b1, b2, b3] := match fl, hfl with | [_, _, _], _ => ⟨_, _, _, rfl⟩
  obtain ⟨c1, c2, c3, rfl⟩ : ∃ c1 c2 c3 : Addr, l = [c1, c2, c3] := match l, el with | [_, _, _], _ => ⟨_, _, _, rfl⟩
  cases r1 with
  | cons r_1 rr1 =>
    cases r_1
    cases rr1 with
    | cons r_2 rr2 =>
      cases r_2
      cases rr2 with
      | cons r_3 rr3 =>
        cases r_3
        cases rr3
        obtain ⟨xs1, hq1⟩ := hl (b1, c1) (by simp)
        obtain ⟨its1, rv1, g1, lt1⟩ := sq_seq I1 hq1
        obtain ⟨xs2, hq2⟩ := hl (b2, c2) (by simp)
        obtain ⟨its2, rv2, g2, lt2⟩ := sq_seq I1 hq2
        obtain ⟨xs3, hq3⟩ := hl (b3, c3) (by simp)
        obtain ⟨its3, rv3, g3, lt3⟩ := sq_seq I1 hq3
        have frs : ∀ c, c ∈ [s0.heap.objs.size + 5, s0.heap.objs.size + 3, s0.heap.objs.size + 4, s0.heap.objs.size, s0.heap.objs.size + 1, s0.heap.objs.size + 2] → FpOk X pins H1 c := fun c hcm => by
          have e : c = s0.heap.objs.size + 5 ∨ c = s0.heap.objs.size + 3 ∨ c = s0.heap.objs.size + 4 ∨ c = s0.heap.objs.size ∨ c = s0.heap.objs.size + 1 ∨ c = s0.heap.objs.size + 2 := by simpa using hcm
          have hle : s0.heap.objs.size ≤ c := by
            rcases e with q | q | q | q | q | q
            · rw [q]; exact Nat.le_add_right _ _
            · rw [q]; exact Nat.le_add_right _ _
            · rw [q]; exact Nat.le_add_right _ _
            · rw [q]; exact Nat.le_refl _
            · rw [q]; exact Nat.le_add_right _ _
            · rw [q]; exact Nat.le_add_right _ _
          exact I1.fpOk hle (I1.hok.fresh hle)
        refine begins_strict3 (begins_of (b1, c1) its1) (begins_of (b2, c2) its2) (begins_of (b3, c3) its3) g1 g2 g3 fun hA hz hTI hTO y1 y2 y3 kk => iter_zip hz ?_
        have I2 : Inv X pins σ H1 { s0 with heap := hA } := I1.kept (t' := s0.toks) kk
        exact ⟨_, [s0.heap.objs.size + 5, s0.heap.objs.size + 3, s0.heap.objs.size + 4, s0.heap.objs.size, s0.heap.objs.size + 1, s0.heap.objs.size + 2], _, _, H1, rfl, I2, turn_z3 (sep_new3 lt1 lt2 lt3) (Nat.ne_of_lt lt1) (Nat.ne_of_lt (Nat.lt_of_lt_of_le lt2 (Nat.le_add_right _ 1))) (Nat.ne_of_lt (Nat.lt_of_lt_of_le lt3 (Nat.le_add_right _ 2))), ⟨hz, hTI, ⟨_, _, _, hTO⟩, SqIt.begin y1, SqIt.begin y2, SqIt.begin y3⟩, frs, q1⟩
theorem pi_z3 {X : Cx} {e1 e2 e3 : Expr} {ta : TA} {p pos tpos : Pos} {elts : List Expr} {kk : Nat} {fl : List Bool} (hfl : fl.length = 3) (hg : Gl X "zip") (hm : X.mg "zip" = none) (ha : PA X [e1, e2, e3] ta)
    (hs : starEach [e1, e2, e3] X.env = (false, eval e1 X.env) :: starEach [e2, e3] X.env := by rfl) (hpl : (backTo pos (starEach [e2, e3] X.env)).any (·.1) = false := by rfl) :
    PI X (.Tuple elts kk tpos) (.Call (.Name "zip" p) [e1, e2, e3] [] pos) (iZ X.K fl ta) := by
  refine ⟨fun pins s σ H R I h => ?_⟩
  refine Call_ (ld_blt I hg hm PyProof.Rows.boot_zip (PyProof.Rows.callWith_type1 (thn (ha.run pos pins s σ H _ I h) fun us s0 ⟨vs, H1, I1, r1, q1⟩ => ?_) hs hpl))
  obtain ⟨l, ev, el, hl, q1⟩ := q1
  subst ev
  obtain ⟨b1, b2, b3, rfl⟩ : ∃ b1 b2 b3 : Bool, fl = [b1, b2, b3] := match fl, hfl with | [_, _, _], _ => ⟨_, _, _, rfl⟩
  obtain ⟨c1, c2, c3, rfl⟩ : ∃ c1 c2 c3 : Addr, l = [c1, c2, c3] := match l, el with | [_, _, _], _ => ⟨_, _, _, rfl⟩
  cases r1 with
  | cons r_1 rr1 =>
    cases r_1
    cases rr1 with
    | cons r_2 rr2 =>
      cases r_2
      cases rr2 with
      | cons r_3 rr3 =>
        cases r_3
        cases rr3
        obtain ⟨xs1, hq1⟩ := hl (b1, c1) (by simp)
        obtain ⟨its1, rv1, g1, lt1⟩ := sq_seq I1 hq1
        obtain ⟨xs2, hq2⟩ := hl (b2, c2) (by simp)
        obtain ⟨its2, rv2, g2, lt2⟩ := sq_seq I1 hq2
        obtain ⟨xs3, hq3⟩ := hl (b3, c3) (by simp)
        obtain ⟨its3, rv3, g3, lt3⟩ := sq_seq I1 hq3
        have frs : ∀ c, c ∈ [s0.heap.objs.size + 5, s0.heap.objs.size + 3, s0.heap.objs.size + 4, s0.heap.objs.size, s0.heap.objs.size + 1, s0.heap.objs.size + 2] → FpOk X pins H1 c := fun c hcm => by
          have e : c = s0.heap.objs.size + 5 ∨ c = s0.heap.objs.size + 3 ∨ c = s0.heap.objs.size + 4 ∨ c = s0.heap.objs.size ∨ c = s0.heap.objs.size + 1 ∨ c = s0.heap.objs.size + 2 := by simpa using hcm
          have hle : s0.heap.objs.size ≤ c := by
            rcases e with q | q | q | q | q | q
            · rw [q]; exact Nat.le_add_right _ _
            · rw [q]; exact Nat.le_add_right _ _
            · rw [q]; exact Nat.le_add_right _ _
            · rw [q]; exact Nat.le_refl _
            · rw [q]; exact Nat.le_add_right _ _
            · rw [q]; exact Nat.le_add_right _ _
          exact I1.fpOk hle (I1.hok.fresh hle)
        refine zip_begins3 (begins_of (b1, c1) its1) (begins_of (b2, c2) its2) (begins_of (b3, c3) its3) g1 g2 g3 fun hA hz hTI hTO y1 y2 y3 _ kk => iter_zip (b := false) hz ?_
        have I2 : Inv X pins σ H1 { s0 with heap := hA } := I1.kept (t' := s0.toks) kk
        exact ⟨_, [s0.heap.objs.size + 5, s0.heap.objs.size + 3, s0.heap.objs.size + 4, s0.heap.objs.size, s0.heap.objs.size + 1, s0.heap.objs.size + 2], _, _, H1, rfl, I2, turn_z3 (sep_new3 lt1 lt2 lt3) (Nat.ne_of_lt lt1) (Nat.ne_of_lt (Nat.lt_of_lt_of_le lt2 (Nat.le_add_right _ 1))) (Nat.ne_of_lt (Nat.lt_of_lt_of_le lt3 (Nat.le_add_right _ 2))), ⟨hz, hTI, ⟨_, _, _, hTO⟩, SqIt.begin y1, SqIt.begin y2, SqIt.begin y3⟩, frs, q1⟩
end CZ

namespace CS
open PySem PySem.Spec PyProof.Rows L2
/-! ### rules beside the layer's -/
section
variable {X : Cx}
/-- a product, whatever the reason that it fits -/
theorem op_mulI : OpR X (binaryOp .Mult) (rI IntMulOk fun i j => .int (i * j)) := opI fun _ _ _ _ _ _ _ hc q => mul_int q hc
/-- list + list, however each is known -/
def rCatR (K : PySem.W.Frag) : R2 := fun x y H Q => ∃ l b xs zs, x = .ref l ∧ y = .ref b ∧ SqL K H l xs ∧ SqL K H b zs ∧ xs.length + zs.length ≤ sizeLine ∧ ∀ p, H p = none → Q (.ref p) (upd H p (.lst (xs ++ zs)))
theorem op_catR : OpR X (binaryOp .Add) (rCatR X.K) := by
  intro pins s σ H x y v u Q I rx ry h
  obtain ⟨l, b, xs, zs, rfl, rfl, hH, hB, hz, q⟩ := h
  cases rx
  cases ry
  obtain ⟨its, r, p1, _⟩ := I.list hH
  obtain ⟨its2, r2, p2, _⟩ := I.list hB
  obtain ⟨⟨cls, dd, data, sl⟩, ho, hc, n, hd⟩ := id p1.isList
  obtain ⟨⟨cls2, dd2, data2, sl2⟩, ho2, hc2, n2, hd2⟩ := id p2.isList
  simp only at hc hd hc2 hd2
  subst hc hd hc2 hd2
  have l1 := r.length
  have l2 := r2.length
  have ea : its.toArray ++ its2.toArray = (its ++ its2).toArray := by simp
  refine concat_meets ⟨_, ho, rfl⟩ ⟨_, ho2, rfl⟩ noFill_list_add seq_list_add PySem.F.slot_list_add PySem.F.entry_list_add (PySem.F.args_list_add_2 _ _) (list_addW l b its.toArray its2.toArray n n2 dd dd2 sl sl2 (by rw [List.size_toArray, List.size_toArray]; omega)) ⟨ho, ho2, ?_⟩
  rw [ea]
  exact ⟨.ref _, _, I.lnew (t' := s.toks) (r.append r2) (by rw [List.length_append]; omega), rfl, q _ I.fresh⟩
theorem pi_or {tg it : Expr} {w1 w2 : TI} (h1 : PI X tg it w1) (h2 : PI X tg it w2) : PI X tg it (fun σ H R => w1 σ H R ∨ w2 σ H R) :=
  ⟨fun pins s σ H R I h => h.elim (fun z => h1.run pins s σ H R I z) fun z => h2.run pins s σ H R I z⟩
end
/-! ### calls by keywords alone -/
def pick {α : Type} (js : List Nat) (l : List α) : List α := js.filterMap fun j => l[j]?
theorem vals_pick {xs : List V} {us : List Value} (r : Vals xs us) : ∀ js : List Nat, Vals (pick js xs) (pick js us)
  | [] => .nil
  | j :: js => by
    have ih := vals_pick r js
    unfold pick at ih ⊢
    cases e : xs[j]? with
    | none =>
      have e2 := r.none_of e
      rw [List.filterMap_cons_none (by rw [e]), List.filterMap_cons_none (by rw [e2])]
      exact ih
    | some x =>
      obtain ⟨u, e2, ru⟩ := r.get e
      rw [List.filterMap_cons_some (by rw [e]), List.filterMap_cons_some (by rw [e2])]
      exact .cons ru ih
theorem kbn_of {K : PySem.W.Frag} {x qual : Str} {st : Stmt} {f : Addr} {fd : FuncData} {ps : List Str} (F : Fun K x qual st f fd) (n : Nat) (ks : List Str) (js : List Nat)
    (h : ∀ (kV doc pm : Value) (an : Option Addr) (cdv ct : Value) (us ws : List Value), us.length = n → ws.length = ks.length → bindArgs (PySem.W.fnOf x qual (defArgs st) (defBody st) (defScope st) .none kV doc pm an cdv ct) ⟨us, ks.zip ws⟩ = pure (ps.zip (pick js (us ++ ws)))) :
    KBn K fd ps n ks (fun us ws => pick js (us ++ ws)) (fun vs zs => pick js (vs ++ zs)) := by
  obtain ⟨oc, od, kV, doc, pm, an, cdv, ct, osl, rfl, lk, hcd⟩ := F.ex
  exact ⟨fun s us ws _ h1 h2 => .of_eq (h kV doc pm an cdv ct us ws h1 h2), fun r1 r2 => vals_pick (r1.append r2) js⟩
section
variable {X : Cx} {CX : CXT} {k n : Nat} {f C : Addr} {fd : FuncData} {ps ks : List Str} {sp : Sp} {E : XK} {x m : Str} {p pos apos : Pos} {o : Expr} {kws : List Keyword} {ta : TE} {tk : TA} {g : List Value → List Value → List Value} {gV : List V → List V → List V}
theorem run_kw {pins : List (Addr × Obj)} {σ : L2.St} {H : Hp} {s : Shared} {Q : VK} {us ws : List Value} {vs zs : List V} (F : FnOk X.prog X.w X.K X.mg X.base CX k f fd ps sp) (hr : Room k X.A) (hb : KBn X.K fd ps n ks g gV) (hx : Passes CX X E)
    (I : Inv X pins σ H s) (r : Vals vs us) (rz : Vals zs ws) (l1 : vs.length = n) (l2 : zs.length = ks.length) (h : sp (gV vs zs) H Q E) : wpAny (model X.prog X.w) X.A (call (.ref f) us (ks.zip ws)) (EP X pins σ Q) X.xe s := by
  refine wpAny_call (codeAny_mono (F.run X.A X.stack s H ⟨us, ks.zip ws⟩ (g us ws) (gV vs zs) Q E hr I.env0 (hb.to s us ws I.kIn (r.length.symm.trans l1) (rz.length.symm.trans l2)) (hb.rel r rz) h) fun res s2 hq => ?_)
  cases res with
  | error e => exact hx pins σ H s e s2 I hq
  | ok fl =>
    cases fl with
    | ret u => exact I.after hq
    | next => exact False.elim hq
    | brk => exact False.elim hq
    | cont => exact False.elim hq
/-- f(k = v, ..) -/
def tCallKw (m : Nat) (sp : Sp) (gV : List V → List V → List V) (E : XK) (tk : TA) : TE := fun σ H Q => tk σ H fun zs H1 => zs.length = m ∧ sp (gV [] zs) H1 Q E
theorem pe_callKw (F : FnOk X.prog X.w X.K X.mg X.base CX k f fd ps sp) (hr : Room k X.A) (hg : Gl X x) (hm : X.mg x = some (.ref f)) (hk : PySem.W.keepIn X.K (.ref f) = true) (hb : KBn X.K fd ps 0 ks g gV) (hx : Passes CX X E) (hkw : PK X kws tk)
    (hall : (backToKw pos (keywordEach kws X.env)).all (·.1.isSome) = true := by rfl) (hks : (backToKw pos (keywordEach kws X.env)).filterMap (·.1) = ks := by rfl) (hdb : (x == ("__debug__" : Str)) = false := by decide)
    (hpl : ((backTo pos (starEach [] X.env)).any (·.1) || (backToKw pos (keywordEach kws X.env)).any (·.1.isNone)) = false := by rfl) :
    PE X (.Call (.Name x p) [] kws pos) (tCallKw ks.length sp gV E tk) := by
  refine ⟨fun pins s σ H Q I h => ?_⟩
  refine wpAny_Call_Name_kw (ld_glob I hg hm ?_ hdb)
  refine PySem.W.callWith_KW0 (h₀ := X.base) I.ok.mod.kin hk hall (thn (hkw.run pos pins s σ H _ I h) fun ws s2 ⟨zs, H2, I2, rz, l2, q2⟩ => ⟨I2.kIn, ?_⟩) hpl
  rw [hks]
  exact run_kw (us := []) (vs := []) F hr hb hx I2 .nil rz rfl l2 q2
/-- o.m(k = v, ..) -/
def tMethKw (C : Addr) (m : Str) (n : Nat) (sp : Sp) (gV : List V → List V → List V) (E : XK) (ta : TE) (tk : TA) : TE := fun σ H Q => ta σ H fun x H1 => ∃ a dx fs, x = .ref a ∧ H1 a = some (.ins C dx fs) ∧ fs.lookup m = none ∧
  tk σ H1 fun zs H2 => zs.length = n ∧ sp (gV [x] zs) H2 Q E
theorem pe_methKw {pl : Sem Bool} (he : PE X o ta) (c : Cls X.K C) (hm : Meth X.K C m f) (F : FnOk X.prog X.w X.K X.mg X.base CX k f fd ps sp) (hr : Room k X.A) (hb : KBn X.K fd ps 1 ks g gV) (hx : Passes CX X E) (hkw : PK X kws tk)
    (hall : (backToKw pos (keywordEach kws X.env)).all (·.1.isSome) = true := by rfl) (hks : (backToKw pos (keywordEach kws X.env)).filterMap (·.1) = ks := by rfl)
    (hpl : ((backTo pos (starEach [] X.env)).any (·.1) || (backToKw pos (keywordEach kws X.env)).any (·.1.isNone)) = false := by rfl)
    (ht : eval (.Call (.Attribute o m apos) [] kws pos) X.env = (do
      let ov ← eval o X.env
      standAt apos.atName
      let (f, first) ← holding [ov] (getMethod ov m pl)
      callWith pos f first (backTo pos (starEach [] X.env)) (backToKw pos (keywordEach kws X.env))) := by rfl) :
    PE X (.Call (.Attribute o m apos) [] kws pos) (tMethKw C m ks.length sp gV E ta tk) := by
  refine ⟨fun pins s σ H Q I h => ?_⟩
  refine PySem.W.methodCall_KW (pl := pl) (thn (he.run pins s σ H _ I h) fun u s1 ⟨x, H1, I1, rx, a, dx, fs, ex, ea, l, q⟩ => ?_) ht
  subst ex
  obtain rfl : u = Value.ref a := rx
  refine getmeth_ok I1 ea c hm l ?_
  refine PySem.W.callWith_KW0 (first := [.ref a]) (h₀ := X.base) I.ok.mod.kin hm.kp hall (thn (hkw.run pos pins s1 σ H1 _ I1 q) fun ws s2 ⟨zs, H2, I2, rz, l2, q2⟩ => ⟨I2.kIn, ?_⟩) hpl
  rw [hks]
  exact run_kw (us := [.ref a]) (vs := [.ref a]) F hr hb hx I2 (.cons rfl .nil) rz rfl l2 q2
end
/-! ### heaps that grow -/
abbrev Ex (H H2 : Hp) : Prop := Evl.Ex H H2
theorem exr {H : Hp} : Ex H H := fun _ _ h => h
theorem exn {H : Hp} {p : Addr} {o : HO} (h : H p = none) : Ex H (upd H p o) := Evl.Ex.new h
theorem SqK.mono {K : PySem.W.Frag} {H H2 : Hp} {p : Bool × Addr} {xs : List V} (e : Ex H H2) (h : CZ.SqK K H p xs) : CZ.SqK K H2 p xs := by
  obtain ⟨b, a⟩ := p
  cases b
  · exact Evl.ex_l e h
  · exact Evl.ex_t e h
/-- a comprehension whose element and tests leave all that stood: out i is what stands behind i turns -/
theorem lc_out {J : It} {n : Nat} {G : Hp → Prop} {Y : Nat → Hp → V → Hp → Prop} (w : Walk J n G Y) {g : TG} {tt : TT} {te : TE} {vs : List Nat} {σ : L2.St} {H1 : Hp} {D : Addr} {Qd : Hp → Prop} (out : Nat → List V) (h0 : out 0 = []) (hD : H1 D = none)
    (hlen : ∀ i, i < n → (out i).length < sizeLine) (hG : ∀ H, Ex H1 H → G H)
    (hs : ∀ i x H H2 (Nx : Hp → Prop), i < n → Ex H1 H → H D = some (.lst (out i)) → Y i H x H2 →
      (∀ y H5, Ex H H5 → out (i + 1) = out i ++ [y] → ∃ acc, H5 D = some (.lst acc) ∧ acc.length < sizeLine ∧ Nx (upd H5 D (.lst (acc ++ [y])))) → (∀ H4, Ex H H4 → out (i + 1) = out i → Nx H4) →
      g x (wipe σ vs) H2 fun σ2 H3 => wipe σ2 vs = wipe σ vs ∧ tt σ2 H3 fun b H4 => if b = true then te σ2 H4 fun y H5 => ∃ acc, H5 D = some (.lst acc) ∧ acc.length < sizeLine ∧ Nx (upd H5 D (.lst (acc ++ [y]))) else Nx H4)
    (hd : ∀ H, Ex H1 H → H D = some (.lst (out n)) → Qd H) :
    ∃ W : Nat → Nat → Hp → Prop, (∃ m, W 0 m (upd H1 D (.lst []))) ∧ ∀ i m H, W i m H →
      (J.stop i H ∧ Qd H) ∨ (J.go i H ∧ ∃ Nx : Hp → Prop, (∀ H2, Nx H2 → ∃ m2, m2 < m ∧ W (i + 1) m2 H2) ∧ ∀ x H2, J.yld i H x H2 → g x (wipe σ vs) H2 fun σ2 H3 => wipe σ2 vs = wipe σ vs ∧ tt σ2 H3 fun b H4 =>
        if b = true then te σ2 H4 fun y H5 => ∃ acc, H5 D = some (.lst acc) ∧ acc.length < sizeLine ∧ Nx (upd H5 D (.lst (acc ++ [y]))) else Nx H4) := by
  refine lc_it w (fun i H => Ex H1 H ∧ H D = some (.lst (out i))) ⟨exn hD, by rw [upd_same, h0]⟩ (fun i H _ p => hG H p.1) (fun i x H H2 hi p y => ?_) (fun H p => hd H p.1 p.2)
  refine hs i x H H2 _ hi p.1 p.2 y (fun y2 H5 e eo => ⟨out i, e D _ p.2, hlen i hi, fun b o q => ?_, by rw [upd_same, eo]⟩) (fun H4 e eo => ⟨fun b o q => e b o (p.1 b o q), by rw [eo]; exact e D _ p.2⟩)
  rw [upd_ne (ne_of_none q hD)]
  exact e b o (p.1 b o q)
/-- .. whose list is known: vals -/
theorem lc_vals {J : It} {n : Nat} {G : Hp → Prop} {Y : Nat → Hp → V → Hp → Prop} (w : Walk J n G Y) {g : TG} {te : TE} {vs : List Nat} {σ : L2.St} {H1 : Hp} {D : Addr} {Qd : Hp → Prop} (vals : List V) (hn : vals.length = n) (hl : n ≤ 10000000) (hD : H1 D = none)
    (hG : ∀ H, Ex H1 H → G H)
    (hs : ∀ i x H H2 (R : VK), i < n → Ex H1 H → Y i H x H2 → (∀ y H5, Ex H H5 → vals[i]? = some y → R y H5) → g x (wipe σ vs) H2 fun σ2 H3 => wipe σ2 vs = wipe σ vs ∧ te σ2 H3 R)
    (hg : ∀ x σ2 H2 (R R2 : L2.St → Hp → Prop), (∀ σ3 H3, R σ3 H3 → R2 σ3 H3) → g x σ2 H2 R → g x σ2 H2 R2)
    (hd : ∀ H, Ex H1 H → H D = some (.lst vals) → Qd H) :
    ∃ W : Nat → Nat → Hp → Prop, (∃ m, W 0 m (upd H1 D (.lst []))) ∧ ∀ i m H, W i m H →
      (J.stop i H ∧ Qd H) ∨ (J.go i H ∧ ∃ Nx : Hp → Prop, (∀ H2, Nx H2 → ∃ m2, m2 < m ∧ W (i + 1) m2 H2) ∧ ∀ x H2, J.yld i H x H2 → g x (wipe σ vs) H2 fun σ2 H3 => wipe σ2 vs = wipe σ vs ∧ tYes σ2 H3 fun b H4 =>
        if b = true then te σ2 H4 fun y H5 => ∃ acc, H5 D = some (.lst acc) ∧ acc.length < sizeLine ∧ Nx (upd H5 D (.lst (acc ++ [y]))) else Nx H4) := by
  refine lc_out w (fun i => vals.take i) rfl hD (fun i hi => ?_) hG (fun i x H H2 Nx hi e hDi y kA _ => ?_) (fun H e h => hd H e ?_)
  · rw [List.length_take]
    exact Nat.lt_of_le_of_lt (Nat.le_trans (Nat.min_le_right _ _) (by rw [hn]; exact hl)) (by decide)
  · refine hg _ _ _ _ _ (fun σ3 H3 q => ⟨q.1, ?_⟩) (hs i x H H2 (fun y H5 => ∃ acc, H5 D = some (.lst acc) ∧ acc.length < sizeLine ∧ Nx (upd H5 D (.lst (acc ++ [y])))) hi e y fun y2 H5 e5 ev => kA y2 H5 e5 ?_)
    · exact q.2
    · rw [List.take_add_one, ev]
      rfl
  · rw [h, List.take_of_length_le (by rw [hn]; exact Nat.le_refl _)]
theorem gmono_name {i : Nat} : ∀ x σ2 H2 (R R2 : L2.St → Hp → Prop), (∀ σ3 H3, R σ3 H3 → R2 σ3 H3) → gName i x σ2 H2 R → gName i x σ2 H2 R2 := fun _ _ _ _ _ h q => h _ _ q
theorem gmono_nil : ∀ vs σ2 H2 (R R2 : L2.St → Hp → Prop), (∀ σ3 H3, R σ3 H3 → R2 σ3 H3) → gNil vs σ2 H2 R → gNil vs σ2 H2 R2 := fun _ _ _ _ _ h q => ⟨q.1, h _ _ q.2⟩
theorem gmono_cons {t : TG} {u : TGs} (ht : ∀ x σ2 H2 (R R2 : L2.St → Hp → Prop), (∀ σ3 H3, R σ3 H3 → R2 σ3 H3) → t x σ2 H2 R → t x σ2 H2 R2) (hu : ∀ x σ2 H2 (R R2 : L2.St → Hp → Prop), (∀ σ3 H3, R σ3 H3 → R2 σ3 H3) → u x σ2 H2 R → u x σ2 H2 R2) :
    ∀ vs σ2 H2 (R R2 : L2.St → Hp → Prop), (∀ σ3 H3, R σ3 H3 → R2 σ3 H3) → gCons t u vs σ2 H2 R → gCons t u vs σ2 H2 R2 := fun vs σ2 H2 R R2 h q => by
  obtain ⟨v, r, e, q⟩ := q
  exact ⟨v, r, e, ht _ _ _ _ _ (fun σ3 H3 z => hu _ _ _ _ _ h z) q⟩
theorem gmono_tup {K : PySem.W.Frag} {n : Nat} {t : TGs} (ht : ∀ x σ2 H2 (R R2 : L2.St → Hp → Prop), (∀ σ3 H3, R σ3 H3 → R2 σ3 H3) → t x σ2 H2 R → t x σ2 H2 R2) :
    ∀ v σ2 H2 (R R2 : L2.St → Hp → Prop), (∀ σ3 H3, R σ3 H3 → R2 σ3 H3) → gTup K n t v σ2 H2 R → gTup K n t v σ2 H2 R2 := fun v σ2 H2 R R2 h q => by
  obtain ⟨a, xs, e, h1, h2, q⟩ := q
  exact ⟨a, xs, e, h1, h2, ht _ _ _ _ _ h q⟩
/-! ### a list or a tuple walked -/
def ItS (K : PySem.W.Frag) (p : Bool × Addr) : It := if p.1 = true then Itt K p.2 else Itl K p.2
def iSeq (K : PySem.W.Frag) (tl : TE) : TI := fun σ H R => tl σ H fun x H1 => ∃ p : Bool × Addr, x = .ref p.2 ∧ (∃ xs, CZ.SqK K H1 p xs) ∧ R (ItS K p) H1
theorem pi_seq {X : Cx} {tg l : Expr} {tl : TE} (hl : PE X l tl) : PI X tg l (iSeq X.K tl) := by
  refine ⟨fun pins s σ H R I h => ?_⟩
  refine thn (hl.run pins s σ H _ I h) fun v s1 ⟨x, H1, I1, r1, q1⟩ => ?_
  obtain ⟨⟨b, a⟩, ex, ⟨xs, hq⟩, q⟩ := q1
  subst ex
  cases r1
  obtain ⟨its, rv, g, lt⟩ := CZ.sq_seq I1 hq
  have fp : ∀ c ∈ [s1.heap.objs.size], FpOk X pins H1 c := fun c hc => by
    have e : c = s1.heap.objs.size := by simpa using hc
    rw [e]
    exact I1.fpOk (Nat.le_refl _) (I1.hok.fresh (Nat.le_refl _))
  refine (CZ.begins_of (b, a) its).iter _ _ _ _ s1 _ g ?_
  have I2 : Inv X pins σ H1 { s1 with heap := s1.heap.push (CZ.itO (b, a)) } := I1.kept (t' := s1.toks) fun c o e => Heap.get?_push_of_some _ e
  cases b
  · exact ⟨_, [s1.heap.objs.size], _, _, H1, rfl, I2, turn_list a _, ⟨_, Heap.get?_push_size _ rfl, rfl, rfl⟩, fp, q⟩
  · exact ⟨_, [s1.heap.objs.size], _, _, H1, rfl, I2, turn_tuple a _, ⟨_, Heap.get?_push_size _ rfl, rfl, rfl⟩, fp, q⟩
theorem walk_seq {K : PySem.W.Frag} {p : Bool × Addr} {xs : List V} : Walk (ItS K p) xs.length (fun H => CZ.SqK K H p xs) (YAt xs) := by
  obtain ⟨b, a⟩ := p
  cases b
  · exact walk_list
  · exact walk_tup
theorem itt {c : Bool} {A B : Prop} (h : c = true) (a : A) : if c = true then A else B := by rw [if_pos h]; exact a
theorem itf {c : Bool} {A B : Prop} (h : c = false) (b : B) : if c = true then A else B := by rw [h, if_neg Bool.false_ne_true]; exact b
theorem map_get {α : Type} {f : α → V} {l : List α} {i : Nat} {x : V} (h : (l.map f)[i]? = some x) : ∃ n, l[i]? = some n ∧ x = f n := by
  rw [List.getElem?_map] at h
  cases e : l[i]? with
  | none => rw [e] at h; cases h
  | some n => rw [e] at h; exact ⟨n, rfl, (Option.some.inj h).symm⟩
end CS

namespace CE
open PySem PySem.Spec PyProof.Rows L2 CZ
/-! ### enumerate over a list or a tuple -/
theorem enumO_new {v : Value} {oo : Obj} {Hq : Heap → Prop} (bg : Begins v oo Hq) :
    Meets (Builtin.«enumerate.__new__» ⟨[.type "enumerate", v], []⟩) (fun _ R t => Hq t.heap ∧
      R (.ok (.ret (.ref (t.heap.push oo).objs.size))) { t with heap := (t.heap.push oo).push { cls := .type "enumerate", data := .fields #[.none, .bool false, .ref t.heap.objs.size, rawInt 0, .none, .none] } }) :=
  .of_wp fun pg wo Ar R t hyp => by
    obtain ⟨hh, gg, dd, tt, oq⟩ := t
    obtain ⟨start, goal⟩ := hyp
    have es := PySem.sub_enumerate
    have go1 : ∀ {A2 : Around} {E2 : Value → Shared → Prop} {Q2 : Value → Shared → Prop}, Q2 (.ref hh.objs.size) ⟨hh.push oo, gg, dd, tt, oq⟩ → wpAny (model pg wo) A2 (pyIter v) Q2 E2 ⟨hh, gg, dd, tt, oq⟩ :=
      fun z => bg.iter pg wo _ _ ⟨hh, gg, dd, tt, oq⟩ _ start z
    wp_walk using go1
    refine wpAny_stack_any fun stk => wpAny_pure ?_
    split
    · rename_i cc _ _ _ _ _
      cases (cc == Value.type "enumerate")
      all_goals
        wp_walk using go1
        exact ⟨_, rfl, goal⟩
    · wp_walk using go1
      exact ⟨_, rfl, goal⟩
theorem enum_of {pg : Program} {wo : World} {Ar : Around} {Ex1 : Value → Shared → Prop} {t : Shared} {v : Value} {oo : Obj} {Hq : Heap → Prop} {Qe : Value → Shared → Prop} (bg : Begins v oo Hq) (start : Hq t.heap)
    (goal : ∀ hN, IsEnum hN (t.heap.objs.size + 1) t.heap.objs.size 0 .none → hN.get? t.heap.objs.size = some oo → (∀ c ob, t.heap.get? c = some ob → hN.get? c = some ob) → Qe (.ref (t.heap.objs.size + 1)) { t with heap := hN }) :
    wpAny (model pg wo) Ar (call (.type "enumerate") [v]) Qe Ex1 t := by
  refine callType_new F.called_enumerate (by decide) (F.typeCall_enumerate_1 _) (F.newCall_enumerate_1 _) (fun ob => F.args_object_init_2 ob _) F.entry_enumerate_new (enumO_new bg) ⟨start, ?_⟩
  have size1 : (t.heap.push oo).objs.size = t.heap.objs.size + 1 := Heap.size_push ..
  have isE : IsEnum ((t.heap.push oo).push { cls := .type "enumerate", data := .fields #[.none, .bool false, .ref t.heap.objs.size, rawInt 0, .none, .none] }) (t.heap.objs.size + 1) t.heap.objs.size 0 .none := by
    have at1 := Heap.get?_push_size (t.heap.push oo) (o := { cls := .type "enumerate", data := .fields #[.none, .bool false, .ref t.heap.objs.size, rawInt 0, .none, .none] }) rfl
    rw [size1] at at1
    exact at1
  show _ ∧ _
  rw [size1]
  exact ⟨⟨_, isE, rfl⟩, goal _ isE (Heap.get?_push_of_some _ (Heap.get?_push_size _ bg.free)) fun c ob z => Heap.get?_push_of_some _ (Heap.get?_push_of_some _ z)⟩
/-- what stands at p, each item in a new pair -/
def ItE (K : PySem.W.Frag) (p : Bool × Addr) : It :=
  ⟨fun i H => ∃ (xs : List V) (x : V), SqK K H p xs ∧ xs[i]? = some x, fun i H v H2 => ∃ T x, v = .ref T ∧ H T = none ∧ H2 = upd H T (.tup [.int (i : Nat), x]) ∧ ∀ xs, SqK K H p xs → xs[i]? = some x, fun i H => ∃ xs : List V, SqK K H p xs ∧ xs.length = i⟩
theorem turn_e {P : Program} {w : World} {K : PySem.W.Frag} {elts : List Expr} {kk : Nat} {tpos : Pos} {en it : Addr} {p : Bool × Addr} (n1 : p.2 ≠ it) (n2 : en ≠ it) (n3 : en ≠ p.2) :
    Turn P w K (.Tuple elts kk tpos) (ItE K p) [en, it] en (fun i h => (∃ old, IsEnum h en it ((i : Nat) : Int) old) ∧ SqIt h it p i) where
  mem := by simp
  obj := fun i h st c hc => by
    obtain ⟨⟨old, ie⟩, si⟩ := st
    have e : c = en ∨ c = it := by simpa using hc
    rcases e with q | q
    · rw [q]; exact ⟨_, ie, fun v q => nomatch q⟩
    · rw [q]; exact si.obj
  keep := fun i h h2 st k => by
    obtain ⟨⟨old, ie⟩, si⟩ := st
    exact ⟨⟨old, k en (by simp) _ ie⟩, si.at fun o q => k it (by simp) o q⟩
  item := by
    intro X hP hw hK hc i pins s σ H E I hf st hg
    subst hP hw hK
    obtain ⟨⟨old, ie⟩, si⟩ := st
    obtain ⟨xs, x, hq, hx⟩ := hg
    obtain ⟨its, rv, sq, _⟩ := sq_seq I hq
    obtain ⟨u, hu, ru⟩ := rv.get hx
    have gu : its.toArray[i]? = some u := by simpa using hu
    have lu : i < its.toArray.size := by
      have := (List.getElem?_eq_some_iff.mp hu).1
      simpa using this
    have enl : en < s.heap.objs.size := Heap.lt_size ie
    have itl : it < s.heap.objs.size := by
      obtain ⟨_, q, _⟩ := si.obj
      exact Heap.lt_size q
    refine PySem.wpAny_pyNext_enum_itemD (draws_of (A := X.A.in1) (I.ok.hd hc) it p n1 its) ie ⟨si, sq⟩ lu n2 (by simp [n2, n3]) fun x1 hA tk hx1 out ⟨si2, _⟩ hT hsz hk => ?_
    obtain rfl : u = x1 := Option.some.inj (gu.symm.trans hx1)
    refine ⟨_, rfl, wpAny_letOwnedTupleGo_enum (s := { s with heap := hA, toks := tk + 1 }) out fun hB isB sb => ?_⟩
    replace sb : Heap.SameBut en hA hB := sb
    have hT2 : hB.get? s.heap.objs.size = some { cls := .type "tuple", data := .seq #[.int i tk, u] } := (sb.2 _ (Nat.ne_of_gt enl)).trans hT
    have made : ObjOk X.prog X.w (upd H s.heap.objs.size (.tup [.int (i : Nat), x])) hB s.heap.objs.size (.tup [.int (i : Nat), x]) := ⟨by show 2 ≤ sizeLine; decide, [.int i tk, u], .cons ⟨_, rfl⟩ (.cons ru .nil), ⟨_, hT2, rfl, _, rfl⟩⟩
    have I1 : Inv X pins σ (upd H s.heap.objs.size (.tup [.int (i : Nat), x])) { s with heap := hB, toks := tk + 1 } :=
      I.turnedNew (t' := tk + 1) (ch := [en, it]) (fun c ob hb q => (sb.2 c (fun z => hb (by simp [z]))).trans (hk c ob (fun z => hb (by simp [z])) (fun z => hb (by simp [z])) q)) hf (Nat.le_refl _) made
    refine ⟨.ref s.heap.objs.size, _, I1, rfl, ⟨_, x, rfl, I.hok.fresh (Nat.le_refl _), rfl, fun ys hy => by rw [sq_inj I hy hq]; exact hx⟩, ⟨⟨u, ?_⟩, si2.at fun o q => (sb.2 it n2.symm).trans q⟩, fun c hcm => ?_⟩
    · have next : ((i + 1 : Nat) : Int) = (i : Int) + 1 := by omega
      rw [next]
      exact isB
    · have small : c < s.heap.objs.size := by
        have e : c = en ∨ c = it := by simpa using hcm
        rcases e with q | q
        · rw [q]; exact enl
        · rw [q]; exact itl
      rw [upd_ne (Nat.ne_of_lt small)]
      exact (hf c hcm).1
  done := by
    intro X hP hw hK hc i pins s σ H E I hf st hg
    subst hP hw hK
    obtain ⟨⟨old, ie⟩, si⟩ := st
    obtain ⟨xs, hq, hx⟩ := hg
    obtain ⟨its, rv, sq, _⟩ := sq_seq I hq
    have li : its.toArray.size = i := by
      have := rv.length
      simp
      omega
    have dr := draws_of (prog := X.prog) (w := X.w) (A := X.A.in1) (I.ok.hd hc) it p n1 its
    rw [li] at dr
    exact PySem.wpAny_pyNext_enum_endD dr ie ⟨si, sq⟩ fun hA eb => ⟨rfl, I.turnedL (t' := s.toks) (ch := [en, it]) (fun c ob hb q => eb c ob (fun z => hb (by simp [z])) q) hf⟩
  self := fun A i s Q E st h => let ⟨⟨_, ie⟩, _⟩ := st; wpAny_pyIter_enum ie h
theorem walk_e {K : PySem.W.Frag} {p : Bool × Addr} {xs : List V} : Walk (ItE K p) xs.length (fun H => SqK K H p xs) (YPair (fun i => some (.int (i : Nat))) (fun i => xs[i]?)) :=
  ⟨fun i _ hi q => ⟨xs, xs[i], q, by simp [hi]⟩, fun _ q => ⟨xs, q, rfl⟩, fun i H v H2 _ q y => by
    obtain ⟨T, x, h1, h2, h3, h4⟩ := y
    exact ⟨T, _, x, h1, h2, h3, rfl, h4 xs q⟩⟩
/-- enumerate(e), e a list or a tuple -/
def iE (K : PySem.W.Frag) (ta : TA) : TI := fun σ H R => ta σ H fun vs H1 => ∃ p : Bool × Addr, vs = [.ref p.2] ∧ (∃ xs, SqK K H1 p xs) ∧ R (ItE K p) H1
theorem pi_e {X : Cx} {e : Expr} {ta : TA} {po pos tpos : Pos} {elts : List Expr} {kk : Nat} (hg : Gl X "enumerate") (hm : X.mg "enumerate" = none) (ha : PA X [e] ta) (hs : starEach [e] X.env = [(false, eval e X.env)] := by rfl) :
    PI X (.Tuple elts kk tpos) (.Call (.Name "enumerate" po) [e] [] pos) (iE X.K ta) := by
  refine ⟨fun pins s σ H R I h => ?_⟩
  refine Call_ (ld_blt I hg hm boot_enumerate (PyProof.Rows.callWith_type1 (thn (ha.run pos pins s σ H _ I h) fun us s0 ⟨vs, H1, I1, r1, q1⟩ => ?_) hs rfl))
  obtain ⟨p, ev, ⟨xs, hq⟩, q1⟩ := q1
  subst ev
  cases r1 with
  | cons r rr =>
    cases rr
    cases r
    obtain ⟨its, rv, sq, lt⟩ := sq_seq I1 hq
    refine enum_of (begins_of p its) sq fun hN ie io kk2 => wpAny_pyIter_enum ie ?_
    have I2 : Inv X pins σ H1 { s0 with heap := hN } := I1.kept (t' := s0.toks) kk2
    refine ⟨s0.heap.objs.size + 1, [s0.heap.objs.size + 1, s0.heap.objs.size], _, _, H1, rfl, I2, turn_e (Nat.ne_of_lt lt) (Nat.succ_ne_self _) (Nat.ne_of_gt (Nat.lt_succ_of_lt lt)), ⟨⟨.none, ie⟩, SqIt.begin io⟩, fun c hc => ?_, q1⟩
    have le : s0.heap.objs.size ≤ c := by
      have e : c = s0.heap.objs.size + 1 ∨ c = s0.heap.objs.size := by simpa using hc
      rcases e with z | z
      · rw [z]; exact Nat.le_add_right _ _
      · rw [z]; exact Nat.le_refl _
    exact I1.fpOk le (I1.hok.fresh le)
end CE

namespace CL
open PySem PySem.Spec PyProof.Rows L2
/-! ### set(l) of a list of ints -/
section
variable {pg : Program} {wo : World} {Ar : Around} {Ee : Value → Shared → Prop} {t : Shared}
set_option maxRecDepth 100000 in
set_option maxHeartbeats 3200000 in
theorem set_of_list {l : Addr} {its : Array Value} (ns : List Int) {Qe : Value → Shared → Prop} (calm : Ar.handled = none) (isl : t.heap.IsList l its) (intsA : IntsAre its.toList ns) (few : ns.length + 1 < scanBound)
    (goal : ∀ (hN : Heap) (k c : Nat), SetR wo hN t.heap.objs.size (fun j => decide (j ∈ ns)) c → c ≤ ns.length → (∀ b ob, t.heap.get? b = some ob → hN.get? b = some ob) → Qe (.ref t.heap.objs.size) { t with heap := hN, toks := k }) :
    wpAny (model pg wo) Ar (call (.type "set") [.ref l]) Qe Ee t := by
  have len : its.size = ns.length := by
    have z := IntsAre.length intsA
    rw [Array.length_toList] at z
    exact z
  obtain ⟨cc, tail, mro⟩ := PySem.F.called_set.mro
  have made := PySem.F.called_set.made
  have sub := PySem.F.called_set.sub
  refine wpAny_call (codeAny_of_tree ?_)
  show wpAny _ _ (callAny (.type "set") _) _ _ _
  refine wpAny_pure ⟨Code.quiet_builtin _ (by decide +kernel), codeAny_builtin PySem.F.entry_type_call ?_⟩
  rw [Around.under_plain (weight_type_call_type "set" [.ref l] []) rfl]
  have noType := PySem.F.called_set.notType
  have creates := PySem.F.called_set.canCreate
  have checked := PySem.F.typeCall_set_1 (.ref l)
  repeat (any_goals (first | assumption | wp_step))
  refine codeAny_mono (code_set_led1 (.ref l) (E := Ee) (Q₁ := fun ob t1 => ob = .ref t.heap.objs.size ∧ t1 = { t with heap := t.heap.push { cls := .type "set", dict := none, data := .set #[] 0 (.fresh 0 0 (!wo.params.followText "set-order")) } }) ⟨rfl, rfl⟩) fun r t1 hr => ?_
  cases r with
  | error e => exact hr
  | ok fl =>
    cases fl with
    | ret ob =>
      obtain ⟨rfl, rfl⟩ := hr
      have hS : (t.heap.push { cls := .type "set", dict := none, data := .set #[] 0 (.fresh 0 0 (!wo.params.followText "set-order")) }).get? t.heap.objs.size = some { cls := .type "set", dict := none, data := .set #[] 0 (.fresh 0 0 (!wo.params.followText "set-order")) } := Heap.get?_push_size _ rfl
      have tS : Shared.TypeIs { t with heap := t.heap.push { cls := .type "set", dict := none, data := .set #[] 0 (.fresh 0 0 (!wo.params.followText "set-order")) } } (.ref t.heap.objs.size) "set" := ⟨_, hS, rfl⟩
      have ini := PySem.F.called_set.init.lookup
      have bnd := PySem.F.called_set.init.bind (.ref t.heap.objs.size)
      repeat (any_goals (first | assumption | wp_step))
      refine codeAny_mono (codeAny_call_builtin (R := wants (fun r t2 => r = .none ∧ ∃ hN k c, t2 = { t with heap := hN, toks := k } ∧ SetR wo hN t.heap.objs.size (fun j => decide (j ∈ ns)) c ∧ c ≤ ns.length ∧
          (∀ b ob, t.heap.get? b = some ob → hN.get? b = some ob)) Ee) PySem.F.called_set.init.plain PySem.F.entry_set_init (check_set_init_1 tS ?_)) fun r2 t2 hr2 => ?_
      · obtain ⟨ol, hol, hcl, nl, hdl⟩ := id isl
        obtain ⟨ocls, odict, odata, oslots⟩ := ol
        simp only at hcl hdl
        subst hcl
        subst hdl
        have hol2 : (t.heap.push { cls := .type "set", dict := none, data := .set #[] 0 (.fresh 0 0 (!wo.params.followText "set-order")) }).get? l = some { cls := .type "list", dict := odict, data := .seq its nl, slots := oslots } := Heap.get?_push_of_some _ hol
        have s1 := PySem.F.sub_list_set
        have s2 := PySem.F.sub_list_frozenset
        have nd : (Value.type "list" == Value.type "dict") = false := by decide
        have isl2 : (t.heap.push { cls := .type "set", dict := none, data := .set #[] 0 (.fresh 0 0 (!wo.params.followText "set-order")) }).IsList l its := ⟨_, hol2, rfl, nl, rfl⟩
        unfold Builtin.«set.__init__» noKeywords Builtin.Frozenset.updateFrom
        generalize hPI : pyIter = PIt
        wp_walk
        subst hPI
        refine wpAny_pyIter_list isl2 ?_
        refine wpAny_bind (wpAny_runValue ?_)
        have lS : l < t.heap.objs.size := Heap.lt_size hol
        have calm3 : Ar.in1.in1.in1.handled = none := by simp [calm]
        have neI : l ≠ (t.heap.push { cls := .type "set", dict := none, data := .set #[] 0 (.fresh 0 0 (!wo.params.followText "set-order")) }).objs.size := by
          rw [Heap.size_push]
          exact Nat.ne_of_lt (Nat.lt_succ_of_lt lS)
        have notF : t.heap.objs.size ∉ [(t.heap.push { cls := .type "set", dict := none, data := .set #[] 0 (.fresh 0 0 (!wo.params.followText "set-order")) }).objs.size, l] := by
          rw [Heap.size_push]
          simp only [List.mem_cons, List.not_mem_nil, or_false, not_or]
          exact ⟨Nat.ne_of_lt (Nat.lt_succ_self _), Nat.ne_of_gt lS⟩
        have vals : ∀ (i : Nat) (v : Value), its[i]? = some v → ∃ k u, ns[i]? = some k ∧ v = .int k u := fun i v hv => by
          have hi : i < ns.length := by
            rw [← len]
            exact (Array.getElem?_eq_some_iff.mp hv).1
          obtain ⟨u, e⟩ := PyProof.Rows.IntsAre.int_at intsA i v (by rw [Array.getElem?_toList]; exact hv)
          refine ⟨ns[i], u, List.getElem?_eq_getElem hi, ?_⟩
          rw [e, List.getD_eq_getElem?_getD, List.getElem?_eq_getElem hi] <;> rfl
        refine set_update_ints ((Walks.list calm3 _ l neI its).toS) t.heap.objs.size notF ns len few vals (its.size - 0) 0 _ (by omega) (Nat.zero_le _) ⟨⟨_, Heap.get?_push_size _ rfl, rfl, rfl⟩, (isl2.push _)⟩ ?first ?last
        case first =>
          exact ⟨0, Nat.le_refl 0, setR_new_at (Heap.get?_push_of_some _ hS)⟩
        case last =>
          intro t3 c3 mv hc3 hS3
          obtain ⟨hN, g3, d3, k3, os3⟩ := t3
          obtain rfl : g3 = t.gens := mv.gens
          obtain rfl : d3 = t.drawn := mv.drawn
          obtain rfl : os3 = t.os := mv.os
          show wpAny _ _ _ _ _ _
          refine wpAny_pure ?_
          show wpAny _ _ (ret Value.none) _ _ _
          rw [len] at hc3
          refine wpAny_pure ⟨rfl, hN, k3, c3, rfl, hS3, hc3, fun b ob e => ?_⟩
          have b0 : b < t.heap.objs.size := Heap.lt_size e
          have b2 : b ≠ (t.heap.push { cls := .type "set", dict := none, data := .set #[] 0 (.fresh 0 0 (!wo.params.followText "set-order")) }).objs.size := by
            rw [Heap.size_push]
            exact Nat.ne_of_lt (Nat.lt_succ_of_lt b0)
          exact mv.heap b ob (by simp only [List.mem_cons, List.not_mem_nil, or_false, not_or]; exact ⟨Nat.ne_of_lt b0, b2⟩) (Heap.get?_push_of_some _ (Heap.get?_push_of_some _ e))
      · cases r2 with
        | error e => exact hr2
        | ok fl2 =>
          cases fl2 with
          | ret r =>
            obtain ⟨rfl, hN, k, c2, rfl, hS2, hc2, hk2⟩ := hr2
            repeat (any_goals (first | assumption | wp_step))
            exact goal _ _ _ hS2 hc2 hk2
          | _ => exact hr2.elim
    | _ => exact hr.elim
end
/-- set(l), l a list of ints -/
def rSetI (K : PySem.W.Frag) (w : World) : List V → Hp → VK → Prop := fun vs H Q => ∃ (a : Addr) (ns : List Int), vs = [V.ref a] ∧ SqL K H a (ns.map V.int) ∧ ns.length + 1 < scanBound ∧ ∀ p c, H p = none → c ≤ ns.length → Q (.ref p) (upd H p (SetO w p (fun j => decide (j ∈ ns)) c))
theorem call_setI {X : Cx} (hc : X.calm = true) : CallR X (.type "set") (rSetI X.K X.w) := by
  intro pins s σ H vs us Q I r h
  obtain ⟨a, ns, rfl, hl, few, q⟩ := h
  rw [Vals.ref1 r]
  obtain ⟨its, rv, pl, _⟩ := I.list hl
  refine set_of_list ns (I.ok.hd hc) pl.isList (by rw [List.toList_toArray]; exact intsAre_of rv) few fun hN k c new hcl keep => ?_
  exact ⟨.ref _, upd H s.heap.objs.size (SetO X.w s.heap.objs.size (fun j => decide (j ∈ ns)) c), I.laid (t' := k) keep (Nat.le_refl _) (setO_new new), rfl, q _ c (I.hok.fresh (Nat.le_refl _)) hcl⟩
end CL

namespace CS
open PySem PySem.Spec PyProof.Rows L2
/-! ### more rules beside the layer's -/
section
variable {X : Cx}
/-- o.f as a target -/
def gFld (K : PySem.W.Frag) (to : TE) (f : Str) : TG := fun v σ H Q => to σ H fun x H1 => ∃ a C dx fs, x = .ref a ∧ H1 a = some (.ins C dx fs) ∧ Cls K C ∧ NoAttr K C f ∧ fs.length < 1000 ∧ Q σ (upd H1 a (.ins C dx (putF f v fs)))
theorem pg_fld {o : Expr} {f : Str} {pos : Pos} {to : TE} (ho : PE X o to) : PG X (.Attribute o f pos) (gFld X.K to f) := by
  refine ⟨fun pins s σ H v u Q I r h => ?_⟩
  rw [assign_Attribute]
  refine wpAny_bind (wpAny_holding (thn (ho.run pins s σ H _ I h) fun ov s1 ⟨x, H1, I1, r1, a, C, dx, fs, ex, ea, c, n, l, q⟩ => ?_))
  subst ex
  obtain rfl : ov = Value.ref a := r1
  refine wpAny_bind (wpAny_standAt (wpAny_bind (wpAny_holding (setattr_ok I1 ea c n l r fun s3 I3 => ?_))))
  exact wpAny_release ⟨σ, _, I3, q⟩
theorem pe_fldK {e : Expr} {f : Str} {pos : Pos} {ta : TE} (K : PySem.W.Frag) (hk : X.K = K) (he : PE X e ta) (hb : attributeBase e f X.env (eval e X.env) = eval e X.env) : PE X (.Attribute e f pos) (tFld K ta f) := by
  subst hk
  exact pe_fld he hb
def rLenQ (K : PySem.W.Frag) : List V → Hp → VK → Prop := fun xs H Q => ∃ p ys, xs = [.ref p] ∧ (SqL K H p ys ∨ SqT K H p ys) ∧ Q (.int ys.length) H
def rListQ (K : PySem.W.Frag) : List V → Hp → VK → Prop := fun xs H Q => ∃ p ys, xs = [.ref p] ∧ (SqL K H p ys ∨ SqT K H p ys) ∧ ∀ l, H l = none → Q (.ref l) (upd H l (.lst ys))
def rTupleQ (K : PySem.W.Frag) : List V → Hp → VK → Prop := fun xs H Q => ∃ p ys, xs = [.ref p] ∧ ((SqL K H p ys ∧ ∀ l, H l = none → Q (.ref l) (upd H l (.tup ys))) ∨ (SqT K H p ys ∧ Q (.ref p) H))
/-- // by a divisor of either sign -/
def CDivNW (_ j : Int) : Prop := j ≠ 0 ∧ j.natAbs.log2 < 9000
theorem op_fdivNW : OpR X (binaryOp .FloorDiv) (rI CDivNW fun i j => .int (i.fdiv j)) := opI fun _ _ _ _ _ _ _ hc q => floordiv_int hc.1 q (.inl (PyProof.noPylong_of_log2 hc.2))
theorem wide_divN {i j : Int} {b : Nat} (h : j ≠ 0) (hb : j.natAbs < 2 ^ b) (h0 : 0 < b) (h9 : b ≤ 9000) : CDivNW i j := ⟨h, Nat.lt_of_lt_of_le (PySem.Flt.log2_lt_of h0 hb) h9⟩
theorem kit_self {K : PySem.W.Frag} {C : Addr} : PySem.W.kitOne K (.ref C) (.ref C) = some true := by
  unfold PySem.W.kitOne
  rw [if_pos (by simp)]
theorem pe_revLK {e : Expr} {te : TE} {k : Nat} {p1 p2 p3 pos : Pos} (K : PySem.W.Frag) (hk : X.K = K) (he : PE X e te) : PE X (.Subscript e (.Slice none none (some (.UnaryOp .USub (.Constant (.int 1) k p1) p2)) p3) pos) (tRevL K te) := by
  subst hk
  exact pe_revL he
/-- x in s, a list or a tuple of data -/
def rInQ (K : PySem.W.Frag) : R2 := fun x y H Q => ∃ d ds, Dp K H x d ∧ (Dp K H y (.list ds) ∨ Dp K H y (.tuple ds)) ∧ SeqAt.shaped d = true ∧ SeqAt.shaped (.list ds) = true ∧ Q (.bl (ds.any fun z => PyData.eqv z d)) H
def rNotInQ (K : PySem.W.Frag) : R2 := fun x y H Q => ∃ d ds, Dp K H x d ∧ (Dp K H y (.list ds) ∨ Dp K H y (.tuple ds)) ∧ SeqAt.shaped d = true ∧ SeqAt.shaped (.list ds) = true ∧ Q (.bl (!ds.any fun z => PyData.eqv z d)) H
theorem op_inQ (hu : X.A.units + 65 < cLine) : OpR X (compareOp .In) (rInQ X.K) := by
  intro pins s σ H x y v u Q I rx ry h
  obtain ⟨d, ds, hd, he, sd, se, q⟩ := h
  obtain ⟨as, r1⟩ := Dp.reads I d x v hd rx
  rcases he with he | he
  · obtain ⟨bs, r2⟩ := Dp.reads I (.list ds) y u he ry
    exact SeqAt.in_list_reads r2 r1 (SeqAt.canLay_of_shaped se) (SeqAt.canLay_of_shaped sd) (room_in_shaped sd hu) ⟨.bl _, H, I, rfl, q⟩
  · obtain ⟨bs, r2⟩ := Dp.reads I (.tuple ds) y u he ry
    exact SeqAt.in_tuple_reads r2 r1 (SeqAt.canLay_of_shaped se) (SeqAt.canLay_of_shaped sd) (room_in_shaped sd hu) ⟨.bl _, H, I, rfl, q⟩
theorem op_notInQ (hu : X.A.units + 65 < cLine) : OpR X (compareOp .NotIn) (rNotInQ X.K) := by
  intro pins s σ H x y v u Q I rx ry h
  obtain ⟨d, ds, hd, he, sd, se, q⟩ := h
  obtain ⟨as, r1⟩ := Dp.reads I d x v hd rx
  rcases he with he | he
  · obtain ⟨bs, r2⟩ := Dp.reads I (.list ds) y u he ry
    exact SeqAt.notIn_list_reads r2 r1 (SeqAt.canLay_of_shaped se) (SeqAt.canLay_of_shaped sd) (room_in_shaped sd hu) ⟨.bl _, H, I, rfl, q⟩
  · obtain ⟨bs, r2⟩ := Dp.reads I (.tuple ds) y u he ry
    exact SeqAt.notIn_tuple_reads r2 r1 (SeqAt.canLay_of_shaped se) (SeqAt.canLay_of_shaped sd) (room_in_shaped sd hu) ⟨.bl _, H, I, rfl, q⟩
end
end CS

/-! ### promises for callers that print nothing yet, and repr -/
namespace CG
open PySem PySem.Spec PyProof.Rows L2
/-- a promise that is kept where nothing is being printed -/
structure FnOkG (P : Program) (w : World) (K : PySem.W.Frag) (mg : Str → Option Value) (base : Heap) (k : Nat) (f : Addr) (fd : FuncData) (ps : List Str) (sp : Sp) : Prop where
  size : ∀ vs H Q E, sp vs H Q E → vs.length = ps.length
  go : ∀ (A : Around) (fr : List Env) (s : Shared) (H : Hp) (as : Args) (us : List Value) (vs : List V) (Q : VK) (E : XK), A.guards = some [] → Room k A → Env0 P w K mg base A fr s H → BindsTo s fd as (ps.zip us) → Vals vs us → sp vs H Q E →
    codeAny (model P w) A (.call (.ref f) as) (CR CX0 fr P w H s Q E) s
theorem FnOkG.of {P : Program} {w : World} {K : PySem.W.Frag} {mg : Str → Option Value} {base : Heap} {k : Nat} {f : Addr} {fd : FuncData} {ps : List Str} {sp : Sp} (F : FnOk P w K mg base CX0 k f fd ps sp) : FnOkG P w K mg base k f fd ps sp :=
  ⟨F.len, fun A fr s H as us vs Q E _ => F.run A fr s H as us vs Q E⟩
section
variable {P : Program} {w : World} {K : PySem.W.Frag} {mg : Str → Option Value} {base : Heap}
/-- a def by its body, where nothing is being printed -/
theorem okG {x qual : Str} {st : Stmt} {f : Addr} {fd : FuncData} {N ps : List Str} {k : Nat} {sp : Sp} (F : Fun K x qual st f fd) (S : FnScope N ps (defScope st)) (len : ∀ vs H Q E, sp vs H Q E → vs.length = ps.length)
    (body : ∀ (cdv : Value) (A : Around) (fr : List Env) (s : Shared) (H : Hp) (vs : List V) (Q : VK) (E : XK), A.guards = some [] → Room k (A.deeper (envOfC qual (defScope st) s.heap.objs.size f cdv)) → sp vs H Q E →
      ∃ t, PSs (cxOf CX0 P w K mg base N qual (defScope st) f cdv A fr s H E).nox (defBody st) t ∧ t { nx := fun _ H' => Q .non H', rt := Q } (start N vs) H) : FnOkG P w K mg base (k + 1) f fd ps sp := by
  obtain ⟨o1, o2, d1, d2, d3, o3, cd, ct, o4, rfl, look, code⟩ := F.ex
  refine ⟨len, fun A fr s H as us vs Q E gd room en bind rel want => ?_⟩
  have kin : K.In s.heap := en.mod.kin.keeps fun b o e => (en.bs b o e).1
  have nolim : s.heap.NoLimit := en.mod.nolimit.keeps fun b o e => (en.bs b o e).1
  have kinds : ∀ y ∈ ps.zip us, (defScope st).names.lookup y.1 = some .local ∨ ((defScope st).names.lookup y.1 = some .cell ∧ ((cellsFrom (s.heap.objs.size + 1) (defScope st).names []).lookup y.1).isSome = true) := fun ⟨n, v⟩ hy =>
    (S.par n (List.of_mem_zip hy).1).imp id fun q => ⟨q, PySem.W.cellsFrom_some _ _ _ (.inl q)⟩
  refine codeAny_call_function room.depth (kin _ _ look) rfl S.co S.gen rfl (PySem.W.codeRec_of kin code) (bind _ _ _ _ ?_)
  refine wpAny_newFunctionEnv_cells S.kind kinds fun env isEnv s1 entry => ?_
  subst isEnv
  refine ⟨nolim.keeps entry.toInCall.keep, codeAny_func ?_⟩
  obtain ⟨t, rule, reading⟩ := body cd A fr s H vs Q E gd (room.deeper _) want
  have start1 : Inv (cxOf CX0 P w K mg base N qual (defScope st) f cd A fr s H E) [] (start N vs) H s1 := inv_start S room.hd en (len _ _ _ _ want) rel entry
  refine wpAny_mono (rule.nox.run [] s1 (start N vs) H _ start1 reading) (fun fl s' out => ?_) fun e s' out => out
  have close : ∀ {τ : L2.St} {H' : Hp} {v : V} {u : Value}, Inv (cxOf CX0 P w K mg base N qual (defScope st) f cd A fr s H E) [] τ H' s' → RelV v u → Q v H' → CE fr P w H s Q u s' :=
    fun {τ H' v u} J rv q => ⟨v, H', J.os, J.bare, J.base, J.hok, rv, q⟩
  match fl, out with
  | .ret u, ⟨_, _, _, J, rv, q⟩ => exact close J rv q
  | .next, ⟨_, _, J, q⟩ => exact close (v := V.non) (u := Value.none) J rfl q
  | .brk, ⟨_, _, _, q⟩ => exact q.elim
  | .cont, ⟨_, _, _, q⟩ => exact q.elim
end
section
variable {X : Cx} {k : Nat} {f : Addr} {fd : FuncData} {ps : List Str} {sp : Sp} {dvs : List V} {ds : List Value} {E : XK} {x : Str} {p pos : Pos} {e : Expr} {es : List Expr} {t : TA}
theorem goG {pins : List (Addr × Obj)} {σ : L2.St} {H : Hp} {s : Shared} {Q : VK} {us : List Value} {vs : List V} (F : FnOkG X.prog X.w X.K X.mg X.base k f fd ps sp) (gd : X.A.guards = some []) (room : Room k X.A) (bind : Binds X.K fd ps ds) (hd : Vals dvs ds) (pass : Passes CX0 X E)
    (I : Inv X pins σ H s) (rel : Vals vs us) (want : sp (vs ++ dvs) H Q E) : wpAny (model X.prog X.w) X.A (call (.ref f) us) (EP X pins σ Q) X.xe s := by
  have both : Vals (vs ++ dvs) (us ++ ds) := rel.append hd
  have size : (us ++ ds).length = ps.length := both.length.symm.trans (F.size _ _ _ _ want)
  refine wpAny_call (codeAny_mono (F.go X.A X.stack s H ⟨us, []⟩ (us ++ ds) (vs ++ dvs) Q E gd room I.env0 (bind s us I.kIn size) both want) fun out s' q => ?_)
  match out, q with
  | .error err, q => exact pass pins σ H s err s' I q
  | .ok (.ret u), q => exact I.after q
/-- the call of a def that wants nothing to be printed -/
theorem pe_callG (F : FnOkG X.prog X.w X.K X.mg X.base k f fd ps sp) (gd : X.A.guards = some []) (room : Room k X.A) (hg : Gl X x) (hm : X.mg x = some (.ref f)) (hk : PySem.W.keepIn X.K (.ref f) = true) (bind : Binds X.K fd ps ds) (hd : Vals dvs ds) (pass : Passes CX0 X E)
    (args : PA X (e :: es) t) (hdb : (x == ("__debug__" : Str)) = false := by decide) (he : starEach (e :: es) X.env = (false, eval e X.env) :: starEach es X.env := by rfl) (hpl : (backTo pos (starEach es X.env)).any (·.1) = false := by rfl) :
    PE X (.Call (.Name x p) (e :: es) [] pos) (tCall sp dvs E t) :=
  ⟨fun pins s σ H Q I h => wpAny_Call_Name_kw (ld_glob I hg hm (PySem.W.callWith_K (h₀ := X.base) I.ok.mod.kin hk (thn (args.run pos pins s σ H _ I h) fun us s1 ⟨vs, H1, I1, r, q⟩ => ⟨I1.kIn, goG F gd room bind hd pass I1 r q⟩) he hpl) hdb)⟩
/-- repr(x) of data that are known -/
def rRepr (K : PySem.W.Frag) : List V → Hp → VK → Prop := fun vs H Q => ∃ (a : Addr) (d : PyData), vs = [V.ref a] ∧ Dp K H (.ref a) d ∧ d.showable = true ∧ d.hasDict = false ∧ d.shown.length ≤ sizeLine ∧ d.depth ≤ 60 ∧ Q (.str d.shown) H
theorem cr_repr (gd : X.A.guards = some []) (hu : X.A.units + 65 < cLine) : CallR X (.builtin "repr") (rRepr X.K) := by
  intro pins s σ H vs us Q I r h
  obtain ⟨a, d, rfl, hd, sh, nd, lz, dp, q⟩ := h
  rw [Vals.ref1 r]
  obtain ⟨as, rd⟩ := Dp.reads I _ (.ref a) _ hd rfl
  refine repr_of_reads' rd sh (fun z => absurd (nd.symm.trans z) (by decide)) gd (by omega) (fun _ _ e => e) (fun h' u tk hk => ?_) lz
  exact ⟨.str d.shown, H, I.kept (t' := tk) hk, ⟨_, rfl⟩, q⟩
end
/-- the law at its script, from a promise of that kind -/
theorem law_callG {P : Program} {w : World} {K : PySem.W.Frag} {mg mb : Str → Option Value} {k : Nat} {fa a : Addr} {fd : FuncData} {x : Str} {sp : Sp} {s₁ : Shared} {us : List Value} {ms : List Int}
    (inK : K.In s₁.heap) (g1 : s₁.heap.Ns mainGlobals mg) (g2 : s₁.heap.Ns builtinsNs mb) (g3 : ∀ x : Str, x ≠ "__name__" → mb x = bootBuiltins x) (g4 : s₁.heap.NoLimit) (g5 : s₁.gens = #[])
    (at_a : s₁.heap.get? a = some { cls := .type "list", data := .seq us.toArray }) (are : IntsAre us ms) (short : ms.length ≤ sizeLine) (room : Room k callerA)
    (F : ∀ base : Heap, K.In base → base.Ns mainGlobals mg → FnOkG P w K mg base k fa fd [x] sp) (bind : ∀ (s : Shared) (u : Value), BindsTo s fd ⟨[u], []⟩ [(x, u)])
    (want : ∀ H : Hp, Only H → SqL K H a (ms.map V.int) → sp [.ref a] H (fun v _ => v = .bl true) fun _ _ _ => False) :
    codeAny (model P w) callerA (.call (.ref fa) ⟨[.ref a], []⟩) (fun r s' => r = .ok (.ret (.bool true)) ∧ OldK s₁.heap s'.heap ∧ s'.os = s₁.os ∧ AllBare s'.gens) s₁ := by
  have vals := vals_ints are
  have many := are.length
  have main : ∀ H : Hp, Only H → SqL K H a (ms.map V.int) → HOk P w H s₁.heap → (∀ b, H b ≠ none → b = a) → (H a ≠ none → K.lookup a = none) →
      codeAny (model P w) callerA (.call (.ref fa) ⟨[.ref a], []⟩) (fun r s' => r = .ok (.ret (.bool true)) ∧ OldK s₁.heap s'.heap ∧ s'.os = s₁.os ∧ AllBare s'.gens) s₁ := by
    intro H only seq hok just out
    have hid : ∀ {b : Addr} {o : Obj} {es : Array DictEntry} {n : Nat}, s₁.heap.get? b = some o → o.data = .dict es n → H b = none := fun {b o es n} e d => Classical.byContradiction fun z => by
      rw [just b z, at_a] at e
      obtain rfl := Option.some.inj e
      exact absurd (show Data.seq us.toArray _ = Data.dict es n from d) (fun z => nomatch z)
    have names : ∀ {b : Addr} {m : Str → Option Value}, s₁.heap.Ns b m → (hidT s₁.heap H).Ns b m := fun {b m} ⟨o, es, n, e, d, r⟩ => ⟨o, es, n, hidT_get e (hid e d), d, r⟩
    have inB : K.In (hidT s₁.heap H) := fun b o e => hidT_get (inK b o e) (Classical.byContradiction fun z => by
      have ba := just b z
      rw [ba] at z e
      rw [out z] at e
      exact absurd e (fun z => nomatch z))
    have known : Mod K mg (hidT s₁.heap H) := ⟨inB, names g1, ⟨mb, names g2, g3⟩, g4.elim fun mc z => ⟨mc, names z.1, z.2⟩⟩
    have entry : Env0 P w K mg (hidT s₁.heap H) callerA [] s₁ H := ⟨rfl, known, fun b o e => of_hidT e, Nat.le_of_eq (hidT_size _ _), trivial, fun b z => (List.not_mem_nil z).elim, hok, .of_eq g5⟩
    refine codeAny_mono ((F _ inB (names g1)).go callerA [] s₁ H ⟨[.ref a], []⟩ [.ref a] [.ref a] _ _ rfl room entry (bind s₁ (.ref a)) (.cons rfl .nil) (want H only seq)) fun r s' h => ?_
    match r, h with
    | .ok (.ret u), ⟨v, H', os, bare, un, hok', rel, (q : v = .bl true)⟩ =>
      subst q
      obtain rfl : u = Value.bool true := rel
      refine ⟨rfl, OldK.of_keep fun b o e => ?_, os, bare⟩
      rcases only b with z | ⟨ob, xs, z⟩
      · exact un.keep b o e z (fun m => (List.not_mem_nil m).elim) (by simp)
      · have e1 := (hok b _ z).1
        have e2 := (hok' b _ (un.frzs b ob _ z)).1
        rw [e] at e1
        rw [Option.some.inj e1]
        exact e2
  cases look : K.lookup a with
  | some o =>
    obtain rfl := Option.some.inj (at_a.symm.trans (inK a o look))
    exact main (fun _ => none) (fun _ => .inl rfl) (.inr ⟨_, us.toArray, _, look, rfl, rfl, rfl, by simpa [many] using short, by simpa using vals⟩) (fun b u z => (nomatch (show (none : Option HO) = some u from z))) (fun b z => (z rfl).elim) fun z => (z rfl).elim
  | none =>
    let O : Obj := { cls := .type "list", data := .seq us.toArray }
    let G : Hp := fun b => if b = a then some (.frz O (.lst (ms.map V.int))) else none
    have gA : G a = some (.frz O (.lst (ms.map V.int))) := if_pos rfl
    have gN : ∀ b, b ≠ a → G b = none := fun b n => if_neg n
    refine main G (fun b => ?_) (.inl (.inr ⟨O, gA⟩)) (fun b u z => ?_) (fun b z => Classical.byContradiction fun n => z (gN b n)) fun _ => look
    · rcases Decidable.em (b = a) with rfl | n
      · exact .inr ⟨_, _, gA⟩
      · exact .inl (gN b n)
    · rcases Decidable.em (b = a) with rfl | n
      · obtain rfl := Option.some.inj (gA.symm.trans z)
        exact ⟨at_a, by rw [List.length_map]; exact short, us, _, vals, at_a⟩
      · exact absurd (gN b n) (by rw [z]; exact fun e => nomatch e)
/-- a law's end, from a promise of that kind -/
theorem walk_ofG {l : PySem.W.OpenLaw} {n k : Nat} {q : Program} {loose : List Str} {XP : (Str → Option Value) → Heap → Prop} {YP : World → Heap → Prop} {d : DefRec} {x : Str}
    (most : l.most = some n) (small : n ≤ sizeLine) (plain : d.params.defaults = []) (room : Room k callerA)
    (F : ∀ (w : World) (mg : Str → Option Value) (fa : Addr) (h : Heap), YP w h → h.Ns mainGlobals mg → mg d.name = some (.ref fa) →
      ∃ (K : PySem.W.Frag) (fd : FuncData) (sp : Sp), K.In h ∧ (∀ (s : Shared) (u : Value), BindsTo s fd ⟨[u], []⟩ [(x, u)]) ∧
        (∀ (H : Hp) (a : Addr) (ms : List Int), ms.length ≤ n → Only H → SqL K H a (ms.map V.int) → sp [.ref a] H (fun v _ => v = .bl true) fun _ _ _ => False) ∧
        ∀ base : Heap, K.In base → base.Ns mainGlobals mg → FnOkG l.prog w K mg base k fa fd [x] sp) :
    PySem.W.WalkO q loose XP YP l.row.toRowW d [] (fun f vs => PySem.call f vs) :=
  Att.attach_call most plain fun w s₀ s₁ mg mb fa o pm cd doc a us ms G Y ho hd hcd named at_a are len gens => by
    obtain ⟨K, fd, sp, inK, bind, want, prom⟩ := F w mg fa _ Y G.T.g named
    exact law_callG inK G.T.g G.T.b G.T.builtins G.T.nolimit gens at_a are (Nat.le_trans len small) room prom bind fun H only seq => want H a ms len only seq
end CG

/-! ### repr of data that may be None -/
namespace CG
open PySem PySem.Spec PyProof.Rows L2
section
variable {X : Cx}
def rReprN (K : PySem.W.Frag) : List V → Hp → VK → Prop := fun vs H Q => ∃ (x : V) (d : PyData), vs = [x] ∧ (x = .non ∨ ∃ a, x = .ref a) ∧ Dp K H x d ∧ d.showable = true ∧ d.hasDict = false ∧ d.shown.length ≤ sizeLine ∧ d.depth ≤ 60 ∧ Q (.str d.shown) H
theorem cr_reprN (gd : X.A.guards = some []) (hu : X.A.units + 65 < cLine) : CallR X (.builtin "repr") (rReprN X.K) := by
  intro pins s σ H vs us Q I r h
  obtain ⟨x, d, rfl, c, hd, sh, nd, lz, dp, q⟩ := h
  rcases c with rfl | ⟨a, rfl⟩
  · cases hd
    obtain ⟨u, rfl, rfl⟩ := vals1 r
    exact PySem.P.repr_of_none ⟨.str _, H, I.tok _, ⟨_, rfl⟩, q⟩
  · exact cr_repr gd hu pins s σ H _ us Q I r ⟨a, d, rfl, hd, sh, nd, lz, dp, q⟩
end
end CG

/-! ### repr of data that may hold empty dicts -/
namespace CG
open PySem PySem.Spec PyProof.Rows L2
mutual
/-- data, empty dicts among them -/
inductive De (K : PySem.W.Frag) (H : Hp) : V → PyData → Prop
  | non : De K H .non .none
  | bl (b : Bool) : De K H (.bl b) (.bool b)
  | int (i : Int) : De K H (.int i) (.int i)
  | str (x : Str) : De K H (.str x) (.str x)
  | lst {a : Addr} {xs : List V} {ds : List PyData} : SqL K H a xs → DeAll K H xs ds → De K H (.ref a) (.list ds)
  | tup {a : Addr} {xs : List V} {ds : List PyData} : SqT K H a xs → DeAll K H xs ds → De K H (.ref a) (.tuple ds)
  | emp {a : Addr} : H a = some (.dK []) → De K H (.ref a) (.dict [])
inductive DeAll (K : PySem.W.Frag) (H : Hp) : List V → List PyData → Prop
  | nil : DeAll K H [] []
  | cons {v : V} {vs : List V} {d : PyData} {ds : List PyData} : De K H v d → DeAll K H vs ds → DeAll K H (v :: vs) (d :: ds)
end
section
variable {X : Cx} {pins : List (Addr × Obj)} {σ : L2.St} {H : Hp} {s : Shared}
theorem sys_not {a : Addr} {o : Obj} (I : Inv X pins σ H s) (sd : PySem.W.typeIn X.K (.ref sysModules) = some (.type "dict")) (ho : s.heap.get? a = some o) (hc : o.cls = .type "list") : a ≠ sysModules := fun z => by
  obtain ⟨o2, h2, e2⟩ := Option.map_eq_some_iff.mp sd
  have h3 := I.kIn _ _ h2
  rw [z, h3] at ho
  obtain rfl := Option.some.inj ho
  rw [e2] at hc
  exact absurd hc (by decide)
/-- no list stands where sys.modules does -/
def NoSys (h : Heap) : Prop := ∀ (a : Addr) (o : Obj) (its : Array Value) (n : Nat), h.get? a = some o → o.cls = .type "list" → o.data = .seq its n → a ≠ sysModules
mutual
theorem De.reads (I : Inv X pins σ H s) (nl : NoSys s.heap) : ∀ (d : PyData) (v : V) (u : Value), De X.K H v d → RelV v u → ∃ as, Reads s.heap u d as ∧ sysModules ∉ as
  | .none, _, _, h, r => by
    cases h
    cases r
    exact ⟨_, Reads.none, List.not_mem_nil⟩
  | .bool b, _, _, h, r => by
    cases h
    cases r
    exact ⟨_, Reads.bool b, List.not_mem_nil⟩
  | .int i, _, _, h, r => by
    cases h
    obtain ⟨t, rfl⟩ := r
    exact ⟨_, Reads.int i t, List.not_mem_nil⟩
  | .str x, _, _, h, r => by
    cases h
    obtain ⟨t, rfl⟩ := r
    exact ⟨_, Reads.str x t, List.not_mem_nil⟩
  | .list ds, _, _, h, r => by
    cases h with
    | lst hs ha =>
      cases r
      obtain ⟨its, rv, ⟨o, n, ho, hc, _, hd⟩, _⟩ := I.list hs
      obtain ⟨as, hr, hn⟩ := De.readsAll I nl ds _ its ha rv
      exact ⟨_, Reads.list ho hc hd hr, fun z => by
        rcases List.mem_cons.mp z with z | z
        · exact nl _ _ _ _ ho hc hd z.symm
        · exact hn z⟩
  | .tuple ds, _, _, h, r => by
    cases h with
    | tup hs ha =>
      cases r
      obtain ⟨its, rv, ⟨o, ho, hc, n, hd⟩, _⟩ := I.tuple hs
      obtain ⟨as, hr, hn⟩ := De.readsAll I nl ds _ its ha rv
      exact ⟨_, Reads.tuple ho hc hd hr, hn⟩
  | .dict kvs, _, _, h, r => by
    cases h with
    | @emp a he =>
      cases r
      obtain ⟨_, hm, vs, rv, dd⟩ := dk_of I.hok he
      cases rv
      obtain ⟨o, es, n, ho, hx, hd, _, hp, _⟩ := dd
      have e0 : es.toList = [] := by
        cases h : es.toList with
        | nil => rfl
        | cons e t =>
          rw [h] at hp
          cases hp
      have hs : sysModules ∉ a :: ([] : List Addr) ++ [] := fun z => by
        have z2 : sysModules = a := by simpa using z
        rw [← z2] at hm
        simp at hm
      exact ⟨_, Reads.dict (kvs := []) ho hx.1 hd (by rw [e0]; exact .nil) (by rw [e0]; exact .nil), hs⟩
theorem De.readsAll (I : Inv X pins σ H s) (nl : NoSys s.heap) : ∀ (ds : List PyData) (vs : List V) (us : List Value), DeAll X.K H vs ds → Vals vs us → ∃ as, ReadsAll s.heap us ds as ∧ sysModules ∉ as
  | [], _, _, h, r => by
    cases h
    cases r
    exact ⟨_, ReadsAll.nil, List.not_mem_nil⟩
  | d :: ds, _, _, h, r => by
    cases h with
    | cons h1 h2 =>
      cases r with
      | cons r1 r2 =>
        obtain ⟨as, q1, n1⟩ := De.reads I nl d _ _ h1 r1
        obtain ⟨bs, q2, n2⟩ := De.readsAll I nl ds _ _ h2 r2
        exact ⟨_, ReadsAll.cons q1 q2, fun z => (List.mem_append.mp z).elim n1 n2⟩
end
/-- repr(x) -/
def rReprE (K : PySem.W.Frag) : List V → Hp → VK → Prop := fun vs H Q => ∃ (a : Addr) (d : PyData), vs = [V.ref a] ∧ De K H (.ref a) d ∧ d.showable = true ∧ d.shown.length ≤ sizeLine ∧ d.depth ≤ 60 ∧ Q (.str d.shown) H
theorem cr_reprNS (nl : ∀ pins σ H s, Inv X pins σ H s → NoSys s.heap) (gd : X.A.guards = some []) (hu : X.A.units + 65 < cLine) : CallR X (.builtin "repr") (rReprE X.K) := by
  intro pins s σ H vs us Q I r h
  obtain ⟨a, d, rfl, hd, sh, lz, dp, q⟩ := h
  rw [Vals.ref1 r]
  obtain ⟨as, rd, ns⟩ := De.reads I (nl _ _ _ _ I) _ (.ref a) _ hd rfl
  refine repr_of_reads' rd sh (fun _ => ns) gd (by omega) (fun _ _ e => e) (fun h' u tk hk => ?_) lz
  exact ⟨.str d.shown, H, I.kept (t' := tk) hk, ⟨_, rfl⟩, q⟩
theorem cr_reprE (sd : PySem.W.typeIn X.K (.ref sysModules) = some (.type "dict")) (gd : X.A.guards = some []) (hu : X.A.units + 65 < cLine) : CallR X (.builtin "repr") (rReprE X.K) := cr_reprNS (fun _ _ _ _ I _ _ _ _ ho hc _ => sys_not I sd ho hc) gd hu
end
end CG

namespace CG
-- kexcis
open PySem PySem.Spec PyProof.Rows L2
/-! ### isinstance(e, (X, Y)), e the exception that the suite holds -/
/-- what the class D must say -/
structure ExcI (K : PySem.W.Frag) (D : Addr) : Prop where
  hl : (PySem.W.clsIn K D).isSome = true
  hg : PySem.W.findIn K (.ref D) "__getattribute__" = some (some (.builtin "BaseException.__getattribute__"))
  hk : PySem.W.findIn K (.ref D) "__getattr__" = some none
  hs : PySem.W.subIn K (.ref D) (.type "BaseException") = some true
  ha : PySem.W.findIn K (.ref D) "__class__" = some (some (.builtin "object.__class__"))
  hn : PySem.W.specialIn K (.builtin "object.__class__") "__get__" = some (some (.builtin "getset_descriptor.__get__"))
  ht : PySem.W.takesIn K (.builtin "object.__class__") = some true
  hm : PySem.W.mroIn K D (.type "object") = some true
def rIsET (K : PySem.W.Frag) (cls : Value) (d : Option Addr) (D a : Addr) : List V → Hp → VK → Prop := fun xs H Q => ∃ (tp : Addr) (cs : List V) (us : List Value) (b : Bool), xs = [.ref a, .ref tp] ∧ cls = .ref D ∧ H tp = some (.tup cs) ∧ Paired ClsV cs us ∧ (∃ (dd : Addr) (fs : List (Str × V)), d = some dd ∧ H dd = some (.xd fs)) ∧ PySem.W.kitAny K (.ref D) us = some b ∧ Q (.bl b) H
theorem call_isET {X : Cx} {a D : Addr} {oe : Obj} {cls : Value} {d : Option Addr} {pn : List (Addr × Obj)} (C : ExcI X.K D) (hz : Zc cls d oe) (hf : ∃ vs, oe.data = .fields vs) : CallR (X.suite a ((a, oe) :: pn)) (.builtin "isinstance") (rIsET X.K cls d D a) := by
  intro pins s σ H xs us Q I r h
  obtain ⟨tp, cs, ws, b, rfl, ec, hT, k, ⟨dd, fs, ed, hdd⟩, e, q⟩ := h
  obtain ⟨u1, u2, rfl, r1, r2⟩ := vals2 r
  obtain rfl : u1 = Value.ref a := r1
  obtain rfl : u2 = Value.ref tp := r2
  subst ec
  subst ed
  obtain ⟨hget, _⟩ := I.pin (a, oe) (List.mem_append.mpr (.inl List.mem_cons_self))
  obtain ⟨vs, hv⟩ := hf
  have hx : ObjOk X.prog X.w H s.heap dd (.xd fs) := I.hok dd _ hdd
  obtain ⟨mA, ⟨od, hod⟩, _⟩ := (show ∃ mA, (∃ o, s.heap.get? dd = some o) ∧ True by
    obtain ⟨mA, ⟨o, es, n, h1, _⟩, _⟩ := hx
    exact ⟨mA, ⟨o, h1⟩, trivial⟩)
  have J : PySem.W.InstAt s.heap a oe D (some od) := by
    obtain ⟨oc, odi, oda, osl⟩ := oe
    obtain ⟨h1, h2⟩ := hz
    dsimp only at h1 h2 hv
    subst h1 h2 hv
    exact ⟨hget, rfl, rfl, hod⟩
  obtain ⟨_, its, rv, o, h1, h2, n, h3⟩ := (show ObjOk X.prog X.w H s.heap tp (.tup cs) from I.hok tp _ hT)
  have e3 := ClsV.all k rv
  subst e3
  obtain ⟨oc, od2, dt, sl⟩ := o
  simp only at h2 h3
  subst h2 h3
  exact PySem.W.kia_tup (PySem.W.kitx_exc C.hl C.hg C.hk C.hs C.ha C.hn C.ht C.hm) I.kIn J h1 e (fun z => nomatch z) fun tk => ⟨.bl b, H, I.tok tk, rfl, q⟩
end CG

/-! ### repr of any data -/
namespace CG
open PySem PySem.Spec PyProof.Rows L2
section
variable {X : Cx}
def rReprA (K : PySem.W.Frag) : List V → Hp → VK → Prop := fun vs H Q => ∃ (x : V) (d : PyData), vs = [x] ∧ De K H x d ∧ d.showable = true ∧ d.shown.length ≤ sizeLine ∧ d.depth ≤ 60 ∧ Q (.str d.shown) H
/-- sys.modules is a dict, from the base -/
def SysB (base : Heap) : Prop := ∃ m, base.Ns sysModules m
theorem cr_reprA (sb : SysB X.base) (gd : X.A.guards = some []) (hu : X.A.units + 65 < cLine) : CallR X (.builtin "repr") (rReprA X.K) := by
  intro pins s σ H vs us Q I r h
  obtain ⟨x, d, rfl, hd, sh, lz, dp, q⟩ := h
  have ref : ∀ a, x = .ref a → wpAny (model X.prog X.w) X.A (call (.builtin "repr") us) (EP X pins σ Q) X.xe s := fun a e => by
    subst e
    exact cr_reprNS (show ∀ pins σ H s, Inv X pins σ H s → NoSys s.heap from fun _ _ _ _ I _ _ _ _ ho _ hd z => by
      obtain ⟨_, o2, es, ep, h2, h3, _⟩ := sb
      have h4 := I.bk _ _ h2
      rw [z, h4] at ho
      obtain rfl := Option.some.inj ho
      exact nomatch h3.symm.trans hd) gd hu pins s σ H _ us Q I r ⟨a, d, rfl, hd, sh, lz, dp, q⟩
  obtain ⟨u, rfl, ru⟩ := vals1 r
  cases hd with
  | non =>
    obtain rfl : u = Value.none := ru
    exact PySem.P.repr_of_none ⟨.str _, H, I.tok _, ⟨_, rfl⟩, q⟩
  | bl b =>
    obtain rfl : u = Value.bool b := ru
    exact PySem.P.repr_of_bool ⟨.str _, H, I.tok _, ⟨s.toks, by cases b <;> rfl⟩, q⟩
  | int i =>
    obtain ⟨t, rfl⟩ := ru
    exact PySem.P.repr_of_int (of_decide_eq_true sh) ⟨.str _, H, I.tok _, ⟨_, rfl⟩, q⟩
  | str z =>
    obtain ⟨t, rfl⟩ := ru
    have e : PyData.shown (.str z) = reprText z := PyData.shown_str z
    rw [e] at lz q
    refine PySem.P.repr_of_str (x := z) (t := t) ?_ lz
    exact ⟨.str _, H, I.tok _, ⟨_, rfl⟩, q⟩
  | lst h1 h2 => exact ref _ rfl
  | tup h1 h2 => exact ref _ rfl
  | emp h => exact ref _ rfl
end
/-! ### isinstance(e, C), e the exception that the suite holds, whatever its class -/
def rIsEG (K : PySem.W.Frag) (cls : Value) (d : Option Addr) (a : Addr) : List V → Hp → VK → Prop := fun xs H Q => ∃ (D : Addr) (c : V) (cv : Value) (b : Bool), xs = [.ref a, c] ∧ cls = .ref D ∧ ExcI K D ∧ (∃ (dd : Addr) (fs : List (Str × V)), d = some dd ∧ H dd = some (.xd fs)) ∧ (∀ u, RelV c u → u = cv) ∧ PySem.W.kitOne K (.ref D) cv = some b ∧ Q (.bl b) H
theorem call_isEG {X : Cx} {a : Addr} {oe : Obj} {cls : Value} {d : Option Addr} {pn : List (Addr × Obj)} (hz : Zc cls d oe) (hf : ∃ vs, oe.data = .fields vs) : CallR (X.suite a ((a, oe) :: pn)) (.builtin "isinstance") (rIsEG X.K cls d a) := by
  intro pins s σ H xs us Q I r h
  obtain ⟨D, c, cv, b, rfl, ec, C, ⟨dd, fs, ed, hdd⟩, hcv, e, q⟩ := h
  obtain ⟨u1, u2, rfl, r1, r2⟩ := vals2 r
  obtain rfl : u1 = Value.ref a := r1
  obtain rfl := hcv _ r2
  subst ec
  subst ed
  obtain ⟨hget, _⟩ := I.pin (a, oe) (List.mem_append.mpr (.inl List.mem_cons_self))
  obtain ⟨vs, hv⟩ := hf
  have hx : ObjOk X.prog X.w H s.heap dd (.xd fs) := I.hok dd _ hdd
  obtain ⟨od, hod⟩ := (show ∃ o, s.heap.get? dd = some o by
    obtain ⟨mA, ⟨o, es, n, h1, _⟩, _⟩ := hx
    exact ⟨o, h1⟩)
  have J : PySem.W.InstAt s.heap a oe D (some od) := by
    obtain ⟨oc, odi, oda, osl⟩ := oe
    obtain ⟨h1, h2⟩ := hz
    dsimp only at h1 h2 hv
    subst h1 h2 hv
    exact ⟨hget, rfl, rfl, hod⟩
  exact PySem.W.kia_one (PySem.W.kitx_exc C.hl C.hg C.hk C.hs C.ha C.hn C.ht C.hm) I.kIn J e (fun z => nomatch z) fun tk => ⟨.bl b, H, I.tok tk, rfl, q⟩
theorem kit1 {K : PySem.W.Frag} {t c : Value} {b : Bool} (h : PySem.W.kitAny K t [c] = some b) : PySem.W.kitOne K t c = some b := by
  unfold PySem.W.kitAny at h
  split at h
  · rename_i e
    rw [e, h]
  · rename_i e
    rw [e]
    exact h
  · cases h
theorem rel_cls {C : Addr} : ∀ u, RelV (.ref C) u → u = Value.ref C := fun _ h => h
theorem rel_ty {s : String} : ∀ u, RelV (.ty s) u → u = Value.type s := fun _ h => h
end CG

-- lambdas
/-! ### lambdas without parameters as values -/
namespace CG
open PySem PySem.Spec PyProof.Rows L2
/-- what such a lambda is made of -/
structure LF where
  qual : Str
  params : Arguments
  body : Expr
  scope : Scope
  cl : List (Str × Addr)
  c : Addr
abbrev LF.ob (L : LF) (pm ctv : Value) : Obj := PySem.W.kla_obj "<lambda>" L.qual L.params L.body L.scope L.cl pm L.c ctv
/-- the object at f is the lambda L -/
def LamO (f : Addr) (L : LF) : HO := .ext fun h => ∃ pm ctv : Value, h.get? f = some (L.ob pm ctv)
theorem lamO_tbl {f : Addr} {L : LF} (ps : Array Value) : LamO f L ≠ .tbl ps := fun z => HO.noConfusion (show HO.ext _ = HO.tbl ps from z)
abbrev lname (X : Cx) : Str := X.env.qual ++ "<lambda>"
abbrev lfOf (X : Cx) (params : Arguments) (body : Expr) (scope : Scope) (c' : Addr) : LF := ⟨lname X, params, body, scope, cloFrom X.env.cells scope.names [], c'⟩
section
variable {X : Cx} {pins : List (Addr × Obj)} {σ : L2.St} {H : Hp} {s : Shared} {params : Arguments} {body : Expr} {scope : Scope}
/-- a lambda's object, just pushed, is known from now on -/
theorem lam_pushed {L : LF} {pm ctv : Value} {tk : Nat} (I : Inv X pins σ H s) : Inv X pins σ (upd H s.heap.objs.size (LamO s.heap.objs.size L)) { s with heap := s.heap.push (L.ob pm ctv), toks := tk } := by
  have here : (s.heap.push (L.ob pm ctv)).get? s.heap.objs.size = some (L.ob pm ctv) := Heap.get?_push_size _ rfl
  exact I.laid (fun b u q => Heap.get?_push_of_some _ q) (Nat.le_refl _) ⟨⟨pm, ctv, here⟩, ⟨_, here⟩, fun g1 g2 ⟨p, c, z⟩ keep => ⟨p, c, keep _ z⟩⟩
/-- the lambda is made -/
theorem lam_new {T : List (Addr × Str)} {c P : Addr} {pos : Pos} {E : Value → Shared → Prop} {Q : Value → Shared → Prop} (I : Inv X pins σ H s) (TB : LamX.TabB X.base X.mg c P) (hcode : X.env.code = .ref c)
    (hm : (P, lname X) ∈ T) (one : ∀ p ∈ T, p.1 = P → p.2 = lname X) (tabs : LamX.Tabs T H) (hdef : defaultsOf params X.env = ([], [])) (has : ∀ y ∈ scope.names, y.2 = .free → ∃ c, X.env.cells.lookup y.1 = some c)
    (k : ∀ (f c' : Addr) (G : Hp) (s' : Shared), Inv X pins σ G s' → LamX.ExtN H G → LamX.Tabs T G → H f = none → G f = some (LamO f (lfOf X params body scope c')) → G c' = some (LamX.CodeO c' (lname X)) → Q (.ref f) s') :
    wpAny (model X.prog X.w) X.A (eval (.Lambda params body scope pos) X.env) Q E s := by
  obtain ⟨ps, atP, trip, told⟩ := tabs _ hm
  have blt : s.heap.BuiltinsAt X.mg P := TB.bm.keeps I.bk
  have objP : s.heap.get? P = some { cls := .none, data := .fields ps } := I.hok P _ atP
  have hd := TB.code.keeps I.bk
  refine PySem.W.kla_eval hdef ?_
  match found : codeAmong pos ps.toList with
  | some cv =>
    obtain ⟨c', rfl, known⟩ := told pos cv found
    refine PySem.W.kla_makeFunctionHit (mg := X.mg) (c := c) (P := P) (ps := ps) (closure_ok has) I.ok.glob (I.mod.glob.keeps I.bk) hcode hd objP trip found blt fun ctv h' tk grown _ => ?_
    have J : Inv X pins σ H { s with heap := h', toks := tk } := I.kept grown
    have none1 : H h'.objs.size = none := J.hok.fresh (Nat.le_refl _)
    refine k h'.objs.size c' _ _ (lam_pushed (L := lfOf X params body scope c') (tk := tk) (pm := (X.mg "__name__").getD .none) (ctv := ctv) J) (fun b o e _ => ?_) (tabs.ext fun b o e => ?_) none1 upd_same ?_
    · rw [upd_ne (ne_of_none e none1)]
      exact e
    · rw [upd_ne (ne_of_none e none1)]
      exact e
    · rw [upd_ne (ne_of_none known none1)]
      exact known
  | none =>
    refine PySem.W.kla_makeFunction (mg := X.mg) (c := c) (P := P) (ps := ps) (closure_ok has) I.ok.glob (I.mod.glob.keeps I.bk) hcode hd objP trip found TB.gP blt fun c' ctv h' tk butP ge lt rec tabP => ?_
    obtain ⟨c2, oc, vs, t, e2, hoc, hdc, hv⟩ := rec
    obtain rfl := Value.ref.inj e2
    have none0 : H c' = none := I.hok.fresh ge
    have J := LamX.inv_table (t' := tk) (more := #[rawInt pos.line, rawInt pos.col, .ref c']) (h' := h') I atP (fun b o n e => butP b o n e) tabP ge ⟨oc, vs, t, hoc, hdc, hv⟩
    generalize hG : upd (upd H P (.tbl (ps ++ #[rawInt pos.line, rawInt pos.col, .ref c']))) c' (LamX.CodeO c' (lname X)) = G at J
    have nPc : P ≠ c' := ne_of_none atP none0
    have gP : G P = some (.tbl (ps ++ #[rawInt pos.line, rawInt pos.col, .ref c'])) := by rw [← hG, upd_ne nPc, upd_same]
    have gc : G c' = some (LamX.CodeO c' (lname X)) := by rw [← hG, upd_same]
    have gO : ∀ b o, b ≠ P → H b = some o → G b = some o := fun b o n e => by rw [← hG, upd_ne (ne_of_none e none0), upd_ne n]; exact e
    have gX : LamX.ExtN H G := fun b o e n => gO b o (fun z => n ps (Option.some.inj (e.symm.trans (by rw [z]; exact atP)))) e
    have eL : (ps ++ #[rawInt pos.line, rawInt pos.col, .ref c']).toList = ps.toList ++ [rawInt pos.line, rawInt pos.col, .ref c'] := by simp
    have tG : LamX.Tabs T G := fun p hp => by
      by_cases hb : p.1 = P
      · rw [one p hp hb, hb]
        refine ⟨_, gP, by rw [eL]; exact PySem.TriplesOk_snoc _ _ _ _ trip, fun p' cv hcv => ?_⟩
        rw [eL] at hcv
        rcases LamX.among_app _ trip hcv with z | z
        · obtain ⟨c0, a1, a2⟩ := told p' cv z
          exact ⟨c0, a1, gX _ _ a2 LamX.codeO_ne⟩
        · exact ⟨c', z, gc⟩
      · obtain ⟨us, a1, a2, a3⟩ := tabs p hp
        refine ⟨us, gO _ _ hb a1, a2, fun p' cv hcv => ?_⟩
        obtain ⟨c0, b1, b2⟩ := a3 p' cv hcv
        exact ⟨c0, b1, gX _ _ b2 LamX.codeO_ne⟩
    have none1 : G h'.objs.size = none := J.hok.fresh (Nat.le_refl _)
    have none2 : H h'.objs.size = none := I.hok.fresh (Nat.le_trans ge (Nat.le_of_lt lt))
    refine k h'.objs.size c' _ _ (lam_pushed (L := lfOf X params body scope c') (tk := tk) (pm := (X.mg "__name__").getD .none) (ctv := ctv) J) (fun b o e n => ?_) (tG.ext fun b o e => ?_) none2 upd_same ?_
    · have z := gX b o e n
      rw [upd_ne (ne_of_none z none1)]
      exact z
    · rw [upd_ne (ne_of_none e none1)]
      exact e
    · rw [upd_ne (ne_of_none gc none1)]
      exact gc
end
/-- the reading of a lambda: a new object -/
def tLamV (T : List (Addr × Str)) (mk : Addr → LF) : TE := fun _ H Q => LamX.Tabs T H ∧ ∀ (f c' : Addr) (G : Hp), LamX.ExtN H G → LamX.Tabs T G → H f = none → G f = some (LamO f (mk c')) → G c' = some (LamX.CodeO c' (mk c').qual) → Q (.ref f) G
theorem pe_lam {X : Cx} {T : List (Addr × Str)} {c P : Addr} {params : Arguments} {body : Expr} {scope : Scope} {pos : Pos} (TB : LamX.TabB X.base X.mg c P) (hcode : X.env.code = .ref c) (hm : (P, lname X) ∈ T) (one : ∀ p ∈ T, p.1 = P → p.2 = lname X)
    (L : LamX.LamS X.env.scope scope) (hdef : defaultsOf params X.env = ([], [])) : PE X (.Lambda params body scope pos) (tLamV T (lfOf X params body scope)) :=
  ⟨fun pins s σ H Q I ⟨tabs, h⟩ => lam_new I TB hcode hm one tabs hdef (L.has I.ok) fun f c' G s' J eN tG n1 a1 a2 => ⟨.ref f, G, J, rfl, h f c' G eN tG n1 a1 a2⟩⟩
/-- x(), in a def that was entered from the maker's frame X at s -/
theorem pe_act {X : Cx} {pins : List (Addr × Obj)} {σ : L2.St} {H : Hp} {s : Shared} {CXg : CXT} {Eg : XK} {Ng : List Str} {qg : Str} {sg : Scope} {g f c' : Addr} {cdg : Value} {params : Arguments} {body : Expr} {scope : Scope} {k i : Nat} {a : Str} {pn : List (Addr × Obj)}
    {xe : Value → Shared → Prop} {W : WX} {tb : XK → TE} {p1 p2 : Pos} (I : Inv X pins σ H s) (L : LamX.LamS X.env.scope scope)
    (bind : ∀ pm ctv : Value, bindArgs (PySem.W.kla_fn "<lambda>" (lname X) params body scope (cloFrom X.env.cells scope.names []) pm (.ref c') ctv) ⟨[], []⟩ = pure [])
    (tk : Takes ((cxOf CXg X.prog X.w X.K X.mg X.base Ng qg sg g cdg X.A X.stack s H Eg).tr pn xe) W) (room : Room (k + 1) (X.A.deeper (envOfC qg sg s.heap.objs.size g cdg)))
    (hbody : ∀ (A : Around) (outer : List Env) (s : Shared) (H : Hp) (E : XK), Room k (A.deeper (LamX.lamEnv X scope s.heap.objs.size f c')) → PE (LamX.lamCx X A outer s H E scope f c') body (tb E))
    (hN : Ng[i]? = some a) (hv : Vis sg a) (hd : (a == ("__debug__" : Str)) = false := by decide) (hcd : (a == ("__classdict__" : Str)) = false := by decide) :
    PE ((cxOf CXg X.prog X.w X.K X.mg X.base Ng qg sg g cdg X.A X.stack s H Eg).tr pn xe) (.Call (.Name a p1) [] [] p2)
      (fun τ G Q => τ[i]? = some (some (.ref f)) ∧ G f = some (LamO f (lfOf X params body scope c')) ∧ G c' = some (LamX.CodeO c' (lname X)) ∧ ∃ Ec : XK, (∀ cls d G', Ec cls d G' → W cls d τ G') ∧ tb Ec σ G Q) := by
  refine ⟨fun pinsZ sZ τ G Q IZ ⟨slot, isL, isC, Ec, hEc, h⟩ => ?_⟩
  have look := (pe_var (pos := p1) (i := i) hN hv hd hcd).run pinsZ sZ τ G (fun v G1 => v = .ref f ∧ G1 = G) IZ ⟨.ref f, slot, rfl, rfl⟩
  refine wpAny_Call_Name_kw (thn look fun u s1 ⟨v, G1, I1, r1, ev, eG⟩ => ?_)
  subst ev
  rw [eG] at I1
  obtain rfl : u = Value.ref f := r1
  obtain ⟨⟨pm, ctv, obj⟩, _, _⟩ := I1.hok f _ isL
  refine PySem.W.callWith_F0 ⟨_, _, _, _, obj⟩ ?_
  have un : Un (frs X.stack) [] H G s.heap s1.heap := I1.base
  obtain ⟨⟨oc, vs, t, hoc, hdc, hvc⟩, _, _⟩ := I1.hok c' _ isC
  have rc : codeAny (model X.prog X.w) (X.A.deeper (envOfC qg sg s.heap.objs.size g cdg)) (.call (.ref f) ⟨[], []⟩) (CR (L2.CX X.prog X.w) (envOfC qg sg s.heap.objs.size g cdg :: X.stack) X.prog X.w G s1 Q Ec) s1 := by
    refine PySem.W.kla_callFunE room.depth obj rfl L.co L.gen rfl ⟨c', oc, vs, t, rfl, hoc, hdc, hvc⟩ ?_
    rw [bind]
    refine wpAny_pure (wpAny_newFunctionEnv (fun y hy => (L.own y hy).2) (fun y hy => absurd hy List.not_mem_nil) (fun h₁ hns hsb => ⟨I1.nolimit.fresh _ hsb, ?_⟩) L.kind)
    show codeAny _ _ (.expr body (LamX.lamEnv X scope s1.heap.objs.size f c')) _ _
    have kept : ∀ b o, s1.heap.get? b = some o → h₁.get? b = some o := fun b o e => hsb.extBut b o (Nat.ne_of_lt (Heap.lt_size e)) (Heap.get?_push_of_some _ e)
    have J := LamX.lam_start2 (A := X.A.deeper (envOfC qg sg s.heap.objs.size g cdg)) (outer := envOfC qg sg s.heap.objs.size g cdg :: X.stack) (E := Ec) (f := f) (c' := c') (tk := s1.toks + ([] : List (Str × Value)).length) I L I1.env0 room.hd un hns kept
    refine PySem.W.kla_codeExpr (wpAny_mono ((hbody _ _ s1 G Ec (room.deeper _)).run [] _ _ G Q J h) (fun v s' out => ?_) fun e s' out => out)
    obtain ⟨v', G', J', rv, q⟩ := out
    exact ⟨v', G', J'.os, J'.bare, J'.base, J'.hok, rv, q⟩
  refine wpAny_call (codeAny_mono rc fun out s' q => ?_)
  match out, q with
  | .error e, q => exact tk e s' (XE.of_call I1 hEc q)
  | .ok (.ret u), q => exact I1.after q
/-- what a def makes of the lambda that it got: a calls it; Rd: that the lambda is there; tl: the lambda's reading -/
def Gives (P : Program) (w : World) (K : PySem.W.Frag) (mg : Str → Option Value) (base : Heap) (k : Nat) (Ng : List Str) (x a : Str) (st : Stmt) (g : Addr) (TT : (XK → Hp → VK → Prop) → Hp → VK → Prop) : Prop :=
  ∀ (A : Around) (outer : List Env) (cdg : Value) (f : Addr) (s : Shared) (H : Hp) (Q : VK) (Rd : Hp → Prop) (tl : XK → Hp → VK → Prop), A.guards = some [] → Room k (A.deeper (envOfC x (defScope st) s.heap.objs.size g cdg)) →
    (∀ (W : WX) (pn : List (Addr × Obj)) (xe : Value → Shared → Prop) (p1 p2 : Pos), Takes ((cxOf CX0 P w K mg base Ng x (defScope st) g cdg A outer s H fun _ _ _ => False).nox.tr pn xe) W →
      PE ((cxOf CX0 P w K mg base Ng x (defScope st) g cdg A outer s H fun _ _ _ => False).nox.tr pn xe) (.Call (.Name a p1) [] [] p2) (fun τ G Q => τ[0]? = some (some (.ref f)) ∧ Rd G ∧ ∃ Ec : XK, (∀ cls d G', Ec cls d G' → W cls d τ G') ∧ tl Ec G Q)) →
    Rd H → TT tl H Q → ∃ t, PSs (cxOf CX0 P w K mg base Ng x (defScope st) g cdg A outer s H fun _ _ _ => False).nox (defBody st) t ∧ t { nx := fun _ H' => Q .non H', rt := Q } (start Ng [.ref f]) H
/-- the reading of x(e), e one of some lambdas of this very frame -/
def tSaid (X : Cx) {ι : Type} (pa : ι → Arguments) (bo : ι → Expr) (sc : ι → Scope) (tb : ι → XK → TE) (TT : (XK → Hp → VK → Prop) → Hp → VK → Prop) (te : TE) : TE := fun σ H Q => te σ H fun v H1 =>
  ∃ (i : ι) (f c' : Addr), [v] = [V.ref f] ∧ H1 f = some (LamO f (lfOf X (pa i) (bo i) (sc i) c')) ∧ H1 c' = some (LamX.CodeO c' (lname X)) ∧ TT (fun E G R => tb i E σ G R) H1 Q
/-- x(e), e one of some lambdas of this very frame -/
theorem pe_said {X : Cx} {ι : Type} {pa : ι → Arguments} {bo : ι → Expr} {sc : ι → Scope} {tb : ι → XK → TE} {x a : Str} {st : Stmt} {g : Addr} {fd : FuncData} {Ng : List Str} {k : Nat} {TT : (XK → Hp → VK → Prop) → Hp → VK → Prop} {e : Expr} {te : TE} {p pos : Pos}
    (F : Fun X.K x x st g fd) (b : Binds X.K fd [a] []) (S : FnScope Ng [a] (defScope st)) (hg : Gl X x) (hm : X.mg x = some (.ref g)) (n0 : Ng[0]? = some a) (va : Vis (defScope st) a) (gives : Gives X.prog X.w X.K X.mg X.base k Ng x a st g TT) (gd : X.A.guards = some []) (room : Room (k + 2) X.A)
    (lam : ∀ i, LamX.LamS X.env.scope (sc i)) (bind : ∀ (i : ι) (q : Str) (cl : List (Str × Addr)) (pm cv ctv : Value), bindArgs (PySem.W.kla_fn "<lambda>" q (pa i) (bo i) (sc i) cl pm cv ctv) ⟨[], []⟩ = pure [])
    (hbody : ∀ (i : ι) (A : Around) (outer : List Env) (s : Shared) (H : Hp) (E : XK) (f c' : Addr), Room k (A.deeper (LamX.lamEnv X (sc i) s.heap.objs.size f c')) → PE (LamX.lamCx X A outer s H E (sc i) f c') (bo i) (tb i E))
    (he : PE X e te) (hdb : (x == ("__debug__" : Str)) = false := by decide) (hd : (a == ("__debug__" : Str)) = false := by decide) (hcd : (a == ("__classdict__" : Str)) = false := by decide)
    (hst : starEach [e] X.env = (false, eval e X.env) :: starEach [] X.env := by rfl) (hpl : (backTo pos (starEach [] X.env)).any (·.1) = false := by rfl) :
    PE X (.Call (.Name x p) [e] [] pos) (tSaid X pa bo sc tb TT te) := by
  refine ⟨fun pins s σ H Q I h => ?_⟩
  obtain ⟨oc, od, kV, doc, pm, an, cdv, ct, osl, rfl, lk, hcd0⟩ := F.ex
  have arg : PA X [e] (tCons te tNil) := pa_cons (hs := hst) he pa_nil
  have h2 : tCons te tNil σ H (fun vs H1 => ∃ (i : ι) (f c' : Addr), vs = [.ref f] ∧ H1 f = some (LamO f (lfOf X (pa i) (bo i) (sc i) c')) ∧ H1 c' = some (LamX.CodeO c' (lname X)) ∧ TT (fun E G R => tb i E σ G R) H1 Q) := h
  refine wpAny_Call_Name_kw (ld_glob I hg hm (PySem.W.callWith_K (h₀ := X.base) I.ok.mod.kin F.kp (thn (arg.run pos pins s σ H _ I h2) fun us s1 hh => ?_) hst hpl) hdb)
  obtain ⟨vs, H1, I1, r, i, f, c', rfl, isL, isC, tt⟩ := hh
  rw [Vals.ref1 r]
  refine ⟨I1.kIn, ?_⟩
  have rc : codeAny (model X.prog X.w) X.A (.call (.ref g) ⟨[.ref f], []⟩) (CR CX0 X.stack X.prog X.w H1 s1 Q fun _ _ _ => False) s1 := by
    refine LamX.run_ofS (k := k + 1) (N := Ng) (ps := [a]) (us := [.ref f]) (vs := [.ref f]) lk hcd0 S room I1.env0 (b s1 [.ref f] I1.kIn rfl) (.cons rfl .nil) rfl fun inner => ?_
    obtain ⟨t, ht, q⟩ := gives X.A X.stack cdv f s1 H1 Q (fun G => G f = some (LamO f (lfOf X (pa i) (bo i) (sc i) c')) ∧ G c' = some (LamX.CodeO c' (lname X))) (fun E G R => tb i E σ G R) gd (inner.mono (Nat.le_succ k))
      (fun W pn xe p1 p2 tk => ⟨fun pins s τ G R J z => (pe_act (CXg := CX0) (Eg := fun _ _ _ => False) (i := 0) I1 (lam i) (fun pm ctv => bind i _ _ _ _ _) tk inner (fun A outer s H E => hbody i A outer s H E f c') n0 va hd hcd).run pins s τ G R J ⟨z.1, z.2.1.1, z.2.1.2, z.2.2⟩⟩) ⟨isL, isC⟩ tt
    exact ⟨t, ht.nox, q⟩
  refine wpAny_call (codeAny_mono rc fun out s2 q => ?_)
  match out, q with
  | .error err, q => exact (show False from q).elim
  | .ok (.ret u), q => exact I1.after q
/-- the reading of x(lambda: ..): the table of code objects at P -/
def tSaid1 (X : Cx) (P : Addr) (tb : XK → TE) (TT : (XK → Hp → VK → Prop) → Hp → VK → Prop) : TE := fun σ H Q =>
  LamX.Tabs [(P, lname X)] H ∧ ∀ G, LamX.ExtN H G → LamX.Tabs [(P, lname X)] G → TT (fun E G R => tb E σ G R) G Q
/-- x(lambda: ..) -/
theorem pe_said1 {X : Cx} {tb : XK → TE} {x a : Str} {st : Stmt} {g c P : Addr} {fd : FuncData} {Ng : List Str} {k : Nat} {TT : (XK → Hp → VK → Prop) → Hp → VK → Prop} {params : Arguments} {body : Expr} {scope : Scope} {p lpos pos : Pos}
    (F : Fun X.K x x st g fd) (b : Binds X.K fd [a] []) (S : FnScope Ng [a] (defScope st)) (hg : Gl X x) (hm : X.mg x = some (.ref g)) (n0 : Ng[0]? = some a) (va : Vis (defScope st) a) (gives : Gives X.prog X.w X.K X.mg X.base k Ng x a st g TT) (gd : X.A.guards = some []) (room : Room (k + 2) X.A)
    (TB : LamX.TabB X.base X.mg c P) (hcode : X.env.code = .ref c)
    (hbody : ∀ (A : Around) (outer : List Env) (s : Shared) (H : Hp) (E : XK) (f c' : Addr), Room k (A.deeper (LamX.lamEnv X scope s.heap.objs.size f c')) → PE (LamX.lamCx X A outer s H E scope f c') body (tb E))
    (lam : LamX.LamS X.env.scope scope) (hdef : defaultsOf params X.env = ([], []) := by rfl) (bind : ∀ (q : Str) (cl : List (Str × Addr)) (pm cv ctv : Value), bindArgs (PySem.W.kla_fn "<lambda>" q params body scope cl pm cv ctv) ⟨[], []⟩ = pure [] := by intros; rfl)
    (hdb : (x == ("__debug__" : Str)) = false := by decide) (hd : (a == ("__debug__" : Str)) = false := by decide) (hcd : (a == ("__classdict__" : Str)) = false := by decide)
    (hst : starEach [Expr.Lambda params body scope lpos] X.env = (false, eval (Expr.Lambda params body scope lpos) X.env) :: starEach [] X.env := by rfl) (hpl : (backTo pos (starEach [] X.env)).any (·.1) = false := by rfl) :
    PE X (.Call (.Name x p) [.Lambda params body scope lpos] [] pos) (tSaid1 X P tb TT) := by
  have he : PE X (.Lambda params body scope lpos) (tLamV [(P, lname X)] (lfOf X params body scope)) := pe_lam TB hcode (List.mem_singleton.mpr rfl) (fun p hp _ => by rw [List.mem_singleton.mp hp]) lam hdef
  refine ⟨fun pins s σ H Q I h => ?_⟩
  refine (pe_said (ι := Unit) (pa := fun _ => params) (bo := fun _ => body) (sc := fun _ => scope) (tb := fun _ => tb) (TT := TT) F b S hg hm n0 va gives gd room (fun _ => lam) (fun _ => bind) (fun _ => hbody) he hdb hd hcd hst hpl).run pins s σ H Q I ?_
  exact ⟨h.1, fun f c' G eN tG _ a1 a2 => ⟨(), f, c', rfl, a1, a2, h.2 G eN tG⟩⟩
end CG

/-! ### defs that make lambdas, and the end where they stand -/
namespace CG
open PySem PySem.Spec PyProof.Rows L2
section
variable {P : Program} {w : World} {K : PySem.W.Frag} {mg : Str → Option Value} {base : Heap}
/-- a def by its body, where nothing is being printed and its code object is known -/
theorem okGT {x qual : Str} {st : Stmt} {f c : Addr} {fd : FuncData} {N ps : List Str} {k : Nat} {sp : Sp} (F : Fun K x qual st f fd) (at_c : fd.code = .ref c) (S : FnScope N ps (defScope st)) (len : ∀ vs H Q E, sp vs H Q E → vs.length = ps.length)
    (body : ∀ (A : Around) (fr : List Env) (s : Shared) (H : Hp) (vs : List V) (Q : VK) (E : XK), A.guards = some [] → Room k (A.deeper (envOfC qual (defScope st) s.heap.objs.size f (.ref c))) → sp vs H Q E →
      ∃ t, PSs (cxOf CX0 P w K mg base N qual (defScope st) f (.ref c) A fr s H E).nox (defBody st) t ∧ t { nx := fun _ H' => Q .non H', rt := Q } (start N vs) H) : FnOkG P w K mg base (k + 1) f fd ps sp := by
  obtain ⟨o1, o2, d1, d2, d3, o3, cd, ct, o4, rfl, look, code⟩ := F.ex
  obtain rfl : cd = .ref c := at_c
  refine ⟨len, fun A fr s H as us vs Q E gd room en bind rel want => ?_⟩
  have kin : K.In s.heap := en.mod.kin.keeps fun b o e => (en.bs b o e).1
  have lim := en.mod.nolimit.keeps fun b o e => (en.bs b o e).1
  have kinds : ∀ y ∈ ps.zip us, (defScope st).names.lookup y.1 = some .local ∨ ((defScope st).names.lookup y.1 = some .cell ∧ ((cellsFrom (s.heap.objs.size + 1) (defScope st).names []).lookup y.1).isSome = true) := fun ⟨n, v⟩ hy =>
    (S.par n (List.of_mem_zip hy).1).imp id fun q => ⟨q, PySem.W.cellsFrom_some _ _ _ (.inl q)⟩
  refine codeAny_call_function room.depth (kin _ _ look) rfl S.co S.gen rfl (PySem.W.codeRec_of kin code) (bind _ _ _ _ ?_)
  refine wpAny_newFunctionEnv_cells S.kind kinds fun env isEnv s1 entry => ?_
  subst isEnv
  refine ⟨lim.keeps entry.toInCall.keep, codeAny_func ?_⟩
  obtain ⟨t, rule, reading⟩ := body A fr s H vs Q E gd (room.deeper _) want
  have begins := inv_start (CX := CX0) (E := E) S room.hd en (len _ _ _ _ want) rel entry
  refine wpAny_mono (rule.nox.run [] s1 (start N vs) H _ begins reading) (fun fl s' out => ?_) fun e s' out => out
  match fl, out with
  | .ret u, ⟨v, _, H', J, rv, q⟩ => exact ⟨v, H', J.os, J.bare, J.base, J.hok, rv, q⟩
  | .next, ⟨_, H', J, q⟩ => exact ⟨V.non, H', J.os, J.bare, J.base, J.hok, rfl, q⟩
  | .brk, ⟨_, _, _, q⟩ => exact q.elim
  | .cont, ⟨_, _, _, q⟩ => exact q.elim
end
/-- the code object and its empty table of the def that stands at fa -/
def TabAt (h : Heap) (mg : Str → Option Value) (x : Str) : Prop := ∃ (a : Addr) (o : Obj) (fd : FuncData) (c P : Addr), mg x = some (.ref a) ∧ h.get? a = some o ∧ o.data = .func fd ∧ fd.code = .ref c ∧ PySem.W.CodeHd h c P ∧ h.get? P = some { cls := .none, data := .fields #[] }
theorem tab_by {h : Heap} {mg : Str → Option Value} {l : List DefRec} {x : Str} (tabs : ∀ r ∈ l, TabAt h mg r.name) (m : x ∈ l.map (·.name)) : TabAt h mg x := by
  obtain ⟨r, hr, rfl⟩ := List.mem_map.mp m
  exact tabs r hr
/-- where a def's data are known, so is its code object -/
theorem TabAt.at {h : Heap} {mg : Str → Option Value} {K : PySem.W.Frag} {x qual : Str} {st : Stmt} {f : Addr} {fd : FuncData} (t : TabAt h mg x) (inK : K.In h) (m : mg x = some (.ref f)) (F : Fun K x qual st f fd) :
    ∃ c P, fd.code = .ref c ∧ PySem.W.CodeHd h c P ∧ h.get? P = some { cls := .none, data := .fields #[] } := by
  obtain ⟨a, o, fd2, c, P, m2, at_a, isF, isC, hd, tab⟩ := t
  obtain ⟨_, _, _, _, _, _, _, _, _, rfl, look, _⟩ := F.ex
  obtain rfl : f = a := Value.ref.inj (Option.some.inj (m.symm.trans m2))
  obtain rfl := Option.some.inj ((inK _ _ look).symm.trans at_a)
  obtain rfl := Data.func.inj isF
  exact ⟨c, P, isC, hd, tab⟩
/-- no table of code objects stands in the part -/
def noTab (K : PySem.W.Frag) : Bool := K.all fun p => match p.2.cls, p.2.data with
  | .none, .fields _ => false
  | _, _ => true
theorem noTab_at {K : PySem.W.Frag} {h : Heap} {P : Addr} (inK : K.In h) (n : noTab K = true) (e : h.get? P = some { cls := .none, data := .fields #[] }) : K.lookup P = none := by
  cases l : K.lookup P with
  | none => rfl
  | some o =>
    obtain rfl := Option.some.inj ((inK _ _ l).symm.trans e)
    have := List.all_eq_true.mp n (P, { cls := .none, data := .fields #[] }) (PySem.W.mem_of_lookupK l)
    exact nomatch (show false = true from this)
/-- the law at its script, from a promise of that kind, the tables of code objects known -/
theorem law_callGT {P : Program} {w : World} {K : PySem.W.Frag} {mg mb : Str → Option Value} {k : Nat} {fa a : Addr} {ts : List (Addr × Addr)} {fd : FuncData} {x : Str} {sp : Sp} {s₁ : Shared} {us : List Value} {ms : List Int}
    (inK : K.In s₁.heap) (g1 : s₁.heap.Ns mainGlobals mg) (g2 : s₁.heap.Ns builtinsNs mb) (g3 : ∀ x : Str, x ≠ "__name__" → mb x = bootBuiltins x) (g4 : s₁.heap.NoLimit) (g5 : s₁.gens = #[])
    (empty : ∀ p ∈ ts, s₁.heap.get? p.2 = some { cls := .none, data := .fields #[] }) (offK : ∀ p ∈ ts, K.lookup p.2 = none) (codes : ∀ p ∈ ts, PySem.W.CodeHd s₁.heap p.1 p.2)
    (main : ∃ (bm : Addr) (ob : Obj), mg "__builtins__" = some (.ref bm) ∧ bm ≠ builtinsNs ∧ s₁.heap.get? bm = some ob ∧ ob.cls = .type "module" ∧ ob.dict = some builtinsNs ∧ ob.data = .plain)
    (at_a : s₁.heap.get? a = some { cls := .type "list", data := .seq us.toArray }) (are : IntsAre us ms) (short : ms.length ≤ sizeLine) (room : Room k callerA)
    (F : ∀ base : Heap, K.In base → base.Ns mainGlobals mg → (∀ p ∈ ts, LamX.TabB base mg p.1 p.2) → (∀ b m, s₁.heap.Ns b m → base.Ns b m) → FnOkG P w K mg base k fa fd [x] sp) (bind : ∀ (s : Shared) (u : Value), BindsTo s fd ⟨[u], []⟩ [(x, u)])
    (want : ∀ H : Hp, (∀ p ∈ ts, H p.2 = some (.tbl #[])) → SqL K H a (ms.map V.int) → sp [.ref a] H (fun v _ => v = .bl true) fun _ _ _ => False) :
    codeAny (model P w) callerA (.call (.ref fa) ⟨[.ref a], []⟩) (fun r s' => r = .ok (.ret (.bool true)) ∧ OldK s₁.heap s'.heap ∧ s'.os = s₁.os ∧ AllBare s'.gens) s₁ := by
  have vals := vals_ints are
  have many := are.length
  let tb : List Addr := ts.map (·.2)
  have isT : ∀ b ∈ tb, s₁.heap.get? b = some { cls := .none, data := .fields #[] } := fun b hb => by
    obtain ⟨p, hp, rfl⟩ := List.mem_map.mp hb
    exact empty p hp
  have inT : ∀ p ∈ ts, p.2 ∈ tb := fun p hp => List.mem_map.mpr ⟨p, hp, rfl⟩
  have aT : a ∉ tb := fun z => by
    have q := (isT a z).symm.trans at_a
    exact nomatch (congrArg Obj.data (Option.some.inj q) : Data.fields #[] = Data.seq us.toArray _)
  have core : ∀ H : Hp, (∀ p ∈ ts, H p.2 = some (.tbl #[])) → (∀ b, H b = none ∨ b ∈ tb ∨ ∃ o xs, H b = some (.frz o (.lst xs))) → SqL K H a (ms.map V.int) → HOk P w H s₁.heap → (∀ b, H b ≠ none → b = a ∨ b ∈ tb) → (H a ≠ none → K.lookup a = none) →
      codeAny (model P w) callerA (.call (.ref fa) ⟨[.ref a], []⟩) (fun r s' => r = .ok (.ret (.bool true)) ∧ OldK s₁.heap s'.heap ∧ s'.os = s₁.os ∧ AllBare s'.gens) s₁ := by
    intro H atT only seq hok just out
    have off : ∀ {b : Addr} {o : Obj}, s₁.heap.get? b = some o → (∀ vs n, o.data ≠ .seq vs n) → o.data ≠ .fields #[] → (hidT s₁.heap H).get? b = some o := fun {b o} e n1 n2 => hidT_get e (Classical.byContradiction fun z => by
      rcases just b z with rfl | hb
      · obtain rfl := Option.some.inj (at_a.symm.trans e)
        exact n1 _ _ rfl
      · obtain rfl := Option.some.inj ((isT b hb).symm.trans e)
        exact n2 rfl)
    have dicts : ∀ {b : Addr} {o : Obj} {es : Array DictEntry} {n : Nat}, s₁.heap.get? b = some o → o.data = .dict es n → (hidT s₁.heap H).get? b = some o := fun {b o es n} e d => off e (fun vs m z => nomatch d.symm.trans z) fun z => nomatch d.symm.trans z
    have names : ∀ {b : Addr} {m : Str → Option Value}, s₁.heap.Ns b m → (hidT s₁.heap H).Ns b m := fun {b m} ⟨o, es, n, e, d, r⟩ => ⟨o, es, n, dicts e d, d, r⟩
    have inB : K.In (hidT s₁.heap H) := fun b o e => hidT_get (inK b o e) (Classical.byContradiction fun z => by
      rcases just b z with rfl | hb
      · rw [out z] at e
        cases e
      · obtain ⟨p, hp, rfl⟩ := List.mem_map.mp hb
        rw [offK p hp] at e
        cases e)
    have known : Mod K mg (hidT s₁.heap H) := ⟨inB, names g1, ⟨mb, names g2, g3⟩, g4.elim fun mc z => ⟨mc, names z.1, z.2⟩⟩
    have made : ∀ p ∈ ts, LamX.TabB (hidT s₁.heap H) mg p.1 p.2 := fun p hp => by
      have here := empty p hp
      have notG : mainGlobals ≠ p.2 := fun z => by
        obtain ⟨o, es, n, e, d, _⟩ := g1
        rw [z] at e
        obtain rfl := Option.some.inj (here.symm.trans e)
        exact nomatch d
      refine ⟨?_, ?_, notG⟩
      · obtain ⟨o, vs, fl, tf, fg, tg, nf, tx, tt, e1, r1, r2, r3, r⟩ := codes p hp
        refine ⟨o, vs, fl, tf, fg, tg, nf, tx, tt, off e1 (fun _ _ z => nomatch r2.symm.trans z) (fun z => ?_), r1, r2, r3, r⟩
        obtain rfl := Data.fields.inj (r2.symm.trans z)
        exact absurd r3 (by simp)
      · obtain ⟨bm, ob, b1, b2, b3, b4, b5, b6⟩ := main
        refine ⟨bm, ob, b1, b2, fun z => ?_, fun z => ?_, off b3 (fun _ _ z => nomatch b6.symm.trans z) (fun z => nomatch b6.symm.trans z), b4, b5, b6⟩
        · obtain ⟨o, es, n, e, d, _⟩ := g1
          rw [z] at b3
          obtain rfl := Option.some.inj (b3.symm.trans e)
          exact nomatch b6.symm.trans d
        · rw [z] at b3
          obtain rfl := Option.some.inj (b3.symm.trans here)
          exact nomatch b6
    have entry : Env0 P w K mg (hidT s₁.heap H) callerA [] s₁ H := ⟨rfl, known, fun b o e => of_hidT e, Nat.le_of_eq (hidT_size _ _), trivial, fun b z => (List.not_mem_nil z).elim, hok, .of_eq g5⟩
    refine codeAny_mono ((F _ inB (names g1) made fun _ _ => names).go callerA [] s₁ H ⟨[.ref a], []⟩ [.ref a] [.ref a] _ _ rfl room entry (bind s₁ (.ref a)) (.cons rfl .nil) (want H atT seq)) fun r s' h => ?_
    match r, h with
    | .ok (.ret u), ⟨v, H', os, bare, un, hok', rel, (q : v = .bl true)⟩ =>
      subst q
      obtain rfl : u = Value.bool true := rel
      have stays : ∀ b o, b ∉ tb → s₁.heap.get? b = some o → s'.heap.get? b = some o := fun b o nb e => by
        rcases only b with z | z | ⟨ob, xs, z⟩
        · exact un.keep b o e z (fun m => (List.not_mem_nil m).elim) (by simp)
        · exact absurd z nb
        · have e1 := (hok b _ z).1
          have e2 := (hok' b _ (un.frzs b ob _ z)).1
          obtain rfl := Option.some.inj (e.symm.trans e1)
          exact e2
      have grown : ∀ p ∈ ts, ∃ more : Array Value, s'.heap.get? p.2 = some { cls := .none, data := .fields more } := fun p hp => by
        obtain ⟨more, z⟩ := un.tbls p.2 #[] (atT p hp)
        exact ⟨_, hok' p.2 _ z⟩
      refine ⟨rfl, ⟨fun b o e => ?_, fun b o e => ?_⟩, os, bare⟩
      · rcases Classical.em (b ∈ tb) with hb | hb
        · obtain ⟨p, hp, rfl⟩ := List.mem_map.mp hb
          obtain ⟨more, hm⟩ := grown p hp
          obtain rfl := Option.some.inj ((empty p hp).symm.trans e)
          exact .inr (.inl ⟨((codes p hp).tab (empty p hp)).isCodeTable, rfl, #[], more, rfl, by rw [Array.empty_append]; exact hm⟩)
        · exact .inl (stays b o hb e)
      · rcases Classical.em (b ∈ tb) with hb | hb
        · obtain ⟨p, hp, rfl⟩ := List.mem_map.mp hb
          obtain ⟨more, hm⟩ := grown p hp
          exact ⟨_, hm⟩
        · exact ⟨o, stays b o hb e⟩
  cases look : K.lookup a with
  | some o =>
    obtain rfl := Option.some.inj (at_a.symm.trans (inK a o look))
    let G : Hp := fun b => if b ∈ tb then some (.tbl #[]) else none
    have gT : ∀ b ∈ tb, G b = some (.tbl #[]) := fun b hb => if_pos hb
    have gN : ∀ b, b ∉ tb → G b = none := fun b hb => if_neg hb
    refine core G (fun p hp => gT _ (inT p hp)) (fun b => ?_) (.inr ⟨_, us.toArray, _, look, rfl, rfl, rfl, by simpa [many] using short, by simpa using vals⟩) (fun b u z => ?_) (fun b z => .inr (Classical.byContradiction fun n => z (gN b n))) fun z => (z (gN a aT)).elim
    · exact (Classical.em (b ∈ tb)).elim (fun h => .inr (.inl h)) fun h => .inl (gN b h)
    · rcases Classical.em (b ∈ tb) with h | h
      · obtain rfl := Option.some.inj ((gT b h).symm.trans z)
        exact isT b h
      · exact absurd ((gN b h).symm.trans z) (fun e => nomatch e)
  | none =>
    let O : Obj := { cls := .type "list", data := .seq us.toArray }
    let G : Hp := fun b => if b = a then some (.frz O (.lst (ms.map V.int))) else if b ∈ tb then some (.tbl #[]) else none
    have gA : G a = some (.frz O (.lst (ms.map V.int))) := if_pos rfl
    have gT : ∀ b ∈ tb, G b = some (.tbl #[]) := fun b hb => (if_neg (fun z : b = a => aT (z ▸ hb))).trans (if_pos hb)
    have gN : ∀ b, b ≠ a → b ∉ tb → G b = none := fun b n hb => (if_neg n).trans (if_neg hb)
    refine core G (fun p hp => gT _ (inT p hp)) (fun b => ?_) (.inl (.inr ⟨O, gA⟩)) (fun b u z => ?_) (fun b z => ?_) fun _ => look
    · rcases Decidable.em (b = a) with rfl | n
      · exact .inr (.inr ⟨_, _, gA⟩)
      · exact (Classical.em (b ∈ tb)).elim (fun h => .inr (.inl h)) fun h => .inl (gN b n h)
    · rcases Decidable.em (b = a) with rfl | n
      · obtain rfl := Option.some.inj (gA.symm.trans z)
        exact ⟨at_a, by rw [List.length_map]; exact short, us, _, vals, at_a⟩
      · rcases Classical.em (b ∈ tb) with h | h
        · obtain rfl := Option.some.inj ((gT b h).symm.trans z)
          exact isT b h
        · exact absurd ((gN b n h).symm.trans z) (fun e => nomatch e)
    · rcases Decidable.em (b = a) with rfl | n
      · exact .inl rfl
      · exact .inr (Classical.byContradiction fun h => z (gN b n h))
/-- a law's end, from a promise of that kind -/
theorem walk_ofGT {l : PySem.W.OpenLaw} {n k : Nat} {q : Program} {loose : List Str} {XP : (Str → Option Value) → Heap → Prop} {YP : World → Heap → Prop} {d : DefRec} {x : Str}
    (most : l.most = some n) (small : n ≤ sizeLine) (plain : d.params.defaults = []) (room : Room k callerA)
    (F : ∀ (w : World) (mg : Str → Option Value) (fa : Addr) (h : Heap), YP w h → h.Ns mainGlobals mg → mg d.name = some (.ref fa) → (∀ r ∈ recsOf q, TabAt h mg r.name) → (importsNone q = true → h.NoSeer) →
      ∃ (K : PySem.W.Frag) (fd : FuncData) (sp : Sp) (ts : List (Addr × Addr)), K.In h ∧ (∀ p ∈ ts, h.get? p.2 = some { cls := .none, data := .fields #[] }) ∧ (∀ p ∈ ts, K.lookup p.2 = none) ∧ (∀ p ∈ ts, PySem.W.CodeHd h p.1 p.2) ∧ (∀ (s : Shared) (u : Value), BindsTo s fd ⟨[u], []⟩ [(x, u)]) ∧
        (∀ (H : Hp) (a : Addr) (ms : List Int), ms.length ≤ n → (∀ p ∈ ts, H p.2 = some (.tbl #[])) → SqL K H a (ms.map V.int) → sp [.ref a] H (fun v _ => v = .bl true) fun _ _ _ => False) ∧
        ∀ base : Heap, K.In base → base.Ns mainGlobals mg → (∀ p ∈ ts, LamX.TabB base mg p.1 p.2) → (∀ b m, h.Ns b m → base.Ns b m) → FnOkG l.prog w K mg base k fa fd [x] sp) :
    PySem.W.WalkO q loose XP YP l.row.toRowW d [] (fun f vs => PySem.call f vs) :=
  Att.attach_call most plain fun w s₀ s₁ mg mb fa o pm cd doc a us ms G Y ho hd hcd named at_a are len gens => by
    have tabs : ∀ r ∈ recsOf q, TabAt s₁.heap mg r.name := fun r hr => by
      obtain ⟨b, u, fd, c, P, m, e1, e2, e3, e4, e5⟩ := G.T.tab r hr
      refine ⟨b, u, fd, c, P, m, e1, e2, e3, PySem.W.CodeHd.of e4 e5, ?_⟩
      exact e5.2
    obtain ⟨K, fd, sp, ts, inK, t1, t2, t3, bind, want, prom⟩ := F w mg fa _ Y G.T.g named tabs G.T.seer
    exact law_callGT inK G.T.g G.T.b G.T.builtins G.T.nolimit gens t1 t2 t3 G.T.bmain at_a are (Nat.le_trans len small) room prom bind fun H atT seq => want H a ms len atT seq
end CG

/-! ### lambdas that are kept, and called later in the same frame -/
-- lambdas
namespace CG
open PySem PySem.Spec PyProof.Rows L2
/-- what a lambda of this frame makes when it is called: tb -/
def LamOk (X : Cx) (k : Nat) (pa : Arguments) (bo : Expr) (sc : Scope) (tb : XK → TE) : Prop :=
  LamX.LamS X.env.scope sc ∧ (∀ (q : Str) (cl : List (Str × Addr)) (pm cv ctv : Value), bindArgs (PySem.W.kla_fn "<lambda>" q pa bo sc cl pm cv ctv) ⟨[], []⟩ = pure []) ∧
  ∀ (A : Around) (outer : List Env) (s : Shared) (H : Hp) (E : XK) (f c' : Addr), Room k (A.deeper (LamX.lamEnv X sc s.heap.objs.size f c')) → PE (LamX.lamCx X A outer s H E sc f c') bo (tb E)
/-- the lambda of X at f: its object, its code object, what it makes -/
def LamAt (X : Cx) (k : Nat) (H : Hp) (f : Addr) (tb : XK → TE) : Prop := ∃ (pa : Arguments) (bo : Expr) (sc : Scope) (c' : Addr), H f = some (LamO f (lfOf X pa bo sc c')) ∧ H c' = some (LamX.CodeO c' (lname X)) ∧ LamOk X k pa bo sc tb
def tLamK (X : Cx) (k : Nat) (P : Addr) (tb : XK → TE) : TE := fun _ H Q => LamX.Tabs [(P, lname X)] H ∧ ∀ (f : Addr) (G : Hp), LamX.ExtN H G → LamX.Tabs [(P, lname X)] G → H f = none → LamAt X k G f tb → Q (.ref f) G
theorem pe_lamK {X : Cx} {c P : Addr} {k : Nat} {tb : XK → TE} {params : Arguments} {body : Expr} {scope : Scope} {pos : Pos} (TB : LamX.TabB X.base X.mg c P) (hcode : X.env.code = .ref c)
    (hbody : ∀ (A : Around) (outer : List Env) (s : Shared) (H : Hp) (E : XK) (f c' : Addr), Room k (A.deeper (LamX.lamEnv X scope s.heap.objs.size f c')) → PE (LamX.lamCx X A outer s H E scope f c') body (tb E))
    (lam : LamX.LamS X.env.scope scope) (hdef : defaultsOf params X.env = ([], []) := by rfl) (bind : ∀ (q : Str) (cl : List (Str × Addr)) (pm cv ctv : Value), bindArgs (PySem.W.kla_fn "<lambda>" q params body scope cl pm cv ctv) ⟨[], []⟩ = pure [] := by intros; rfl) :
    PE X (.Lambda params body scope pos) (tLamK X k P tb) := by
  refine ⟨fun pins s σ H Q I h => ?_⟩
  refine (pe_lam (T := [(P, lname X)]) TB hcode (List.mem_singleton.mpr rfl) (fun p hp _ => by rw [List.mem_singleton.mp hp]) lam hdef).run pins s σ H Q I ?_
  exact ⟨h.1, fun f c' G eN tG n a1 a2 => h.2 f G eN tG n ⟨params, body, scope, c', a1, a2, lam, bind, hbody⟩⟩
/-- X is Y in another place of the same frame -/
def SameX (X Y : Cx) : Prop := X.prog = Y.prog ∧ X.w = Y.w ∧ X.K = Y.K ∧ X.mg = Y.mg ∧ X.base = Y.base ∧ X.N = Y.N ∧ X.env = Y.env
theorem LamAt.same {X Y : Cx} {k : Nat} {H : Hp} {f : Addr} {tb : XK → TE} (e : SameX X Y) (h : LamAt Y k H f tb) : LamAt X k H f tb := by
  obtain ⟨e1, e2, e3, e4, e5, e6, e7⟩ := e
  have hl : lname X = lname Y := by unfold lname; rw [e7]
  have hf : ∀ pa bo sc c', lfOf X pa bo sc c' = lfOf Y pa bo sc c' := fun pa bo sc c' => by unfold lfOf lname; rw [e7]
  have he : ∀ sc L f c', LamX.lamEnv X sc L f c' = LamX.lamEnv Y sc L f c' := fun sc L f c' => by unfold LamX.lamEnv; rw [e7]
  have hx : ∀ A outer s H E sc f c', LamX.lamCx X A outer s H E sc f c' = LamX.lamCx Y A outer s H E sc f c' := fun A outer s H E sc f c' => by
    unfold LamX.lamCx LamX.lamEnv
    rw [e1, e2, e3, e4, e5, e6, e7]
  obtain ⟨pa, bo, sc, c', a1, a2, a3, a4, a5⟩ := h
  refine ⟨pa, bo, sc, c', by rw [hf]; exact a1, by rw [hl]; exact a2, by rw [e7]; exact a3, a4, fun A outer s H E f c' r => ?_⟩
  rw [hx]
  exact a5 A outer s H E f c' (by rw [← he]; exact r)
/-- the reading of x(e), e a lambda of this frame -/
def tSaidK (Y : Cx) (k : Nat) (TT : (XK → Hp → VK → Prop) → Hp → VK → Prop) (te : TE) : TE := fun σ H Q => te σ H fun v H1 =>
  ∃ (f : Addr) (tb : XK → TE), [v] = [V.ref f] ∧ LamAt Y k H1 f tb ∧ TT (fun E G R => tb E σ G R) H1 Q
theorem pe_saidK {X : Cx} (Y : Cx) (same : SameX X Y) {x a : Str} {st : Stmt} {g : Addr} {fd : FuncData} {Ng : List Str} {k : Nat} {TT : (XK → Hp → VK → Prop) → Hp → VK → Prop} {e : Expr} {te : TE} {p pos : Pos}
    (F : Fun X.K x x st g fd) (b : Binds X.K fd [a] []) (S : FnScope Ng [a] (defScope st)) (hg : Gl X x) (hm : X.mg x = some (.ref g)) (n0 : Ng[0]? = some a) (va : Vis (defScope st) a) (gives : Gives X.prog X.w X.K X.mg X.base k Ng x a st g TT) (gd : X.A.guards = some []) (room : Room (k + 2) X.A)
    (he : PE X e te) (hdb : (x == ("__debug__" : Str)) = false := by decide) (hd : (a == ("__debug__" : Str)) = false := by decide) (hcd : (a == ("__classdict__" : Str)) = false := by decide)
    (hst : starEach [e] X.env = (false, eval e X.env) :: starEach [] X.env := by rfl) (hpl : (backTo pos (starEach [] X.env)).any (·.1) = false := by rfl) :
    PE X (.Call (.Name x p) [e] [] pos) (tSaidK Y k TT te) := by
  refine ⟨fun pins s σ H Q I h => ?_⟩
  obtain ⟨oc, od, kV, doc, pm, an, cdv, ct, osl, rfl, lk, hcd0⟩ := F.ex
  have arg : PA X [e] (tCons te tNil) := pa_cons (hs := hst) he pa_nil
  have h2 : tCons te tNil σ H (fun vs H1 => ∃ (f : Addr) (tb : XK → TE), vs = [.ref f] ∧ LamAt Y k H1 f tb ∧ TT (fun E G R => tb E σ G R) H1 Q) := h
  refine wpAny_Call_Name_kw (ld_glob I hg hm (PySem.W.callWith_K (h₀ := X.base) I.ok.mod.kin F.kp (thn (arg.run pos pins s σ H _ I h2) fun us s1 hh => ?_) hst hpl) hdb)
  obtain ⟨vs, H1, I1, r, f, tb, rfl, la, tt⟩ := hh
  obtain ⟨pa, bo, sc, c', isL, isC, lam, bind, hbody⟩ := la.same same
  rw [Vals.ref1 r]
  refine ⟨I1.kIn, ?_⟩
  have rc : codeAny (model X.prog X.w) X.A (.call (.ref g) ⟨[.ref f], []⟩) (CR CX0 X.stack X.prog X.w H1 s1 Q fun _ _ _ => False) s1 := by
    refine LamX.run_ofS (k := k + 1) (N := Ng) (ps := [a]) (us := [.ref f]) (vs := [.ref f]) lk hcd0 S room I1.env0 (b s1 [.ref f] I1.kIn rfl) (.cons rfl .nil) rfl fun inner => ?_
    obtain ⟨t, ht, q⟩ := gives X.A X.stack cdv f s1 H1 Q (fun G => G f = some (LamO f (lfOf X pa bo sc c')) ∧ G c' = some (LamX.CodeO c' (lname X))) (fun E G R => tb E σ G R) gd (inner.mono (Nat.le_succ k))
      (fun W pn xe p1 p2 tk => ⟨fun pins s τ G R J z => (pe_act (CXg := CX0) (Eg := fun _ _ _ => False) (i := 0) I1 lam (fun pm ctv => bind _ _ _ _ _) tk inner (fun A outer s H E => hbody A outer s H E f c') n0 va hd hcd).run pins s τ G R J ⟨z.1, z.2.1.1, z.2.1.2, z.2.2⟩⟩) ⟨isL, isC⟩ tt
    exact ⟨t, ht.nox, q⟩
  refine wpAny_call (codeAny_mono rc fun out s2 q => ?_)
  match out, q with
  | .error err, q => exact (show False from q).elim
  | .ok (.ret u), q => exact I1.after q
theorem LamAt.ext {X : Cx} {k : Nat} {H G : Hp} {f : Addr} {tb : XK → TE} (h : LamAt X k H f tb) (e : LamX.ExtN H G) : LamAt X k G f tb := by
  obtain ⟨pa, bo, sc, c', a1, a2, a3⟩ := h
  exact ⟨pa, bo, sc, c', e _ _ a1 lamO_tbl, e _ _ a2 LamX.codeO_ne, a3⟩
end CG

/-! ### comprehensions whose element calls a lambda of the frame -/
-- lambdas
namespace CG
open PySem PySem.Spec PyProof.Rows L2
/-- the element's run in the block, the maker's own state at the block's start being known -/
def PEm (X : Cx) (scope : Scope) (elt : Expr) (te : TE) (vs : List Nat) : Prop :=
  ∀ (pm : List (Addr × Obj)) (τ : L2.St) (t : Shared) (G : Hp) (cl : List (Str × Addr)) (ws : List Addr), Inv X pm τ G t → (∀ b ∈ ws, FpOk X pm G b ∧ b < t.heap.objs.size) →
  ∀ (pq : List (Addr × Obj)) (u : Shared) (ρ : L2.St) (G2 : Hp) (Q : VK), Inv (X.blk t G scope (compEnvC scope cl t.heap.objs.size X.env) ws) pq ρ G2 u → wipe ρ vs = wipe τ vs → te ρ G2 Q →
    wpAny (model X.prog X.w) X.A (eval elt (compEnvC scope cl t.heap.objs.size X.env)) (EP (X.blk t G scope (compEnvC scope cl t.heap.objs.size X.env) ws) pq ρ Q) (fun _ _ => False) u
theorem pe_lcM {X : Cx} {elt tg iter : Expr} {scope : Scope} {own : List (Str × Nat)} {pos : Pos} {wi : TI} {g : TG} {te : TE} (calm : X.calm = true) (nd : X.N.Nodup) (hi : PI X tg iter wi) (ok : BlkOk X.N X.env.scope scope own)
    (hg : ∀ (s : Shared) (H : Hp) (C : Addr) (cl : List (Str × Addr)) (fp : List Addr), PG (X.blk s H scope (compEnvC scope cl C X.env) fp) tg g) (he : PEm X scope elt te (own.map (·.2))) (plain : ∀ x, foldedSetIterable iter X.env x = pure x := by intro _; rfl) :
    PE X (.ListComp elt [⟨tg, iter, [], 0⟩] scope pos) (tLc wi g tYes te (own.map (·.2))) := by
  refine ⟨fun pins s σ H Q I want => ?_⟩
  rw [eval_ListComp]
  have caps : ∀ y ∈ scope.names, y.2 = .free → ∃ c, X.env.cells.lookup y.1 = some c := fun y m e => (ok.free y m e).elim (fun q => I.ok.has _ (.inl q)) fun q => I.ok.has _ (.inr q)
  refine wpAny_comprehension_free (use := none) rfl plain (closure_ok caps) ok.kind (fun y m e => by rw [ok.uniq y m, e]) (thn (hi.run pins s σ H _ I want) fun _ _ came => thn came fun _ t2 got => ?_)
  obtain ⟨itr, ws, tn, J, G0, rfl, K0, T, on0, foot, rest⟩ := got
  refine wpAny_newObj_type (newEnv_comp ?_) (by show 0 ≤ sizeLine; decide)
  obtain ⟨D, eD⟩ : ∃ D, t2.heap.objs.size = D := ⟨_, rfl⟩
  rw [eD]
  obtain ⟨W, ⟨m0, w0⟩, each⟩ := rest D (K0.hok.fresh (Nat.le_of_eq eD))
  obtain ⟨t3, e3⟩ : ∃ t3 : Shared, { t2 with heap := t2.heap.push { cls := .type "list", data := .seq ([] : List Value).toArray } } = t3 := ⟨_, rfl⟩
  have up : t3.heap = t2.heap.push { cls := .type "list", data := .seq ([] : List Value).toArray } := by rw [← e3]
  have K3 : Inv X pins σ (upd G0 D (.lst [])) t3 := by
    rw [← e3]
    refine K0.laid (t' := t2.toks) (fun b o q => Heap.get?_push_of_some _ q) (Nat.le_of_eq eD) ⟨Nat.zero_le _, [], 0, .nil, ?_⟩
    rw [← eD]
    exact Heap.get?_push_size _ rfl
  have feet : ∀ b ∈ ws, FpOk X pins (upd G0 D (.lst [])) b ∧ b < t3.heap.objs.size := fun b hb => by
    obtain ⟨o, q, _⟩ := T.obj _ _ on0 b hb
    have lt := Heap.lt_size q
    have ne : b ≠ D := by rw [← eD]; exact Nat.ne_of_lt lt
    exact ⟨⟨by rw [upd_ne ne]; exact (foot b hb).1, (foot b hb).2⟩, by rw [up, Heap.size_push]; exact Nat.lt_succ_of_lt lt⟩
  have on3 : tn 0 t3.heap := T.keep _ _ _ on0 fun b _ o q => by rw [up]; exact Heap.get?_push_of_some _ q
  have K4 := block_start K3 ok nd feet
  obtain ⟨G3, eG⟩ : ∃ G3, upd G0 D (.lst []) = G3 := ⟨_, rfl⟩
  rw [eG] at K3 K4 feet w0
  obtain ⟨cl, ec⟩ : ∃ cl, cellsFrom (t3.heap.objs.size + 1) scope.names (cloFrom X.env.cells scope.names []) = cl := ⟨_, rfl⟩
  rw [ec] at K4
  have elts := he pins σ t3 G3 cl ws K3 feet
  have tgts := hg t3 G3 t3.heap.objs.size cl ws
  rw [e3]
  show codeAny _ _ (.compStart (.ListComp elt [⟨tg, iter, [], 0⟩] scope pos) 0 (.ref itr) (.ref D) (compEnvC scope (cellsFrom (t3.heap.objs.size + 1) scope.names (cloFrom X.env.cells scope.names [])) t3.heap.objs.size X.env)) (compPost (model X.prog X.w) X.A X.xe none (EP X pins σ Q) (.ref D) t3.heap.objs.size) { t3 with heap := pushCells (t3.heap.push { cls := .type "dict", data := .dict #[] }) scope.names }
  rw [ec]
  obtain ⟨env, ee⟩ : ∃ env, compEnvC scope cl t3.heap.objs.size X.env = env := ⟨_, rfl⟩
  have locs : env.locals = t3.heap.objs.size := by rw [← ee]; rfl
  rw [ee] at K4 elts tgts ⊢
  obtain ⟨t4, e4⟩ : ∃ t4 : Shared, { t3 with heap := pushCells (t3.heap.push { cls := .type "dict", data := .dict #[] }) scope.names } = t4 := ⟨_, rfl⟩
  have on4 : tn 0 t4.heap := T.keep _ _ _ on3 fun b _ o q => by rw [← e4]; exact pushCells_keeps _ _ _ _ (Heap.get?_push_of_some _ q)
  rw [e4] at K4 ⊢
  have stays : ∀ {ρ : L2.St} {G : Hp} {u : Shared}, Inv (X.blk t3 G3 scope env ws) [] ρ G u → (∀ b ∈ ws, G b = none) → ∀ b ∈ ws, FpOk (X.blk t3 G3 scope env ws) [] G b := fun {ρ G u} M off b hb =>
    ⟨off b hb, (M.ok.exf b hb).1, M.ok.exfs b hb, .inl hb, fun x c q => (M.ok.exf b hb).2 x c q, fun p hp => nomatch (show p ∈ ([] : List (Addr × Obj)) ++ [] from hp)⟩
  have round : codeAny (model X.prog X.w) X.A (.compLoop (.ListComp elt [⟨tg, iter, [], 0⟩] scope pos) 0 (.ref itr) (.ref D) env) (compPost (model X.prog X.w) X.A X.xe none (EP X pins σ Q) (.ref D) t3.heap.objs.size) t4 := by
    refine compLoop_any (fun n u => ∃ j G, Inv (X.blk t3 G3 scope env ws) [] (wipe σ (own.map (·.2))) G u ∧ tn j u.heap ∧ (∀ b ∈ ws, G b = none) ∧ W j n G) ?_ m0 ⟨0, G3, K4, on4, fun b hb => (feet b hb).1.1, w0⟩
    rintro n u5 ⟨j, G5, M5, on5, off5, w5⟩
    rcases each j n G5 w5 with ⟨halt, fine⟩ | ⟨goes, Nx, next, turn⟩
    · refine thnF (T.done (X.blk t3 G3 scope env ws) rfl rfl rfl calm j [] u5 _ G5 (fun _ _ => False) M5 (stays M5 off5) on5 halt) fun r u6 ⟨er, M6⟩ => ?_
      subst er
      have back : Inv X pins σ G5 u6 := K3.call' (ch := ws) M6.os M6.base M6.hok M6.bare fun b hb => ⟨(feet b hb).1.2.2.2.1, (feet b hb).1.2.1, (feet b hb).1.2.2.2.2.1, (feet b hb).1.2.2.2.2.2⟩
      have offL : G5 t3.heap.objs.size = none := by
        rw [← locs]
        exact M6.free
      obtain ⟨mm, names, _⟩ := M6.loc
      have names : u6.heap.Ns t3.heap.objs.size mm := by
        rw [← locs]
        exact names
      obtain ⟨f0, f1, _, f3, f4, f5⟩ := K3.fpOk (Nat.le_refl _) offL
      exact ⟨mm, names, fun h'' sb => ⟨.ref D, G5, back.turned (t' := u6.toks) (fun b o hb q => (sb.2 b hb).trans q) f0 f1 f3 f4 f5, rfl, fine⟩⟩
    · refine thnF (T.item (X.blk t3 G3 scope env ws) rfl rfl rfl calm j [] u5 _ G5 (fun _ _ => False) M5 (stays M5 off5) on5 goes) fun r u6 ⟨v, er, more⟩ => ?_
      subst er
      refine thnF more fun _ u7 ⟨x, G7, M7, rx, yx, on7, off7⟩ => ?_
      refine thnF (tgts.run _ u7 _ G7 x v _ (M7.pinned (stays M7 off7) (T.obj _ _ on7)) rx (turn x G7 yx)) fun _ u8 ⟨ρ, G8, M8, wq, q8⟩ => ?_
      have again : ∀ {u : Shared} {G : Hp}, Inv (X.blk t3 G3 scope env ws) ([] ++ pinsAt ws u7.heap) ρ G u → Nx G → ∃ m, m < n ∧ ∃ j G, Inv (X.blk t3 G3 scope env ws) [] (wipe σ (own.map (·.2))) G u ∧ tn j u.heap ∧ (∀ b ∈ ws, G b = none) ∧ W j m G := fun {u G} M nx => by
        obtain ⟨m2, lt, w2⟩ := next G nx
        have same : ∀ b ∈ ws, ∀ o, u7.heap.get? b = some o → u.heap.get? b = some o ∧ G b = none := fun b hb o q =>
          have z := M.pin (b, o) (List.mem_append_right _ (List.mem_append_right _ (mem_pinsAt hb q)))
          ⟨z.1, z.2.1⟩
        refine ⟨m2, lt, j + 1, G, (M.unpinned (pins := [])).weak (by rw [← wq, wipe_length]) (fun i z q => ?_), T.keep _ _ _ on7 fun b hb o q => (same b hb o q).1, fun b hb => ?_, w2⟩
        · rw [← wq] at q
          exact (wipe_some q).1
        · obtain ⟨o, q, _⟩ := T.obj _ _ on7 b hb
          exact (same b hb o q).2
      refine wpAny_tests_nil ?_
      have q9 : te ρ G8 fun y G9 => ∃ acc, G9 D = some (.lst acc) ∧ acc.length < sizeLine ∧ Nx (upd G9 D (.lst (acc ++ [y]))) := q8
      rw [if_pos rfl]
      refine thnF (elts _ u8 ρ G8 _ M8 wq q9) fun z u9 ⟨y, GA, MA, ry, acc, hDA, lz, nx⟩ => ?_
      exact app_ok (X := X.blk t3 G3 scope env ws) MA hDA lz ry fun uB MB => again MB nx
  exact codeAny_compStart_list round (T.self X.A 0 _ _ _ on4 round)
/-- the reading of x(e) in such a block, e a lambda of the frame; the block's own names are no names of the lambda -/
def tSaidC (X : Cx) (k : Nat) (vs : List Nat) (TT : (XK → Hp → VK → Prop) → Hp → VK → Prop) (te : TE) : TE := fun ρ H Q => te ρ H fun v H1 =>
  ∃ (f : Addr) (tb : XK → TE), [v] = [V.ref f] ∧ LamAt X k H1 f tb ∧ TT (fun E G R => tb E (wipe ρ vs) G R) H1 Q
theorem said_elt {X : Cx} {scope : Scope} {x a : Str} {st : Stmt} {g : Addr} {fd : FuncData} {Ng : List Str} {k : Nat} {vs : List Nat} {TT : (XK → Hp → VK → Prop) → Hp → VK → Prop} {e : Expr} {te : TE} {p pos : Pos}
    (F : Fun X.K x x st g fd) (b : Binds X.K fd [a] []) (S : FnScope Ng [a] (defScope st)) (hg : ∀ (s : Shared) (H : Hp) (C : Addr) (cl : List (Str × Addr)) (fp : List Addr), Gl (X.blk s H scope (compEnvC scope cl C X.env) fp) x) (hm : X.mg x = some (.ref g)) (n0 : Ng[0]? = some a) (va : Vis (defScope st) a)
    (gives : Gives X.prog X.w X.K X.mg X.base k Ng x a st g TT) (gd : X.A.guards = some []) (room : Room (k + 2) X.A)
    (he : ∀ (s : Shared) (H : Hp) (C : Addr) (cl : List (Str × Addr)) (fp : List Addr), PE (X.blk s H scope (compEnvC scope cl C X.env) fp) e te) (hdb : (x == ("__debug__" : Str)) = false := by decide) (hd : (a == ("__debug__" : Str)) = false := by decide) (hcd : (a == ("__classdict__" : Str)) = false := by decide)
    (hst : ∀ env : Env, starEach [e] env = (false, eval e env) :: starEach [] env := by intro _; rfl) (hpl : ∀ env : Env, (backTo pos (starEach [] env)).any (·.1) = false := by intro _; rfl) :
    PEm X scope (.Call (.Name x p) [e] [] pos) (tSaidC X k vs TT te) vs := by
  intro pm τ t G cl ws K feet pq u ρ G2 Q M wq want
  obtain ⟨oc, od, kV, doc, pms, an, cdv, ct, osl, rfl, lk, hcd0⟩ := F.ex
  have arg : PA (X.blk t G scope (compEnvC scope cl t.heap.objs.size X.env) ws) [e] (tCons te tNil) := pa_cons (hs := hst _) (he t G _ cl ws) pa_nil
  have want2 : tCons te tNil ρ G2 (fun vals H1 => ∃ (f : Addr) (tb : XK → TE), vals = [.ref f] ∧ LamAt X k H1 f tb ∧ TT (fun E G R => tb E (wipe ρ vs) G R) H1 Q) := want
  refine wpAny_Call_Name_kw (ld_glob M (hg t G _ cl ws) hm (PySem.W.callWith_K (h₀ := X.base) M.ok.mod.kin F.kp (thn (arg.run pos pq u ρ G2 _ M want2) fun us u1 got => ?_) (hst _) (hpl _)) hdb)
  obtain ⟨vals, H1, M1, r, f, tb, rfl, ⟨pa, bo, sc, c', isL, isC, lam, bind, hbody⟩, tt⟩ := got
  rw [Vals.ref1 r]
  refine ⟨M1.kIn, ?_⟩
  have outer : Inv X pm (wipe ρ vs) H1 u1 := by
    rw [wq]
    exact (K.call' (ch := ws) M1.os M1.base M1.hok M1.bare fun b hb => ⟨(feet b hb).1.2.2.2.1, (feet b hb).1.2.1, (feet b hb).1.2.2.2.2.1, (feet b hb).1.2.2.2.2.2⟩).weak (wipe_length _ _) fun i v q => (wipe_some q).1
  have rc : codeAny (model X.prog X.w) X.A (.call (.ref g) ⟨[.ref f], []⟩) (CR CX0 X.stack X.prog X.w H1 u1 Q fun _ _ _ => False) u1 := by
    refine LamX.run_ofS (k := k + 1) (N := Ng) (ps := [a]) (us := [.ref f]) (vs := [.ref f]) lk hcd0 S room outer.env0 (b u1 [.ref f] M1.kIn rfl) (.cons rfl .nil) rfl fun inner => ?_
    obtain ⟨tr, ht, q⟩ := gives X.A X.stack cdv f u1 H1 Q (fun G => G f = some (LamO f (lfOf X pa bo sc c')) ∧ G c' = some (LamX.CodeO c' (lname X))) (fun E G R => tb E (wipe ρ vs) G R) gd (inner.mono (Nat.le_succ k))
      (fun W pn xe p1 p2 tk => ⟨fun pins s τ G R J z => (pe_act (CXg := CX0) (Eg := fun _ _ _ => False) (i := 0) outer lam (fun pm ctv => bind _ _ _ _ _) tk inner (fun A outer s H E => hbody A outer s H E f c') n0 va hd hcd).run pins s τ G R J ⟨z.1, z.2.1.1, z.2.1.2, z.2.2⟩⟩) ⟨isL, isC⟩ tt
    exact ⟨tr, ht.nox, q⟩
  refine wpAny_call (codeAny_mono rc fun out u2 q => ?_)
  match out, q with
  | .error err, q => exact (show False from q).elim
  | .ok (.ret v), q => exact M1.after q
end CG

/-! ### list.count(True) of bools -/
namespace CG
open PySem PySem.Spec PyProof.Rows L2
def eqbT (v : Value) : Bool := match v with
  | .bool b => b == true
  | _ => false
theorem eqb_count : ∀ {xs : List Value} {bs : List Bool}, Vals (bs.map V.bl) xs → xs.countP eqbT = bs.count true ∧ ∀ y ∈ xs, ∃ b, y = .bool b
  | [], [], _ => ⟨rfl, fun y hy => nomatch hy⟩
  | x :: xs, b :: bs, .cons rx r => by
    obtain ⟨h1, h2⟩ := eqb_count (xs := xs) (bs := bs) r
    obtain rfl : x = Value.bool b := rx
    refine ⟨?_, fun y hy => ?_⟩
    · rw [List.countP_cons, List.count_cons, h1]
      rfl
    · rcases List.mem_cons.mp hy with rfl | hy
      · exact ⟨b, rfl⟩
      · exact h2 y hy
section
variable {X : Cx}
def rCntB (K : PySem.W.Frag) : V → List V → Hp → VK → Prop := fun x xs H Q => ∃ (p : Addr) (bs : List Bool), x = .ref p ∧ xs = [.bl true] ∧ SqL K H p (bs.map V.bl) ∧ Q (.int (bs.count true : Nat)) H
theorem mt_lcountB : MtR X "list.count" (rCntB X.K) := by
  intro pins s σ H x xs v us Q I rx rxs h
  obtain ⟨p, bs, rfl, rfl, hs, q⟩ := h
  cases rx
  obtain ⟨u, rfl, ru⟩ := rxs.one
  obtain rfl : u = Value.bool true := ru
  obtain ⟨its, rv, ⟨⟨cls, dd, data, sl⟩, n, ho, hc, hdn, hd⟩, hlen⟩ := I.list hs
  simp only at hc hd
  subst hc hd
  obtain ⟨ec, ey⟩ := eqb_count rv
  refine call_meets PySem.F.slot_list_count ⟨_, ho, rfl⟩ PySem.F.entry_list_count (PySem.F.args_list_count_2 _ _)
    (SeqAt.list_countAt p its.toArray n dd sl (.bool true) eqbT) ⟨ho, fun y hy => ?_, ?_⟩
  · obtain ⟨b, rfl⟩ := ey y (by simpa using hy)
    exact PySem.SeqAt.EqAt.bool_bool b true
  refine ⟨.int (bs.count true : Nat), H, I.tok _, ⟨s.toks, ?_⟩, q⟩
  show Value.int ((its.toArray.toList.countP eqbT : Nat) : Int) s.toks = Value.int ((bs.count true : Nat) : Int) s.toks
  rw [← ec]
end
end CG

-- dictdisp
/-! ### {t: v}, t a tuple -/
namespace CG
open PySem PySem.Spec PyProof.Rows L2
def tDispT1 (tk tv : TE) : TE := fun σ H Q => ∀ p, H p = none → tk σ (upd H p (.dT [])) fun x H1 => tv σ H1 fun y H2 => H2 p = some (.dT []) ∧ ∃ (ks : List Key) (b : Addr), x = .ref b ∧ H2 b = some (.tup (ks.map kV)) ∧ Q (.ref p) (upd H2 p (.dT [(ks, y)]))
theorem pe_dispT1 {X : Cx} {pos : Pos} {k v : Expr} {tk tv : TE} (hu : X.A.units + 65 < cLine) (hk : PE X k tk) (hv : PE X v tv) : PE X (.Dict [some k] [v] pos) (tDispT1 tk tv) := by
  refine ⟨fun pins s σ H Q I q => ?_⟩
  have hn := I.hok.fresh (Nat.le_refl s.heap.objs.size)
  have I1 := I.laid (a := s.heap.objs.size) (o := .dT []) (h' := s.heap.push { cls := .type "dict", data := .dict #[] }) (t' := s.toks) (fun _ _ q => Heap.get?_push_of_some _ q) (Nat.le_refl _) (dt_empty s.heap I.big)
  have run : tPairs [(tk, tv)] σ (upd H s.heap.objs.size (.dT [])) (fun ps H2 => ∃ x y, ps = [(x, y)] ∧ H2 s.heap.objs.size = some (.dT []) ∧ ∃ (ks : List Key) (b : Addr), x = .ref b ∧ H2 b = some (.tup (ks.map kV)) ∧ Q (.ref s.heap.objs.size) (upd H2 s.heap.objs.size (.dT [(ks, y)]))) := by
    have : (fun (x : V) (H1 : Hp) => tv σ H1 fun y H2 => H2 s.heap.objs.size = some (.dT []) ∧ ∃ (ks : List Key) (b : Addr), x = .ref b ∧ H2 b = some (.tup (ks.map kV)) ∧ Q (.ref s.heap.objs.size) (upd H2 s.heap.objs.size (.dT [(ks, y)]))) = (fun (x : V) (H1 : Hp) => tv σ H1 fun y H2 => ∃ x2 y2, [(x, y)] = [(x2, y2)] ∧ H2 s.heap.objs.size = some (.dT []) ∧ ∃ (ks : List Key) (b : Addr), x2 = .ref b ∧ H2 b = some (.tup (ks.map kV)) ∧ Q (.ref s.heap.objs.size) (upd H2 s.heap.objs.size (.dT [(ks, y2)]))) := by
      funext x H1
      refine congrArg (tv σ H1) ?_
      funext y H2
      refine propext ⟨fun h => ⟨x, y, rfl, h⟩, fun ⟨x2, y2, e, h⟩ => ?_⟩
      obtain ⟨rfl, rfl⟩ := Prod.mk.inj (List.head_eq_of_cons_eq e)
      exact h
    have z := q _ hn
    rw [this] at z
    exact z
  have prs : PPs X pos [some k] [v] [(tk, tv)] := pps_cons hk hv pps_nil
  rw [arm_eval_Dict, zip_pairTrees [some k] [v] X.env pos rfl rfl, dictDisplay_pairs (pairTrees [some k] [v] X.env pos) (by intro z; have := congrArg List.length z; rw [pairTrees_length [some k] [v] X.env pos rfl rfl] at this; cases this) (by rw [pairTrees_length [some k] [v] X.env pos rfl rfl]; show 1 < 17; decide)]
  refine wpAny_bind (wpAny_standAt (wpAny_bind (wpAny_subDictH (knd := tupleKind (mixKind X.prog X.w)) (show X.A.units < cLine by omega) (by rw [pairTrees_length [some k] [v] X.env pos rfl rfl]; show 1 ≤ 15; decide) ?_)))
  refine thn (prs.run pins _ σ _ _ I1 run) fun ws s2 ⟨ps, H2, I2, rel, x, y, eps, e, ks, b, ex, hb, q2⟩ => ?_
  subst eps ex
  cases rel with
  | @cons a w0 as bs r t =>
    cases t
    obtain ⟨r1, r2⟩ := r
    obtain ⟨u1, u2⟩ := w0
    dsimp only at r1 r2
    obtain rfl : u1 = Value.ref b := r1
    obtain ⟨z, hd, xs, rl, dd⟩ := dt_of I2.hok e
    cases rl
    refine ⟨[(ks, b, u2)], ⟨rfl, rfl, key_of I2.hok hb, trivial⟩, dd, fun h' tk' dd' hs => ?_⟩
    obtain ⟨o, es, ep, ho, h2, h3, h4, _, h5⟩ := dd'
    refine wpAny_pure ⟨.ref s.heap.objs.size, _, ?_, rfl, q2⟩
    refine d_write I2 (by rw [e]; exact True.intro) hs ⟨o, ho⟩ ⟨by show 1 ≤ sizeLine; decide, hd, [(ks, b, u2)], ?_, o, es, ep, ho, h2, h3, h4, h5⟩
    refine .cons ⟨rfl, ?_, r2⟩ .nil
    rw [upd_ne (ne_of hb e (fun z => nomatch z))]
    exact hb
end CG

namespace CS
open PySem PySem.Spec PyProof.Rows L2
def top (i : Nat) : Stmt := PySem.Challenge.pw_calledseats_k12_invalid_arguments.main.body.getD i (.Pass ⟨0, 0, 0, 0⟩)
abbrev s_wall : Stmt := top 0
abbrev N_wall : List Str := ["k"]
theorem sc_wall : FnScope N_wall ["k"] (defScope s_wall) := ⟨rfl, rfl, rfl, by decide +kernel, rfl, by decide +kernel, by decide +kernel⟩
abbrev s_InvalidTable_init : Stmt := inClass (top 3) 0
abbrev N_InvalidTable_init : List Str := ["self", "rings"]
theorem sc_InvalidTable_init : FnScope N_InvalidTable_init ["self", "rings"] (defScope s_InvalidTable_init) := ⟨rfl, rfl, rfl, by decide +kernel, rfl, by decide +kernel, by decide +kernel⟩
abbrev s_InvalidTargets_init : Stmt := inClass (top 4) 0
abbrev N_InvalidTargets_init : List Str := ["self", "index"]
theorem sc_InvalidTargets_init : FnScope N_InvalidTargets_init ["self", "index"] (defScope s_InvalidTargets_init) := ⟨rfl, rfl, rfl, by decide +kernel, rfl, by decide +kernel, by decide +kernel⟩
abbrev s_InvalidSeat_init : Stmt := inClass (top 5) 0
abbrev N_InvalidSeat_init : List Str := ["self", "seat"]
theorem sc_InvalidSeat_init : FnScope N_InvalidSeat_init ["self", "seat"] (defScope s_InvalidSeat_init) := ⟨rfl, rfl, rfl, by decide +kernel, rfl, by decide +kernel, by decide +kernel⟩
abbrev s_InvalidWitness_init : Stmt := inClass (top 7) 0
abbrev N_InvalidWitness_init : List Str := ["self", "index"]
theorem sc_InvalidWitness_init : FnScope N_InvalidWitness_init ["self", "index"] (defScope s_InvalidWitness_init) := ⟨rfl, rfl, rfl, by decide +kernel, rfl, by decide +kernel, by decide +kernel⟩
abbrev s_is_integer : Stmt := top 9
abbrev N_is_integer : List Str := ["value"]
theorem sc_is_integer : FnScope N_is_integer ["value"] (defScope s_is_integer) := ⟨rfl, rfl, rfl, by decide +kernel, rfl, by decide +kernel, by decide +kernel⟩
abbrev s_is_at_least : Stmt := top 10
abbrev N_is_at_least : List Str := ["value", "low"]
theorem sc_is_at_least : FnScope N_is_at_least ["value", "low"] (defScope s_is_at_least) := ⟨rfl, rfl, rfl, by decide +kernel, rfl, by decide +kernel, by decide +kernel⟩
abbrev s_is_between : Stmt := top 11
abbrev N_is_between : List Str := ["value", "low", "high"]
theorem sc_is_between : FnScope N_is_between ["value", "low", "high"] (defScope s_is_between) := ⟨rfl, rfl, rfl, by decide +kernel, rfl, by decide +kernel, by decide +kernel⟩
abbrev s_greatest_common_divisor : Stmt := top 12
abbrev N_greatest_common_divisor : List Str := ["first", "second"]
theorem sc_greatest_common_divisor : FnScope N_greatest_common_divisor ["first", "second"] (defScope s_greatest_common_divisor) := ⟨rfl, rfl, rfl, by decide +kernel, rfl, by decide +kernel, by decide +kernel⟩
abbrev s_odd_part : Stmt := top 13
abbrev N_odd_part : List Str := ["number"]
theorem sc_odd_part : FnScope N_odd_part ["number"] (defScope s_odd_part) := ⟨rfl, rfl, rfl, by decide +kernel, rfl, by decide +kernel, by decide +kernel⟩
abbrev s_Table_init : Stmt := inClass (top 16) 0
abbrev N_Table_init : List Str := ["self", "rings", "size"]
theorem sc_Table_init : FnScope N_Table_init ["self", "rings"] (defScope s_Table_init) := ⟨rfl, rfl, rfl, by decide +kernel, rfl, by decide +kernel, by decide +kernel⟩
abbrev s_Table_sizes : Stmt := inClass (top 16) 1
abbrev N_Table_sizes : List Str := ["self"]
theorem sc_Table_sizes : FnScope N_Table_sizes ["self"] (defScope s_Table_sizes) := ⟨rfl, rfl, rfl, by decide +kernel, rfl, by decide +kernel, by decide +kernel⟩
abbrev s_Table_count : Stmt := inClass (top 16) 2
abbrev N_Table_count : List Str := ["self", "product", "size"]
theorem sc_Table_count : FnScope N_Table_count ["self"] (defScope s_Table_count) := ⟨rfl, rfl, rfl, by decide +kernel, rfl, by decide +kernel, by decide +kernel⟩
abbrev s_Table_is_seat : Stmt := inClass (top 16) 3
abbrev N_Table_is_seat : List Str := ["self", "value", "place", "size"]
theorem sc_Table_is_seat : FnScope N_Table_is_seat ["self", "value"] (defScope s_Table_is_seat) := ⟨rfl, rfl, rfl, by decide +kernel, rfl, by decide +kernel, by decide +kernel⟩
abbrev s_Table_is_call : Stmt := inClass (top 16) 4
abbrev N_Table_is_call : List Str := ["self", "value"]
theorem sc_Table_is_call : FnScope N_Table_is_call ["self", "value"] (defScope s_Table_is_call) := ⟨rfl, rfl, rfl, by decide +kernel, rfl, by decide +kernel, by decide +kernel⟩
abbrev s_Table_shifted : Stmt := inClass (top 16) 5
abbrev N_Table_shifted : List Str := ["self", "seat", "call", "factor"]
theorem sc_Table_shifted : FnScope N_Table_shifted ["self", "seat", "call", "factor"] (defScope s_Table_shifted) := ⟨rfl, rfl, rfl, by decide +kernel, rfl, by decide +kernel, by decide +kernel⟩
abbrev s_Table_moves : Stmt := inClass (top 16) 6
abbrev N_Table_moves : List Str := ["self", "seat", "call"]
theorem sc_Table_moves : FnScope N_Table_moves ["self", "seat", "call"] (defScope s_Table_moves) := ⟨rfl, rfl, rfl, by decide +kernel, rfl, by decide +kernel, by decide +kernel⟩
abbrev s_Table_step : Stmt := inClass (top 16) 7
abbrev N_Table_step : List Str := ["self", "seat", "call", "direction"]
theorem sc_Table_step : FnScope N_Table_step ["self", "seat", "call", "direction"] (defScope s_Table_step) := ⟨rfl, rfl, rfl, by decide +kernel, rfl, by decide +kernel, by decide +kernel⟩
abbrev s_Table_order : Stmt := inClass (top 16) 8
abbrev N_Table_order : List Str := ["self", "seat"]
theorem sc_Table_order : FnScope N_Table_order ["self", "seat"] (defScope s_Table_order) := ⟨rfl, rfl, rfl, by decide +kernel, rfl, by decide +kernel, by decide +kernel⟩
abbrev s_Table_halves : Stmt := inClass (top 16) 9
abbrev N_Table_halves : List Str := ["self", "seat"]
theorem sc_Table_halves : FnScope N_Table_halves ["self", "seat"] (defScope s_Table_halves) := ⟨rfl, rfl, rfl, by decide +kernel, rfl, by decide +kernel, by decide +kernel⟩
abbrev s_require_table : Stmt := top 17
abbrev N_require_table : List Str := ["table"]
theorem sc_require_table : FnScope N_require_table ["table"] (defScope s_require_table) := ⟨rfl, rfl, rfl, by decide +kernel, rfl, by decide +kernel, by decide +kernel⟩
abbrev s_require_seat : Stmt := top 18
abbrev N_require_seat : List Str := ["table", "seat"]
theorem sc_require_seat : FnScope N_require_seat ["table", "seat"] (defScope s_require_seat) := ⟨rfl, rfl, rfl, by decide +kernel, rfl, by decide +kernel, by decide +kernel⟩
abbrev s_require_targets : Stmt := top 19
abbrev N_require_targets : List Str := ["table", "targets", "seen", "index", "seat"]
theorem sc_require_targets : FnScope N_require_targets ["table", "targets"] (defScope s_require_targets) := ⟨rfl, rfl, rfl, by decide +kernel, rfl, by decide +kernel, by decide +kernel⟩
abbrev s_combined : Stmt := top 21
abbrev N_combined : List Str := ["first", "second", "column", "factor", "one", "other"]
theorem sc_combined : FnScope N_combined ["first", "second", "column"] (defScope s_combined) := ⟨rfl, rfl, rfl, by decide +kernel, rfl, by decide +kernel, by decide +kernel⟩
abbrev s_reduced : Stmt := top 22
abbrev N_reduced : List Str := ["row", "column", "odds", "one", "odd"]
theorem sc_reduced : FnScope N_reduced ["row", "column", "odds"] (defScope s_reduced) := ⟨rfl, rfl, rfl, by decide +kernel, rfl, by decide +kernel, by decide +kernel⟩
abbrev s_shift_basis : Stmt := top 23
abbrev N_shift_basis : List Str := ["sizes", "targets", "odds", "rows", "basis", "column", "odd", "pivot", "others", "row", "rest", "size", "seat", "one", "other", "index"]
theorem sc_shift_basis : FnScope N_shift_basis ["sizes", "targets"] (defScope s_shift_basis) := ⟨rfl, rfl, rfl, by decide +kernel, rfl, by decide +kernel, by decide +kernel⟩
abbrev s_diagonal_product : Stmt := top 24
abbrev N_diagonal_product : List Str := ["basis", "product", "index", "row"]
theorem sc_diagonal_product : FnScope N_diagonal_product ["basis"] (defScope s_diagonal_product) := ⟨rfl, rfl, rfl, by decide +kernel, rfl, by decide +kernel, by decide +kernel⟩
abbrev s_coordinates : Stmt := top 25
abbrev N_coordinates : List Str := ["basis", "vector", "found", "index", "row", "factor", "one", "other"]
theorem sc_coordinates : FnScope N_coordinates ["basis", "vector"] (defScope s_coordinates) := ⟨rfl, rfl, rfl, by decide +kernel, rfl, by decide +kernel, by decide +kernel⟩
abbrev s_is_free : Stmt := top 26
abbrev N_is_free : List Str := ["basis", "vector", "index", "row", "factor", "one", "other"]
theorem sc_is_free : FnScope N_is_free ["basis", "vector"] (defScope s_is_free) := ⟨rfl, rfl, rfl, by decide +kernel, rfl, by decide +kernel, by decide +kernel⟩
abbrev s_coset_count : Stmt := top 27
abbrev N_coset_count : List Str := ["table", "targets"]
theorem sc_coset_count : FnScope N_coset_count ["table", "targets"] (defScope s_coset_count) := ⟨rfl, rfl, rfl, by decide +kernel, rfl, by decide +kernel, by decide +kernel⟩
abbrev s_separating_witness : Stmt := top 28
abbrev N_separating_witness : List Str := ["sizes", "targets", "basis", "difference", "total", "units", "columns", "index", "weights", "shared", "weight", "modulus", "column", "unit", "one"]
theorem sc_separating_witness : FnScope N_separating_witness ["sizes", "targets", "basis", "difference"] (defScope s_separating_witness) := ⟨rfl, rfl, rfl, by decide +kernel, rfl, by decide +kernel, by decide +kernel⟩
abbrev s_reach : Stmt := top 29
abbrev N_reach : List Str := ["table", "targets", "seat", "basis", "difference", "one", "other"]
theorem sc_reach : FnScope N_reach ["table", "targets", "seat"] (defScope s_reach) := ⟨rfl, rfl, rfl, by decide +kernel, rfl, by decide +kernel, by decide +kernel⟩
abbrev s_weighted : Stmt := top 30
abbrev N_weighted : List Str := ["modulus", "weights", "seat", "weight", "place"]
theorem sc_weighted : FnScope N_weighted ["modulus", "weights", "seat"] (defScope s_weighted) := ⟨rfl, rfl, rfl, by decide +kernel, rfl, by decide +kernel, by decide +kernel⟩
abbrev s_is_witness : Stmt := top 31
abbrev N_is_witness : List Str := ["table", "witness", "modulus", "weights", "residue", "weight", "size"]
theorem sc_is_witness : FnScope N_is_witness ["table", "witness"] (defScope s_is_witness) := ⟨rfl, rfl, rfl, by decide +kernel, rfl, by decide +kernel, by decide +kernel⟩
abbrev s_require_witness : Stmt := top 32
abbrev N_require_witness : List Str := ["table", "witness"]
theorem sc_require_witness : FnScope N_require_witness ["table", "witness"] (defScope s_require_witness) := ⟨rfl, rfl, rfl, by decide +kernel, rfl, by decide +kernel, by decide +kernel⟩
abbrev s_check_witness : Stmt := top 33
abbrev N_check_witness : List Str := ["table", "targets", "seat", "witness", "modulus", "weights", "residue", "index", "target"]
theorem sc_check_witness : FnScope N_check_witness ["table", "targets", "seat", "witness"] (defScope s_check_witness) := ⟨rfl, rfl, rfl, by decide +kernel, rfl, by decide +kernel, by decide +kernel⟩
abbrev s_value : Stmt := top 34
abbrev N_value : List Str := ["table", "witness", "seat"]
theorem sc_value : FnScope N_value ["table", "witness", "seat"] (defScope s_value) := ⟨rfl, rfl, rfl, by decide +kernel, rfl, by decide +kernel, by decide +kernel⟩
abbrev s_law_mixed : Stmt := top 36
abbrev N_law_mixed : List Str := ["_law_cell", "_law_draw", "_law_number"]
theorem sc_law_mixed : FnScope N_law_mixed ["_law_cell", "_law_draw"] (defScope s_law_mixed) := ⟨rfl, rfl, rfl, by decide +kernel, rfl, by decide +kernel, by decide +kernel⟩
abbrev s_law_source : Stmt := top 37
abbrev N_law_source : List Str := ["_law_cell"]
theorem sc_law_source : FnScope N_law_source ["_law_cell"] (defScope s_law_source) := ⟨rfl, rfl, rfl, by decide +kernel, rfl, by decide +kernel, by decide +kernel⟩
abbrev s_law_take : Stmt := top 38
abbrev N_law_take : List Str := ["_law_source_here", "_law_count", "_law_drawn"]
theorem sc_law_take : FnScope N_law_take ["_law_source_here", "_law_count"] (defScope s_law_take) := ⟨rfl, rfl, rfl, by decide +kernel, rfl, by decide +kernel, by decide +kernel⟩
abbrev s_law_raised : Stmt := top 39
abbrev N_law_raised : List Str := ["_law_attempt", "e", "_law_kinds"]
theorem sc_law_raised : FnScope N_law_raised ["_law_attempt"] (defScope s_law_raised) := ⟨rfl, rfl, rfl, by decide +kernel, rfl, by decide +kernel, by decide +kernel⟩
abbrev s_law_bad_goals : Stmt := top 40
abbrev N_law_bad_goals : List Str := ["_law_source_here", "_law_sizes", "_law_zero", "_law_last", "_law_whole", "_law_odd", "_law_wrong", "_law_parts", "_law_size"]
theorem sc_law_bad_goals : FnScope N_law_bad_goals ["_law_source_here", "_law_sizes"] (defScope s_law_bad_goals) := ⟨rfl, rfl, rfl, by decide +kernel, rfl, by decide +kernel, by decide +kernel⟩
abbrev s_law_check : Stmt := top 41
abbrev N_law_check : List Str := ["_law_source_here", "_law_sizes", "_law_board", "_law_zero", "_law_last", "_law_no_board", "_law_bad", "_law_index", "_law_wrong", "_law_some", "_law_sheet", "_law_attempts", "_law_size", "_law_attempt"]
theorem sc_law_check : FnScope N_law_check ["_law_source_here"] (defScope s_law_check) := ⟨rfl, rfl, rfl, by decide +kernel, rfl, by decide +kernel, by decide +kernel⟩
abbrev s_law : Stmt := top 42
abbrev N_law : List Str := ["_law_script", "_law_cell"]
theorem sc_law : FnScope N_law ["_law_script"] (defScope s_law) := ⟨rfl, rfl, rfl, by decide +kernel, rfl, by decide +kernel, by decide +kernel⟩
/-- what the top has written -/
structure TX (K : PySem.W.Frag) (mg : Str → Option Value) where
  C_SeatError : Addr
  m_SeatError : mg "SeatError" = some (.ref C_SeatError)
  C_InvalidCall : Addr
  m_InvalidCall : mg "InvalidCall" = some (.ref C_InvalidCall)
  f_wall : Addr
  fd_wall : FuncData
  F_wall : Fun K "_wall" "_wall" s_wall f_wall fd_wall
  b_wall : Binds K fd_wall ["k"] []
  m_wall : mg "_wall" = some (.ref f_wall)
  f_InvalidTable_init : Addr
  fd_InvalidTable_init : FuncData
  F_InvalidTable_init : Fun K "__init__" "InvalidTable.__init__" s_InvalidTable_init f_InvalidTable_init fd_InvalidTable_init
  b_InvalidTable_init : Binds K fd_InvalidTable_init ["self", "rings"] []
  f_InvalidTargets_init : Addr
  fd_InvalidTargets_init : FuncData
  F_InvalidTargets_init : Fun K "__init__" "InvalidTargets.__init__" s_InvalidTargets_init f_InvalidTargets_init fd_InvalidTargets_init
  b_InvalidTargets_init : Binds K fd_InvalidTargets_init ["self", "index"] []
  f_InvalidSeat_init : Addr
  fd_InvalidSeat_init : FuncData
  F_InvalidSeat_init : Fun K "__init__" "InvalidSeat.__init__" s_InvalidSeat_init f_InvalidSeat_init fd_InvalidSeat_init
  b_InvalidSeat_init : Binds K fd_InvalidSeat_init ["self", "seat"] []
  f_InvalidWitness_init : Addr
  fd_InvalidWitness_init : FuncData
  F_InvalidWitness_init : Fun K "__init__" "InvalidWitness.__init__" s_InvalidWitness_init f_InvalidWitness_init fd_InvalidWitness_init
  b_InvalidWitness_init : Binds K fd_InvalidWitness_init ["self", "index"] []
  f_is_integer : Addr
  fd_is_integer : FuncData
  F_is_integer : Fun K "is_integer" "is_integer" s_is_integer f_is_integer fd_is_integer
  b_is_integer : Binds K fd_is_integer ["value"] []
  m_is_integer : mg "is_integer" = some (.ref f_is_integer)
  f_is_at_least : Addr
  fd_is_at_least : FuncData
  F_is_at_least : Fun K "is_at_least" "is_at_least" s_is_at_least f_is_at_least fd_is_at_least
  b_is_at_least : Binds K fd_is_at_least ["value", "low"] []
  m_is_at_least : mg "is_at_least" = some (.ref f_is_at_least)
  f_is_between : Addr
  fd_is_between : FuncData
  F_is_between : Fun K "is_between" "is_between" s_is_between f_is_between fd_is_between
  b_is_between : Binds K fd_is_between ["value", "low", "high"] []
  m_is_between : mg "is_between" = some (.ref f_is_between)
  f_greatest_common_divisor : Addr
  fd_greatest_common_divisor : FuncData
  F_greatest_common_divisor : Fun K "greatest_common_divisor" "greatest_common_divisor" s_greatest_common_divisor f_greatest_common_divisor fd_greatest_common_divisor
  b_greatest_common_divisor : Binds K fd_greatest_common_divisor ["first", "second"] []
  m_greatest_common_divisor : mg "greatest_common_divisor" = some (.ref f_greatest_common_divisor)
  f_odd_part : Addr
  fd_odd_part : FuncData
  F_odd_part : Fun K "odd_part" "odd_part" s_odd_part f_odd_part fd_odd_part
  b_odd_part : Binds K fd_odd_part ["number"] []
  m_odd_part : mg "odd_part" = some (.ref f_odd_part)
  f_Table_init : Addr
  fd_Table_init : FuncData
  F_Table_init : Fun K "__init__" "Table.__init__" s_Table_init f_Table_init fd_Table_init
  b_Table_init : Binds K fd_Table_init ["self", "rings"] []
  f_Table_sizes : Addr
  fd_Table_sizes : FuncData
  F_Table_sizes : Fun K "sizes" "Table.sizes" s_Table_sizes f_Table_sizes fd_Table_sizes
  b_Table_sizes : Binds K fd_Table_sizes ["self"] []
  f_Table_count : Addr
  fd_Table_count : FuncData
  F_Table_count : Fun K "count" "Table.count" s_Table_count f_Table_count fd_Table_count
  b_Table_count : Binds K fd_Table_count ["self"] []
  f_Table_is_seat : Addr
  fd_Table_is_seat : FuncData
  F_Table_is_seat : Fun K "is_seat" "Table.is_seat" s_Table_is_seat f_Table_is_seat fd_Table_is_seat
  b_Table_is_seat : Binds K fd_Table_is_seat ["self", "value"] []
  f_Table_is_call : Addr
  fd_Table_is_call : FuncData
  F_Table_is_call : Fun K "is_call" "Table.is_call" s_Table_is_call f_Table_is_call fd_Table_is_call
  b_Table_is_call : Binds K fd_Table_is_call ["self", "value"] []
  f_Table_shifted : Addr
  fd_Table_shifted : FuncData
  F_Table_shifted : Fun K "shifted" "Table.shifted" s_Table_shifted f_Table_shifted fd_Table_shifted
  b_Table_shifted : Binds K fd_Table_shifted ["self", "seat", "call", "factor"] []
  f_Table_moves : Addr
  fd_Table_moves : FuncData
  F_Table_moves : Fun K "moves" "Table.moves" s_Table_moves f_Table_moves fd_Table_moves
  b_Table_moves : Binds K fd_Table_moves ["self", "seat", "call"] []
  f_Table_step : Addr
  fd_Table_step : FuncData
  F_Table_step : Fun K "step" "Table.step" s_Table_step f_Table_step fd_Table_step
  b_Table_step : Binds K fd_Table_step ["self", "seat", "call", "direction"] []
  f_Table_order : Addr
  fd_Table_order : FuncData
  F_Table_order : Fun K "order" "Table.order" s_Table_order f_Table_order fd_Table_order
  b_Table_order : Binds K fd_Table_order ["self", "seat"] []
  f_Table_halves : Addr
  fd_Table_halves : FuncData
  F_Table_halves : Fun K "halves" "Table.halves" s_Table_halves f_Table_halves fd_Table_halves
  b_Table_halves : Binds K fd_Table_halves ["self", "seat"] []
  f_require_table : Addr
  fd_require_table : FuncData
  F_require_table : Fun K "require_table" "require_table" s_require_table f_require_table fd_require_table
  b_require_table : Binds K fd_require_table ["table"] []
  m_require_table : mg "require_table" = some (.ref f_require_table)
  f_require_seat : Addr
  fd_require_seat : FuncData
  F_require_seat : Fun K "require_seat" "require_seat" s_require_seat f_require_seat fd_require_seat
  b_require_seat : Binds K fd_require_seat ["table", "seat"] []
  m_require_seat : mg "require_seat" = some (.ref f_require_seat)
  f_require_targets : Addr
  fd_require_targets : FuncData
  F_require_targets : Fun K "require_targets" "require_targets" s_require_targets f_require_targets fd_require_targets
  b_require_targets : Binds K fd_require_targets ["table", "targets"] []
  m_require_targets : mg "require_targets" = some (.ref f_require_targets)
  f_combined : Addr
  fd_combined : FuncData
  F_combined : Fun K "combined" "combined" s_combined f_combined fd_combined
  b_combined : Binds K fd_combined ["first", "second", "column"] []
  m_combined : mg "combined" = some (.ref f_combined)
  f_reduced : Addr
  fd_reduced : FuncData
  F_reduced : Fun K "reduced" "reduced" s_reduced f_reduced fd_reduced
  b_reduced : Binds K fd_reduced ["row", "column", "odds"] []
  m_reduced : mg "reduced" = some (.ref f_reduced)
  f_shift_basis : Addr
  fd_shift_basis : FuncData
  F_shift_basis : Fun K "shift_basis" "shift_basis" s_shift_basis f_shift_basis fd_shift_basis
  b_shift_basis : Binds K fd_shift_basis ["sizes", "targets"] []
  m_shift_basis : mg "shift_basis" = some (.ref f_shift_basis)
  f_diagonal_product : Addr
  fd_diagonal_product : FuncData
  F_diagonal_product : Fun K "diagonal_product" "diagonal_product" s_diagonal_product f_diagonal_product fd_diagonal_product
  b_diagonal_product : Binds K fd_diagonal_product ["basis"] []
  m_diagonal_product : mg "diagonal_product" = some (.ref f_diagonal_product)
  f_coordinates : Addr
  fd_coordinates : FuncData
  F_coordinates : Fun K "coordinates" "coordinates" s_coordinates f_coordinates fd_coordinates
  b_coordinates : Binds K fd_coordinates ["basis", "vector"] []
  m_coordinates : mg "coordinates" = some (.ref f_coordinates)
  f_is_free : Addr
  fd_is_free : FuncData
  F_is_free : Fun K "is_free" "is_free" s_is_free f_is_free fd_is_free
  b_is_free : Binds K fd_is_free ["basis", "vector"] []
  m_is_free : mg "is_free" = some (.ref f_is_free)
  f_coset_count : Addr
  fd_coset_count : FuncData
  F_coset_count : Fun K "coset_count" "coset_count" s_coset_count f_coset_count fd_coset_count
  b_coset_count : Binds K fd_coset_count ["table", "targets"] []
  m_coset_count : mg "coset_count" = some (.ref f_coset_count)
  f_separating_witness : Addr
  fd_separating_witness : FuncData
  F_separating_witness : Fun K "separating_witness" "separating_witness" s_separating_witness f_separating_witness fd_separating_witness
  b_separating_witness : Binds K fd_separating_witness ["sizes", "targets", "basis", "difference"] []
  m_separating_witness : mg "separating_witness" = some (.ref f_separating_witness)
  f_reach : Addr
  fd_reach : FuncData
  F_reach : Fun K "reach" "reach" s_reach f_reach fd_reach
  b_reach : Binds K fd_reach ["table", "targets", "seat"] []
  m_reach : mg "reach" = some (.ref f_reach)
  f_weighted : Addr
  fd_weighted : FuncData
  F_weighted : Fun K "weighted" "weighted" s_weighted f_weighted fd_weighted
  b_weighted : Binds K fd_weighted ["modulus", "weights", "seat"] []
  m_weighted : mg "weighted" = some (.ref f_weighted)
  f_is_witness : Addr
  fd_is_witness : FuncData
  F_is_witness : Fun K "is_witness" "is_witness" s_is_witness f_is_witness fd_is_witness
  b_is_witness : Binds K fd_is_witness ["table", "witness"] []
  m_is_witness : mg "is_witness" = some (.ref f_is_witness)
  f_require_witness : Addr
  fd_require_witness : FuncData
  F_require_witness : Fun K "require_witness" "require_witness" s_require_witness f_require_witness fd_require_witness
  b_require_witness : Binds K fd_require_witness ["table", "witness"] []
  m_require_witness : mg "require_witness" = some (.ref f_require_witness)
  f_check_witness : Addr
  fd_check_witness : FuncData
  F_check_witness : Fun K "check_witness" "check_witness" s_check_witness f_check_witness fd_check_witness
  b_check_witness : Binds K fd_check_witness ["table", "targets", "seat", "witness"] []
  m_check_witness : mg "check_witness" = some (.ref f_check_witness)
  f_value : Addr
  fd_value : FuncData
  F_value : Fun K "value" "value" s_value f_value fd_value
  b_value : Binds K fd_value ["table", "witness", "seat"] []
  m_value : mg "value" = some (.ref f_value)
  f_law_mixed : Addr
  fd_law_mixed : FuncData
  F_law_mixed : Fun K "_law_mixed" "_law_mixed" s_law_mixed f_law_mixed fd_law_mixed
  b_law_mixed : Binds K fd_law_mixed ["_law_cell", "_law_draw"] []
  m_law_mixed : mg "_law_mixed" = some (.ref f_law_mixed)
  f_law_source : Addr
  fd_law_source : FuncData
  F_law_source : Fun K "_law_source" "_law_source" s_law_source f_law_source fd_law_source
  b_law_source : Binds K fd_law_source ["_law_cell"] []
  m_law_source : mg "_law_source" = some (.ref f_law_source)
  f_law_take : Addr
  fd_law_take : FuncData
  F_law_take : Fun K "_law_take" "_law_take" s_law_take f_law_take fd_law_take
  b_law_take : Binds K fd_law_take ["_law_source_here", "_law_count"] []
  m_law_take : mg "_law_take" = some (.ref f_law_take)
  f_law_raised : Addr
  fd_law_raised : FuncData
  F_law_raised : Fun K "_law_raised" "_law_raised" s_law_raised f_law_raised fd_law_raised
  b_law_raised : Binds K fd_law_raised ["_law_attempt"] []
  m_law_raised : mg "_law_raised" = some (.ref f_law_raised)
  f_law_bad_goals : Addr
  fd_law_bad_goals : FuncData
  F_law_bad_goals : Fun K "_law_bad_goals" "_law_bad_goals" s_law_bad_goals f_law_bad_goals fd_law_bad_goals
  b_law_bad_goals : Binds K fd_law_bad_goals ["_law_source_here", "_law_sizes"] []
  m_law_bad_goals : mg "_law_bad_goals" = some (.ref f_law_bad_goals)
  f_law_check : Addr
  fd_law_check : FuncData
  F_law_check : Fun K "_law_check" "_law_check" s_law_check f_law_check fd_law_check
  b_law_check : Binds K fd_law_check ["_law_source_here"] []
  m_law_check : mg "_law_check" = some (.ref f_law_check)
  f_law : Addr
  fd_law : FuncData
  F_law : Fun K "law" "law" s_law f_law fd_law
  b_law : Binds K fd_law ["_law_script"] []
  m_law : mg "law" = some (.ref f_law)
  C_InvalidTable : Addr
  m_InvalidTable : mg "InvalidTable" = some (.ref C_InvalidTable)
  ox_InvalidTable : OexC K C_InvalidTable
  xf_InvalidTable : XfC K C_InvalidTable
  i_InvalidTable : PySem.W.findIn K (.ref C_InvalidTable) "__init__" = some (some (.ref f_InvalidTable_init))
  ti_InvalidTable : PySem.W.typeIn K (.ref f_InvalidTable_init) = some (.type "function")
  em_InvalidTable : PySem.W.exmOne K (.ref C_InvalidTable) (.ref C_InvalidTable) = some true
  em_InvalidTable_SeatError : PySem.W.exmOne K (.ref C_InvalidTable) (.ref C_SeatError) = some true
  n_InvalidTable_rings : PySem.W.findIn K (.ref C_InvalidTable) "rings" = some none
  C_InvalidTargets : Addr
  m_InvalidTargets : mg "InvalidTargets" = some (.ref C_InvalidTargets)
  ox_InvalidTargets : OexC K C_InvalidTargets
  xf_InvalidTargets : XfC K C_InvalidTargets
  i_InvalidTargets : PySem.W.findIn K (.ref C_InvalidTargets) "__init__" = some (some (.ref f_InvalidTargets_init))
  ti_InvalidTargets : PySem.W.typeIn K (.ref f_InvalidTargets_init) = some (.type "function")
  em_InvalidTargets : PySem.W.exmOne K (.ref C_InvalidTargets) (.ref C_InvalidTargets) = some true
  em_InvalidTargets_SeatError : PySem.W.exmOne K (.ref C_InvalidTargets) (.ref C_SeatError) = some true
  n_InvalidTargets_index : PySem.W.findIn K (.ref C_InvalidTargets) "index" = some none
  C_InvalidSeat : Addr
  m_InvalidSeat : mg "InvalidSeat" = some (.ref C_InvalidSeat)
  ox_InvalidSeat : OexC K C_InvalidSeat
  xf_InvalidSeat : XfC K C_InvalidSeat
  i_InvalidSeat : PySem.W.findIn K (.ref C_InvalidSeat) "__init__" = some (some (.ref f_InvalidSeat_init))
  ti_InvalidSeat : PySem.W.typeIn K (.ref f_InvalidSeat_init) = some (.type "function")
  em_InvalidSeat : PySem.W.exmOne K (.ref C_InvalidSeat) (.ref C_InvalidSeat) = some true
  em_InvalidSeat_SeatError : PySem.W.exmOne K (.ref C_InvalidSeat) (.ref C_SeatError) = some true
  n_InvalidSeat_seat : PySem.W.findIn K (.ref C_InvalidSeat) "seat" = some none
  C_InvalidWitness : Addr
  m_InvalidWitness : mg "InvalidWitness" = some (.ref C_InvalidWitness)
  ox_InvalidWitness : OexC K C_InvalidWitness
  xf_InvalidWitness : XfC K C_InvalidWitness
  i_InvalidWitness : PySem.W.findIn K (.ref C_InvalidWitness) "__init__" = some (some (.ref f_InvalidWitness_init))
  ti_InvalidWitness : PySem.W.typeIn K (.ref f_InvalidWitness_init) = some (.type "function")
  em_InvalidWitness : PySem.W.exmOne K (.ref C_InvalidWitness) (.ref C_InvalidWitness) = some true
  em_InvalidWitness_SeatError : PySem.W.exmOne K (.ref C_InvalidWitness) (.ref C_SeatError) = some true
  n_InvalidWitness_index : PySem.W.findIn K (.ref C_InvalidWitness) "index" = some none
  C_Table : Addr
  cl_Table : Cls K C_Table
  m_Table : mg "Table" = some (.ref C_Table)
  M_Table : Mk K C_Table f_Table_init
  me_Table_sizes : Meth K C_Table "sizes" f_Table_sizes
  me_Table_count : Meth K C_Table "count" f_Table_count
  me_Table_is_seat : Meth K C_Table "is_seat" f_Table_is_seat
  me_Table_is_call : Meth K C_Table "is_call" f_Table_is_call
  me_Table_shifted : Meth K C_Table "shifted" f_Table_shifted
  me_Table_moves : Meth K C_Table "moves" f_Table_moves
  me_Table_step : Meth K C_Table "step" f_Table_step
  me_Table_order : Meth K C_Table "order" f_Table_order
  me_Table_halves : Meth K C_Table "halves" f_Table_halves
  n_Table_rings : NoAttr K C_Table "rings"
  ic_Table : PySem.W.findIn K (.ref C_Table) "__class__" = some (some (.builtin "object.__class__"))
  im_Table : PySem.W.mroIn K C_Table (.type "object") = some true
  ig_ : PySem.W.specialIn K (.builtin "object.__class__") "__get__" = some (some (.builtin "getset_descriptor.__get__"))
  it_ : PySem.W.takesIn K (.builtin "object.__class__") = some true
  xi_InvalidTable : CG.ExcI K C_InvalidTable
  xi_InvalidTargets : CG.ExcI K C_InvalidTargets
  xi_InvalidSeat : CG.ExcI K C_InvalidSeat
  xi_InvalidWitness : CG.ExcI K C_InvalidWitness
  ki_InvalidTable_InvalidTargets : PySem.W.kitAny K (.ref C_InvalidTable) [.ref C_InvalidTargets] = some false
  ki_InvalidTable_InvalidSeat : PySem.W.kitAny K (.ref C_InvalidTable) [.ref C_InvalidSeat] = some false
  ki_InvalidTable_InvalidWitness : PySem.W.kitAny K (.ref C_InvalidTable) [.ref C_InvalidWitness] = some false
  ki_InvalidTable_InvalidCall : PySem.W.kitAny K (.ref C_InvalidTable) [.ref C_InvalidCall] = some false
  ki_InvalidTable_ValueError : PySem.W.kitAny K (.ref C_InvalidTable) [.type "ValueError"] = some true
  ki_InvalidTargets_InvalidTable : PySem.W.kitAny K (.ref C_InvalidTargets) [.ref C_InvalidTable] = some false
  ki_InvalidTargets_InvalidSeat : PySem.W.kitAny K (.ref C_InvalidTargets) [.ref C_InvalidSeat] = some false
  ki_InvalidTargets_InvalidWitness : PySem.W.kitAny K (.ref C_InvalidTargets) [.ref C_InvalidWitness] = some false
  ki_InvalidTargets_InvalidCall : PySem.W.kitAny K (.ref C_InvalidTargets) [.ref C_InvalidCall] = some false
  ki_InvalidTargets_ValueError : PySem.W.kitAny K (.ref C_InvalidTargets) [.type "ValueError"] = some true
  ki_InvalidSeat_InvalidTable : PySem.W.kitAny K (.ref C_InvalidSeat) [.ref C_InvalidTable] = some false
  ki_InvalidSeat_InvalidTargets : PySem.W.kitAny K (.ref C_InvalidSeat) [.ref C_InvalidTargets] = some false
  ki_InvalidSeat_InvalidWitness : PySem.W.kitAny K (.ref C_InvalidSeat) [.ref C_InvalidWitness] = some false
  ki_InvalidSeat_InvalidCall : PySem.W.kitAny K (.ref C_InvalidSeat) [.ref C_InvalidCall] = some false
  ki_InvalidSeat_ValueError : PySem.W.kitAny K (.ref C_InvalidSeat) [.type "ValueError"] = some true
  ki_InvalidWitness_InvalidTable : PySem.W.kitAny K (.ref C_InvalidWitness) [.ref C_InvalidTable] = some false
  ki_InvalidWitness_InvalidTargets : PySem.W.kitAny K (.ref C_InvalidWitness) [.ref C_InvalidTargets] = some false
  ki_InvalidWitness_InvalidSeat : PySem.W.kitAny K (.ref C_InvalidWitness) [.ref C_InvalidSeat] = some false
  ki_InvalidWitness_InvalidCall : PySem.W.kitAny K (.ref C_InvalidWitness) [.ref C_InvalidCall] = some false
  ki_InvalidWitness_ValueError : PySem.W.kitAny K (.ref C_InvalidWitness) [.type "ValueError"] = some true
  ki_list_Table : PySem.W.kitAny K (.type "list") [.ref C_Table] = some false
  ki_tuple_Table : PySem.W.kitAny K (.type "tuple") [.ref C_Table] = some false
  ki_int_Table : PySem.W.kitAny K (.type "int") [.ref C_Table] = some false
  ki_bool_Table : PySem.W.kitAny K (.type "bool") [.ref C_Table] = some false
  ki_str_Table : PySem.W.kitAny K (.type "str") [.ref C_Table] = some false
  ki_dict_Table : PySem.W.kitAny K (.type "dict") [.ref C_Table] = some false
  ki_NoneType_Table : PySem.W.kitAny K (.type "NoneType") [.ref C_Table] = some false
  t_MAX_RINGS : Tok
  c_MAX_RINGS : mg "MAX_RINGS" = some (.int 4 t_MAX_RINGS)
  z_ValueError : mg "ValueError" = none
  z_abs : mg "abs" = none
  z_all : mg "all" = none
  z_bool : mg "bool" = none
  z_enumerate : mg "enumerate" = none
  z_int : mg "int" = none
  z_isinstance : mg "isinstance" = none
  z_len : mg "len" = none
  z_list : mg "list" = none
  z_range : mg "range" = none
  z_repr : mg "repr" = none
  z_sum : mg "sum" = none
  z_tuple : mg "tuple" = none
  z_zip : mg "zip" = none
/-- the code objects and tables of the defs that make lambdas -/
structure TL {K : PySem.W.Frag} {mg : Str → Option Value} (T : TX K mg) (base : Heap) where
  c_law_check : Addr
  p_law_check : Addr
  at_law_check : T.fd_law_check.code = .ref c_law_check
  tb_law_check : LamX.TabB base mg c_law_check p_law_check
  sysb : CG.SysB base
/-- not an int (a bool is none) -/
def NotI (K : PySem.W.Frag) (H : Hp) (x : V) : Prop := ∃ t b1 b2, TyX K H x t ∧ PySem.W.kitOne K t (.type "int") = some b1 ∧ PySem.W.kitOne K t (.type "bool") = some b2 ∧ (b1 && !b2) = false
/-- what x is, if an int -/
def IsI (K : PySem.W.Frag) (H : Hp) (x : V) : Option Int → Prop
  | some i => x = .int i
  | none => NotI K H x
def atLeast : Option Int → Int → Bool
  | some i, low => decide (low ≤ i)
  | none, _ => false
def between : Option Int → Int → Int → Bool
  | some i, low, high => decide (low ≤ i) && decide (i ≤ high)
  | none, _, _ => false

section
variable {P : Program} {w : World} {K : PySem.W.Frag} {mg : Str → Option Value} {base : Heap}
def sp_is_integer (K : PySem.W.Frag) : Sp := fun vs H Q _ => ∃ x o, vs = [x] ∧ IsI K H x o ∧ Q (.bl o.isSome) H
theorem ok_is_integer (T : TX K mg) : FnOk P w K mg base CX0 1 T.f_is_integer T.fd_is_integer ["value"] (sp_is_integer K) := by
  refine T.F_is_integer.ok sc_is_integer (fun vs H Q E h => ?_) (fun cdv A outer s H vs Q E hr h => ?_)
  · obtain ⟨x, o, rfl, _⟩ := h
    rfl
  · obtain ⟨x, o, rfl, hx, k⟩ := h
    refine ⟨_, (pss_one (ps_ret (pe_and (pe_callB call_isi (by rfl) T.z_isinstance (by decide +kernel) (pa_cons (pv 0) (pa_cons (pe_bltn (v := .ty "int") rfl T.z_int (by decide +kernel) rfl) pa_nil))) (pe_one (pe_not (pe_callB call_isi (by rfl) T.z_isinstance (by decide +kernel) (pa_cons (pv 0) (pa_cons (pe_bltn (v := .ty "bool") rfl T.z_bool (by decide +kernel) rfl) pa_nil)))))))), ?_⟩
    cases o with
    | some i =>
      cases hx
      exact ⟨_, rfl, _, _, _, _, true, rfl, .ty _, .base (.int i), kit_ty (by decide +kernel), _, rfl, _, rfl, _, _, _, _, false, rfl, .ty _, .base (.int i), kit_ty (by decide +kernel), _, rfl, k⟩
    | none =>
      obtain ⟨t, b1, b2, ht, h1, h2, hb⟩ := hx
      refine ⟨_, rfl, _, _, _, _, b1, rfl, .ty _, ht, h1, _, rfl, ?_⟩
      cases b1 with
      | false => exact k
      | true =>
        refine ⟨_, rfl, _, _, _, _, b2, rfl, .ty _, ht, h2, _, rfl, ?_⟩
        have e : (!b2) = false := hb
        rw [e]
        exact k
def sp_is_at_least (K : PySem.W.Frag) : Sp := fun vs H Q _ => ∃ x o low, vs = [x, .int low] ∧ IsI K H x o ∧ Q (.bl (atLeast o low)) H
theorem ok_is_at_least (T : TX K mg) : FnOk P w K mg base CX0 2 T.f_is_at_least T.fd_is_at_least ["value", "low"] (sp_is_at_least K) := by
  refine T.F_is_at_least.ok sc_is_at_least (fun vs H Q E h => ?_) (fun cdv A outer s H vs Q E hr h => ?_)
  · obtain ⟨x, o, low, rfl, _⟩ := h
    rfl
  · obtain ⟨x, o, low, rfl, hx, k⟩ := h
    refine ⟨_, (pss_one (ps_ret (pe_and (pe_call (ok_is_integer T) hr rfl T.m_is_integer T.F_is_integer.kp T.b_is_integer .nil pass0 (pa_cons (pv 0) pa_nil)) (pe_one (pe_cmpR op_ge (pv 0) (pv 1) (nomark _)))))), ?_⟩
    refine ⟨_, rfl, x, o, rfl, hx, _, rfl, ?_⟩
    cases o with
    | none => exact k
    | some i =>
      cases hx
      exact ⟨_, rfl, _, rfl, _, _, rfl, rfl, k⟩
def sp_is_between (K : PySem.W.Frag) : Sp := fun vs H Q _ => ∃ x o low high, vs = [x, .int low, .int high] ∧ IsI K H x o ∧ Q (.bl (between o low high)) H
theorem ok_is_between (T : TX K mg) : FnOk P w K mg base CX0 2 T.f_is_between T.fd_is_between ["value", "low", "high"] (sp_is_between K) := by
  refine T.F_is_between.ok sc_is_between (fun vs H Q E h => ?_) (fun cdv A outer s H vs Q E hr h => ?_)
  · obtain ⟨x, o, low, high, rfl, _⟩ := h
    rfl
  · obtain ⟨x, o, low, high, rfl, hx, k⟩ := h
    refine ⟨_, (pss_one (ps_ret (pe_and (pe_call (ok_is_integer T) hr rfl T.m_is_integer T.F_is_integer.kp T.b_is_integer .nil pass0 (pa_cons (pv 0) pa_nil)) (pe_one (pe_chain op_le op_le (pv 1) (pv 0) (pv 2)))))), ?_⟩
    refine ⟨_, rfl, x, o, rfl, hx, _, rfl, ?_⟩
    cases o with
    | none => exact k
    | some i =>
      cases hx
      refine ⟨_, rfl, _, rfl, _, _, rfl, rfl, _, rfl, ?_⟩
      refine ite2 (fun c => ?_) (fun c => ?_)
      · have c1 : low ≤ i := of_decide_eq_true c
        refine ⟨_, rfl, _, _, rfl, rfl, ?_⟩
        have e : between (some i) low high = decide (i ≤ high) := by show (decide (low ≤ i) && decide (i ≤ high)) = _; rw [c]; rfl
        rw [e] at k
        exact k
      · have e : between (some i) low high = false := by show (decide (low ≤ i) && decide (i ≤ high)) = _; rw [Bool.eq_false_iff.mpr c]; rfl
        rw [e] at k
        exact k
end

/-- a table of these sizes stands at a -/
def TabAt (C : Addr) (H : Hp) (a : Addr) (ns : List Int) : Prop := ∃ dx t, H a = some (.ins C dx [("rings", .ref t)]) ∧ H t = some (.tup (ns.map V.int))
theorem TabAt.mono {C : Addr} {H H2 : Hp} {a : Addr} {ns : List Int} (e : Ex H H2) (h : TabAt C H a ns) : TabAt C H2 a ns := by
  obtain ⟨dx, t, h1, h2⟩ := h
  exact ⟨dx, t, e _ _ h1, e _ _ h2⟩
/-- a tracked list (false) or tuple (true) -/
def SqH (H : Hp) (p : Bool × Addr) (xs : List V) : Prop := if p.1 = true then H p.2 = some (.tup xs) else H p.2 = some (.lst xs)
theorem SqH.sq {K : PySem.W.Frag} {H : Hp} {p : Bool × Addr} {xs : List V} (h : SqH H p xs) : CZ.SqK K H p xs := by
  obtain ⟨b, a⟩ := p
  cases b
  · exact SqL.of (show H a = some (.lst xs) from h)
  · exact SqT.of (show H a = some (.tup xs) from h)
theorem SqH.mono {H H2 : Hp} {p : Bool × Addr} {xs : List V} (e : Ex H H2) (h : SqH H p xs) : SqH H2 p xs := by
  obtain ⟨b, a⟩ := p
  cases b
  · exact e _ _ (show H a = some (.lst xs) from h)
  · exact e _ _ (show H a = some (.tup xs) from h)
theorem SqH.ty {K : PySem.W.Frag} {H : Hp} {p : Bool × Addr} {xs : List V} (h : SqH H p xs) : TyX K H (.ref p.2) (.type (if p.1 = true then "tuple" else "list")) := by
  obtain ⟨b, a⟩ := p
  cases b
  · exact .base (.lst (show H a = some (.lst xs) from h))
  · exact .base (.tup (show H a = some (.tup xs) from h))
/-- sizes of a table -/
structure SzOk (ns : List Int) : Prop where
  pos : ns ≠ []
  le : ns.length ≤ 4
  one : ∀ n ∈ ns, 1 ≤ n
theorem len_line {α : Type} {l : List α} (h : l.length ≤ 4) : l.length ≤ sizeLine := Nat.le_trans h (by decide)
theorem take_lt {α : Type} {l : List α} (h : l.length ≤ 1000) (i : Nat) : (l.take i).length < sizeLine := by
  rw [List.length_take]
  exact Nat.lt_of_le_of_lt (Nat.le_trans (Nat.min_le_right _ _) h) (by decide)
theorem take_more {α : Type} {l : List α} {i : Nat} {x : α} (h : l[i]? = some x) : l.take (i + 1) = l.take i ++ [x] := by
  rw [List.take_add_one, h]
  rfl
theorem kit_seq {K : PySem.W.Frag} (b : Bool) : PySem.W.kitAny K (.type (if b = true then "tuple" else "list")) [.type "list", .type "tuple"] = some true := by
  cases b
  · exact kitAny_cons (b := true) (kit_ty (by decide +kernel)) (fun h => nomatch h) (fun _ => rfl)
  · exact kitAny_cons (b := false) (kit_ty (by decide +kernel)) (fun _ => kitAny_cons (b := true) (kit_ty (by decide +kernel)) (fun h => nomatch h) (fun _ => rfl)) (fun h => nomatch h)
theorem sq_or {K : PySem.W.Frag} {H : Hp} {b : Bool} {a : Addr} {xs : List V} (h : SqH H (b, a) xs) : SqL K H a xs ∨ SqT K H a xs := by
  cases b
  · exact .inl (SqL.of (show H a = some (.lst xs) from h))
  · exact .inr (SqT.of (show H a = some (.tup xs) from h))
section
variable {P : Program} {w : World} {K : PySem.W.Frag} {mg : Str → Option Value} {base : Heap}
def sp_Table_init (C : Addr) : Sp := fun vs H Q _ => ∃ (p dx : Addr) (q : Bool × Addr) (ns : List Int), vs = [.ref p, .ref q.2] ∧ H p = some (.ins C dx []) ∧ SqH H q (ns.map V.int) ∧ SzOk ns ∧
  ∀ H2, (∀ c o, c ≠ p → H c = some o → H2 c = some o) → (∃ t, H2 p = some (.ins C dx [("rings", .ref t)]) ∧ H2 t = some (.tup (ns.map V.int))) → Q .non H2
theorem ok_Table_init (T : TX K mg) : FnOk P w K mg base CX0 3 T.f_Table_init T.fd_Table_init ["self", "rings"] (sp_Table_init T.C_Table) := by
  refine T.F_Table_init.ok sc_Table_init (fun vs H Q E h => ?_) (fun cdv A outer s H vs Q E hr h => ?_)
  · obtain ⟨p, dx, q, ns, rfl, _⟩ := h
    rfl
  · obtain ⟨p, dx, ⟨b, a⟩, ns, rfl, hp, hq, ok, k⟩ := h
    refine ⟨_, (pss_cons (ps_if (PW.pt (pw_or (pt_not (pt_val (pe_callB call_isiT (by rfl) T.z_isinstance (by decide +kernel) (pa_cons (pv 1) (pa_cons (pe_tup (pa_cons (pe_bltn (v := .ty "list") rfl T.z_list (by decide +kernel) rfl) (pa_cons (pe_bltn (v := .ty "tuple") rfl T.z_tuple (by decide +kernel) rfl) pa_nil))) pa_nil))))) (pw_or1 (pt_not (pt_chain op_le op_le pe_int (pe_callB call_len_seq (by rfl) T.z_len (by decide +kernel) (pa_cons (pv 1) pa_nil)) (pe_glob (v := .int 4) rfl T.c_MAX_RINGS ⟨_, rfl⟩)))))) pss_never pss_nil) (pss_cons (ps_if (pt_not (pt_val (pe_callB (cr_all rfl) (by rfl) T.z_all (by decide +kernel) (pa_cons (pe_lc (own := [("size", 2)]) (g := (gName 2)) rfl sc_Table_init.nd (pi_seq (pv 1)) (blkOk_by (N := N_Table_init) (sc := defScope s_Table_init) (by decide +kernel)) (fun _ _ _ _ _ => (pg_name (i := 2) sc_Table_init.nd rfl (Or.inl rfl))) (fun _ _ _ _ _ => pts_nil) (fun _ _ _ _ _ => (pe_call (ok_is_at_least T) hr rfl T.m_is_at_least T.F_is_at_least.kp T.b_is_at_least .nil pass0 (pa_cons (pv 2) (pa_cons pe_int pa_nil))))) pa_nil)))) pss_never pss_nil) (pss_one (ps_fld (pv 0) (pe_callTy call_tuple_of (by rfl) T.z_tuple (by decide +kernel) (pa_cons (pv 1) pa_nil)) rfl)))), ?_⟩
    refine ⟨_, rfl, by show 2 ≤ sizeLine; decide, fun y hy => ?_⟩
    refine ⟨_, y, _, _, _, true, rfl, upd_same, .cons (.ty _) (.cons (.ty _) .nil), (hq.mono (exn hy)).ty, kit_seq b, _, rfl, iteF ?_⟩
    have q1 := hq.mono (exn (o := .tup [.ty "list", .ty "tuple"]) hy)
    have lp : 1 ≤ ns.length := List.length_pos_iff.mpr ok.pos
    have l4 := ok.le
    refine ⟨_, rfl, a, _, rfl, sq_or q1, _, _, rfl, rfl, _, rfl, itt (decide_eq_true (by rw [List.length_map]; omega)) ?_⟩
    refine ⟨_, _, rfl, rfl, _, rfl, itf ?_ ?_⟩
    · rw [List.length_map, decide_eq_true (by omega)]
      rfl
    · have all1 : (ns.map fun n => atLeast (some n) 1).all id = true := by
        rw [List.all_map, List.all_eq_true]
        exact fun n hn => decide_eq_true (ok.one n hn)
      refine ⟨_, rfl, (b, a), rfl, ⟨_, q1.sq⟩, fun D hD => ?_⟩
      refine lc_vals walk_seq ((ns.map fun n => atLeast (some n) 1).map V.bl) (by simp) (by rw [List.length_map]; omega) hD (fun H3 e => (q1.mono e).sq) ?_ gmono_name ?_
      · intro i x H3 H4 R hi e yy kk
        obtain ⟨rfl, hx⟩ := yy
        obtain ⟨n, hn, rfl⟩ := map_get hx
        exact ⟨rfl, _, rfl, _, some n, 1, rfl, rfl, kk _ _ exr (by simp [hn])⟩
      · intro H3 e hD3
        have hp3 := e _ _ (exn hy _ _ hp)
        have q3 := q1.mono e
        have ex3 : Ex H H3 := fun c o z => e _ _ (exn hy _ _ z)
        refine ⟨D, _, rfl, SqL.of hD3, _, rfl, itf (by rw [all1]; rfl) ?_⟩
        cases b with
        | false =>
          refine ⟨_, rfl, a, _, rfl, .inl ⟨SqL.of q3, fun l hl => ?_⟩⟩
          have npl : p ≠ l := ne_of_none hp3 hl
          refine ⟨_, rfl, p, _, dx, _, rfl, (by rw [upd_ne npl]; exact hp3), T.cl_Table, T.n_Table_rings, (by show 0 < 1000; decide), ?_⟩
          refine k _ (fun c o hc z => ?_) ⟨l, upd_same, by rw [upd_ne npl.symm, upd_same]⟩
          rw [upd_ne hc, upd_ne (ne_of_none (ex3 c o z) hl)]
          exact ex3 c o z
        | true =>
          refine ⟨_, rfl, a, _, rfl, .inr ⟨SqT.of q3, ?_⟩⟩
          refine ⟨_, rfl, p, _, dx, _, rfl, hp3, T.cl_Table, T.n_Table_rings, (by show 0 < 1000; decide), ?_⟩
          have q3 : H3 a = some (.tup (ns.map V.int)) := q3
          refine k _ (fun c o hc z => ?_) ⟨a, upd_same, by rw [upd_ne (ne_of q3 hp3 (by intro z; cases z))]; exact q3⟩
          rw [upd_ne hc]
          exact ex3 c o z
end

theorem TyX.mono {K : PySem.W.Frag} {H H2 : Hp} {x : V} {t : Value} (e : Ex H H2) (h : TyX K H x t) : TyX K H2 x t := by
  cases h with
  | base h =>
    cases h with
    | non => exact .base .non
    | bl x => exact .base (.bl x)
    | int x => exact .base (.int x)
    | str x => exact .base (.str x)
    | flt x => exact .base (.flt x)
    | lst h => exact .base (.lst (e _ _ h))
    | frz h => exact .base (.frz (e _ _ h))
    | tup h => exact .base (.tup (e _ _ h))
    | dK h => exact .base (.dK (e _ _ h))
    | dT h => exact .base (.dT (e _ _ h))
    | ins h a b c d f => exact .base (.ins (e _ _ h) a b c d f)
  | byt b => exact .byt b
  | set h => exact .set (e _ _ h)
  | kList a b => exact .kList a b
  | kTuple a b => exact .kTuple a b
  | kDict a b => exact .kDict a b
  | fTuple h => exact .fTuple (e _ _ h)
  | fDict h => exact .fDict (e _ _ h)
theorem IsI.mono {K : PySem.W.Frag} {H H2 : Hp} {x : V} {o : Option Int} (e : Ex H H2) (h : IsI K H x o) : IsI K H2 x o := by
  cases o with
  | some i => exact h
  | none =>
    obtain ⟨t, b1, b2, ht, r⟩ := h
    exact ⟨t, b1, b2, TyX.mono e ht, r⟩
theorem paired_get {α β : Type} {R : α → β → Prop} : ∀ {l : List α} {m : List β} {i : Nat} {x : α}, Paired R l m → l[i]? = some x → ∃ y, m[i]? = some y ∧ R x y
  | _, _, _, _, .nil, h => by simp at h
  | _, _, 0, _, .cons r _, h => by simp at h; subst h; exact ⟨_, rfl, r⟩
  | _, _, i + 1, x, .cons _ t, h => by
    obtain ⟨y, h1, h2⟩ := paired_get (i := i) (x := x) t (by simpa using h)
    exact ⟨y, by simpa using h1, h2⟩
/-- what an argument is as a tuple: its items, as ints or not -/
def TupA (K : PySem.W.Frag) (H : Hp) (x : V) : Option (List (Option Int)) → Prop
  | some os => ∃ a xs, x = .ref a ∧ H a = some (.tup xs) ∧ xs.length ≤ 1000 ∧ Paired (IsI K H) xs os
  | none => ∃ t, TyX K H x t ∧ PySem.W.kitOne K t (.type "tuple") = some false
theorem paired_ints {K : PySem.W.Frag} {H : Hp} : ∀ ps : List Int, Paired (IsI K H) (ps.map V.int) (ps.map some)
  | [] => .nil
  | p :: ps => .cons rfl (paired_ints ps)
theorem TupA.ints {K : PySem.W.Frag} {H : Hp} {a : Addr} {ps : List Int} (h : H a = some (.tup (ps.map V.int))) (hl : ps.length ≤ 1000) : TupA K H (.ref a) (some (ps.map some)) :=
  ⟨a, _, rfl, h, by rw [List.length_map]; exact hl, paired_ints ps⟩
def isSeatO (ns : List Int) : Option (List (Option Int)) → Bool
  | some os => decide (os.length = ns.length) && (List.zipWith (fun o n => between o 0 (n - 1)) os ns).all id
  | none => false
def isCallO (ns : List Int) : Option (List (Option Int)) → Bool
  | some os => decide (os.length = ns.length) && (os.map Option.isSome).all id
  | none => false
/-- a seat: one place a ring -/
def SeatOk : List Int → List Int → Prop
  | n :: ns, p :: ps => (0 ≤ p ∧ p < n) ∧ SeatOk ns ps
  | [], [] => True
  | _, _ => False
theorem SeatOk.len : ∀ {ns ps : List Int}, SeatOk ns ps → ps.length = ns.length
  | [], [], _ => rfl
  | _ :: _, _ :: _, h => by
    show _ + 1 = _ + 1
    rw [SeatOk.len h.2]
theorem seat_is : ∀ {ns ps : List Int}, SeatOk ns ps → (List.zipWith (fun o n => between o 0 (n - 1)) (ps.map some) ns).all id = true
  | [], [], _ => rfl
  | n :: ns, p :: ps, h => by
    have ih := seat_is h.2
    show (between (some p) 0 (n - 1) && _) = true
    rw [Bool.and_eq_true]
    refine ⟨?_, ih⟩
    show (decide (0 ≤ p) && decide (p ≤ n - 1)) = true
    rw [decide_eq_true h.1.1, decide_eq_true (by have := h.1.2; omega)]
    rfl
theorem isSeat_ok {ns ps : List Int} (h : SeatOk ns ps) : isSeatO ns (some (ps.map some)) = true := by
  show (decide ((ps.map some).length = ns.length) && _) = true
  rw [Bool.and_eq_true]
  exact ⟨decide_eq_true (by rw [List.length_map]; exact h.len), seat_is h⟩
theorem isCall_ok {ns cs : List Int} (h : cs.length = ns.length) : isCallO ns (some (cs.map some)) = true := by
  show (decide ((cs.map some).length = ns.length) && _) = true
  rw [Bool.and_eq_true]
  refine ⟨decide_eq_true (by rw [List.length_map]; exact h), ?_⟩
  rw [List.map_map, List.all_map, List.all_eq_true]
  exact fun _ _ => rfl
/-- a step by a multiple of a call -/
def shiftL : List Int → List Int → List Int → Int → List Int
  | n :: ns, p :: ps, c :: cs, f => (p + f * c) % n :: shiftL ns ps cs f
  | _, _, _, _ => []
theorem shift_len : ∀ {ns ps cs : List Int} {f : Int}, ps.length = ns.length → cs.length = ns.length → (shiftL ns ps cs f).length = ns.length
  | [], _, _, _, _, _ => by simp [shiftL]
  | _ :: ns, p :: ps, c :: cs, f, h1, h2 => by
    have ih := @shift_len ns ps cs f (by simpa using h1) (by simpa using h2)
    show (shiftL ns ps cs f).length + 1 = _ + 1
    rw [ih]
theorem shift_get : ∀ {ns ps cs : List Int} {f : Int} {i : Nat} {n p c : Int}, ns[i]? = some n → ps[i]? = some p → cs[i]? = some c → (shiftL ns ps cs f)[i]? = some ((p + f * c) % n)
  | n :: ns, p :: ps, c :: cs, f, 0, _, _, _, h1, h2, h3 => by
    simp at h1 h2 h3
    subst h1 h2 h3
    rfl
  | n :: ns, p :: ps, c :: cs, f, i + 1, a, b, d, h1, h2, h3 => by
    have ih := @shift_get ns ps cs f i a b d (by simpa using h1) (by simpa using h2) (by simpa using h3)
    show (shiftL ns ps cs f)[i]? = _
    exact ih
  | [], _, _, _, i, _, _, _, h1, _, _ => by simp at h1
  | _ :: _, [], _, _, i, _, _, _, _, h2, _ => by simp at h2
  | _ :: _, _ :: _, [], _, i, _, _, _, _, _, h3 => by simp at h3
theorem mul_ok {i j : Int} (h : (-(2 ^ 64) < i ∧ i < 2 ^ 64) ∨ (-(2 ^ 64) < j ∧ j < 2 ^ 64)) : IntMulOk i j := CMul.ok h
theorem zip_get {α β γ : Type} {f : α → β → γ} {l : List α} {m : List β} {i : Nat} {x : α} {y : β} (h1 : l[i]? = some x) (h2 : m[i]? = some y) : (List.zipWith f l m)[i]? = some (f x y) := by
  rw [List.getElem?_zipWith, h1, h2]
section
variable {P : Program} {w : World} {K : PySem.W.Frag} {mg : Str → Option Value} {base : Heap}
def sp_Table_sizes (C : Addr) : Sp := fun vs H Q _ => ∃ (a dx t : Addr), vs = [.ref a] ∧ H a = some (.ins C dx [("rings", .ref t)]) ∧ Q (.ref t) H
theorem ok_Table_sizes (T : TX K mg) : FnOk P w K mg base CX0 1 T.f_Table_sizes T.fd_Table_sizes ["self"] (sp_Table_sizes T.C_Table) := by
  refine T.F_Table_sizes.ok sc_Table_sizes (fun vs H Q E h => ?_) (fun cdv A outer s H vs Q E hr h => ?_)
  · obtain ⟨a, dx, t, rfl, _⟩ := h
    rfl
  · obtain ⟨a, dx, t, rfl, h1, k⟩ := h
    exact ⟨_, (pss_one (ps_ret (pe_fld (pv 0) rfl))), ⟨_, rfl, a, _, dx, _, _, rfl, h1, T.cl_Table, T.n_Table_rings, rfl, k⟩⟩
def sp_Table_is_seat (K : PySem.W.Frag) (C : Addr) : Sp := fun vs H Q _ => ∃ (a : Addr) (x : V) (ns : List Int) (ot : Option (List (Option Int))), vs = [.ref a, x] ∧ TabAt C H a ns ∧ ns.length ≤ 4 ∧ TupA K H x ot ∧ ∀ H2, Ex H H2 → Q (.bl (isSeatO ns ot)) H2
theorem ok_Table_is_seat (T : TX K mg) : FnOk P w K mg base CX0 3 T.f_Table_is_seat T.fd_Table_is_seat ["self", "value"] (sp_Table_is_seat K T.C_Table) := by
  refine T.F_Table_is_seat.ok sc_Table_is_seat (fun vs H Q E h => ?_) (fun cdv A outer s H vs Q E hr h => ?_)
  · obtain ⟨a, x, ns, ot, rfl, _⟩ := h
    rfl
  · obtain ⟨a, x, ns, ot, rfl, ⟨dx, t, h1, h2⟩, l4, hx, k⟩ := h
    refine ⟨_, (pss_cons (ps_if (PW.pt (pw_or (pt_not (pt_val (pe_callB call_isi (by rfl) T.z_isinstance (by decide +kernel) (pa_cons (pv 1) (pa_cons (pe_bltn (v := .ty "tuple") rfl T.z_tuple (by decide +kernel) rfl) pa_nil))))) (pw_or1 (pt_cmpR op_ne (pe_callB call_len_seq (by rfl) T.z_len (by decide +kernel) (pa_cons (pv 1) pa_nil)) (pe_callB call_len_seq (by rfl) T.z_len (by decide +kernel) (pa_cons (pe_fld (pv 0) rfl) pa_nil)) (nomark _))))) (pss_one (ps_ret pe_bl)) pss_nil) (pss_one (ps_ret (pe_callB (cr_all rfl) (by rfl) T.z_all (by decide +kernel) (pa_cons (pe_lc (own := [("place", 2), ("size", 3)]) (g := (gTup K 2 (gCons (gName 2) (gCons (gName 3) gNil)))) rfl sc_Table_is_seat.nd (CZ.pi_z2s (fl := [true, true]) rfl (by rfl) T.z_zip (pa_cons (pv 1) (pa_cons (pe_fld (pv 0) rfl) pa_nil))) (blkOk_by (N := N_Table_is_seat) (sc := defScope s_Table_is_seat) (by decide +kernel)) (fun _ _ _ _ _ => (pg_tup rfl (pgs_cons (pg_name (i := 2) sc_Table_is_seat.nd rfl (Or.inl rfl)) (pgs_cons (pg_name (i := 3) sc_Table_is_seat.nd rfl (Or.inl rfl)) pgs_nil)))) (fun _ _ _ _ _ => pts_nil) (fun _ _ _ _ _ => (pe_call (ok_is_between T) hr rfl T.m_is_between T.F_is_between.kp T.b_is_between .nil pass0 (pa_cons (pv 2) (pa_cons pe_int (pa_cons (pe_op op_sub (pv 3) pe_int) pa_nil)))))) pa_nil))))), ?_⟩
    cases ot with
    | none =>
      obtain ⟨ty, hty, hk⟩ := hx
      exact ⟨_, rfl, _, _, _, _, false, rfl, .ty _, hty, hk, _, rfl, k _ exr⟩
    | some os =>
      obtain ⟨v, xs, rfl, hv, hl, hp⟩ := hx
      have lo : xs.length = os.length := Paired.length hp
      refine ⟨_, rfl, _, _, _, _, true, rfl, .ty _, .base (.tup hv), kit_ty (by decide +kernel), _, rfl, iteF ?_⟩
      refine ⟨_, rfl, v, _, rfl, .inr (SqT.of hv), _, rfl, a, _, dx, _, _, rfl, h1, T.cl_Table, T.n_Table_rings, rfl, t, _, rfl, .inr (SqT.of h2), rfl, _, rfl, ?_⟩
      by_cases c : os.length = ns.length
      · refine itf ?_ ?_
        · rw [List.length_map, lo, c]
          simp
        · refine ⟨_, rfl, _, rfl, a, _, dx, _, _, rfl, h1, T.cl_Table, T.n_Table_rings, rfl, [v, t], rfl, rfl, ?_, fun D hD => ?_⟩
          · intro p hp2
            rcases List.mem_cons.mp (show p ∈ [(true, v), (true, t)] from hp2) with e | e
            · rw [e]; exact ⟨xs, SqT.of hv⟩
            · rw [List.mem_singleton.mp e]; exact ⟨_, SqT.of h2⟩
          · have lv : (List.zipWith (fun o n => between o 0 (n - 1)) os ns).length = ns.length := by rw [List.length_zipWith, c, Nat.min_self]
            refine lc_vals (CZ.walk_rows (xss := [xs, ns.map V.int]) (n := ns.length) ?_) ((List.zipWith (fun o n => between o 0 (n - 1)) os ns).map V.bl) (by rw [List.length_map, lv]) (by omega) hD (fun H3 e => .cons (SqT.of (e _ _ hv)) (.cons (SqT.of (e _ _ h2)) .nil)) ?_ (gmono_tup (gmono_cons gmono_name (gmono_cons gmono_name gmono_nil))) ?_
            · intro ys hy
              rcases List.mem_cons.mp hy with e | e
              · rw [e, lo, c]
              · rw [List.mem_singleton.mp e, List.length_map]
            · intro i y H3 H4 R hi e yy kk
              obtain ⟨Ta, vs, rfl, hT, rfl, hr2⟩ := yy
              cases hr2 with
              | cons r1 hr2 =>
                cases hr2 with
                | cons r2 hr2 =>
                  cases hr2
                  obtain ⟨n, hn, rfl⟩ := map_get r2
                  obtain ⟨o, ho, hi2⟩ := paired_get hp r1
                  refine ⟨Ta, _, rfl, SqT.of upd_same, rfl, _, _, rfl, _, _, rfl, rfl, rfl, ?_⟩
                  refine ⟨_, rfl, _, rfl, _, _, rfl, rfl, _, o, 0, n - 1, rfl, hi2.mono (fun b u z => exn hT b u (e b u z)), ?_⟩
                  refine kk _ _ (exn hT) ?_
                  rw [List.getElem?_map, zip_get ho hn]
                  rfl
            · intro H3 e hD3
              refine ⟨D, _, rfl, SqL.of hD3, ?_⟩
              have es : isSeatO ns (some os) = (List.zipWith (fun o n => between o 0 (n - 1)) os ns).all id := by
                show (decide _ && _) = _
                rw [decide_eq_true c, Bool.true_and]
              rw [← es]
              exact k _ e
      · refine itt ?_ ?_
        · rw [List.length_map, lo]
          simp
          omega
        · have es : isSeatO ns (some os) = false := by
            show (decide _ && _) = _
            rw [decide_eq_false c, Bool.false_and]
          have := k _ exr
          rw [es] at this
          exact this
end

/-- what an argument is as a text -/
def StrA (K : PySem.W.Frag) (H : Hp) (x : V) : Option Str → Prop
  | some z => x = .str z
  | none => ∃ t, TyX K H x t ∧ PySem.W.kitOne K t (.type "str") = some false
def isDirO : Option Str → Bool
  | some z => decide (z = "forward") || decide (z = "backward")
  | none => false
theorem tup_ge {xs : List V} (h : xs.length ≤ 4) : xs.length ≤ sizeLine := Nat.le_trans h (by decide)
section
variable {P : Program} {w : World} {K : PySem.W.Frag} {mg : Str → Option Value} {base : Heap}
def sp_require_seat (K : PySem.W.Frag) (C : Addr) : Sp := fun vs H Q _ => ∃ (a : Addr) (x : V) (ns : List Int) (ot : Option (List (Option Int))), vs = [.ref a, x] ∧ TabAt C H a ns ∧ ns.length ≤ 4 ∧ TupA K H x ot ∧ isSeatO ns ot = true ∧ ∀ H2, Ex H H2 → Q .non H2
theorem ok_require_seat (T : TX K mg) : FnOk P w K mg base CX0 4 T.f_require_seat T.fd_require_seat ["table", "seat"] (sp_require_seat K T.C_Table) := by
  refine T.F_require_seat.ok sc_require_seat (fun vs H Q E h => ?_) (fun cdv A outer s H vs Q E hr h => ?_)
  · obtain ⟨a, x, ns, ot, rfl, _⟩ := h
    rfl
  · obtain ⟨a, x, ns, ot, rfl, ht, l4, hx, ok, k⟩ := h
    refine ⟨_, (pss_one (ps_if (pt_not (pt_val (pe_meth (pv 0) T.cl_Table T.me_Table_is_seat (ok_Table_is_seat T) hr T.b_Table_is_seat .nil pass0 (pa_cons (pv 1) pa_nil)))) pss_never pss_nil)), ?_⟩
    obtain ⟨dx, t, h1, h2⟩ := id ht
    refine ⟨_, rfl, a, dx, _, rfl, h1, rfl, _, rfl, a, x, ns, ot, rfl, ht, l4, hx, fun H2 e => ⟨_, rfl, itf (by rw [ok]; rfl) (k _ e)⟩⟩
end

/-- all but what is at s stays -/
def XB (s : Addr) (H H2 : Hp) : Prop := ∀ c o, c ≠ s → H c = some o → H2 c = some o
theorem XB.refl {s : Addr} {H : Hp} : XB s H H := fun _ _ _ h => h
theorem XB.trans {s : Addr} {H H1 H2 : Hp} (a : XB s H H1) (b : XB s H1 H2) : XB s H H2 := fun c o n h => b c o n (a c o n h)
theorem XB.upd {s : Addr} {H : Hp} {o : HO} : XB s H (upd H s o) := fun c u n h => by rw [upd_ne n]; exact h
theorem XB.of {s : Addr} {H H2 : Hp} (e : Ex H H2) : XB s H H2 := fun c o _ h => e c o h
theorem XB.back {s : Addr} {H H2 : Hp} (e : XB s H H2) {p : Addr} (hn : p ≠ s) (h : H2 p = none) : H p = none := by
  cases q : H p with
  | none => rfl
  | some o => rw [e p o hn q] at h; cases h
theorem mod_lo {i n : Int} (h : 0 < n) : 0 ≤ i % n := Int.emod_nonneg i (by omega)
theorem mod_hi {i n : Int} (h : 0 < n) : i % n < n := Int.emod_lt_of_pos i h

/-! ### data -/
mutual
theorem eqv_refl : ∀ d : PyData, d.canLay0 = true → PyData.eqv d d = true
  | .none, _ => by simp only [PyData.eqv]
  | .bool b, _ => by simp only [PyData.eqv, beq_self_eq_true]
  | .int i, _ => by simp only [PyData.eqv, beq_self_eq_true]
  | .str x, _ => by simp only [PyData.eqv, beq_self_eq_true]
  | .list xs, h => by
    simp only [PyData.canLay0] at h
    simp only [PyData.eqv]
    exact eqvAll_refl xs h
  | .tuple xs, h => by
    simp only [PyData.canLay0] at h
    simp only [PyData.eqv]
    exact eqvAll_refl xs h
  | .dict _, h => by simp [PyData.canLay0] at h
theorem eqvAll_refl : ∀ ds : List PyData, PyData.canLayAll0 ds = true → PyData.eqvAll ds ds = true
  | [], _ => by simp only [PyData.eqvAll]
  | d :: ds, h => by
    simp only [PyData.canLayAll0, Bool.and_eq_true] at h
    simp only [PyData.eqvAll, Bool.and_eq_true]
    exact ⟨eqv_refl d h.1, eqvAll_refl ds h.2⟩
end
/-- data of a depth below n, in a form that may be laid -/
def Sh (n : Nat) (d : PyData) : Prop := d.canLay0 = true ∧ d.depth ≤ n
theorem Sh.ok {d : PyData} (h : Sh 60 d) : SeqAt.shaped d = true := by
  unfold SeqAt.shaped
  rw [h.1, decide_eq_true (Nat.le_trans h.2 (by decide))]
  rfl
theorem sh_int {n : Nat} (i : Int) : Sh n (.int i) := ⟨by simp only [PyData.canLay0], by simp only [PyData.depth]; omega⟩
theorem sh_bool {n : Nat} (i : Bool) : Sh n (.bool i) := ⟨by simp only [PyData.canLay0], by simp only [PyData.depth]; omega⟩
theorem sh_none {n : Nat} : Sh n .none := ⟨by simp only [PyData.canLay0], by simp only [PyData.depth]; omega⟩
theorem sh_all {n : Nat} : ∀ {ds : List PyData}, (∀ d ∈ ds, Sh n d) → PyData.canLayAll0 ds = true ∧ PyData.depthAll ds ≤ n
  | [], _ => ⟨by simp only [PyData.canLayAll0], by simp only [PyData.depthAll]; omega⟩
  | d :: ds, h => by
    obtain ⟨h1, h2⟩ := h d List.mem_cons_self
    obtain ⟨g1, g2⟩ := sh_all fun x hx => h x (List.mem_cons_of_mem _ hx)
    refine ⟨by simp only [PyData.canLayAll0, h1, g1, Bool.and_self], ?_⟩
    simp only [PyData.depthAll]
    omega
theorem sh_tuple {n : Nat} {ds : List PyData} (h : ∀ d ∈ ds, Sh n d) : Sh (n + 1) (.tuple ds) := by
  obtain ⟨h1, h2⟩ := sh_all h
  exact ⟨by simp only [PyData.canLay0, h1], by simp only [PyData.depth]; omega⟩
theorem sh_list {n : Nat} {ds : List PyData} (h : ∀ d ∈ ds, Sh n d) : Sh (n + 1) (.list ds) := by
  obtain ⟨h1, h2⟩ := sh_all h
  exact ⟨by simp only [PyData.canLay0, h1], by simp only [PyData.depth]; omega⟩
theorem Sh.up {n m : Nat} {d : PyData} (h : Sh n d) (e : n ≤ m) : Sh m d := ⟨h.1, Nat.le_trans h.2 e⟩
/-- a tuple of ints -/
abbrev iT (ns : List Int) : PyData := .tuple (ns.map PyData.int)
theorem sh_ints {n : Nat} (ns : List Int) : Sh (n + 1) (iT ns) := sh_tuple fun d hd => by
  obtain ⟨i, _, rfl⟩ := List.mem_map.mp hd
  exact sh_int i
theorem dpall_ints {K : PySem.W.Frag} {H : Hp} : ∀ ns : List Int, DpAll K H (ns.map V.int) (ns.map PyData.int)
  | [] => .nil
  | n :: ns => .cons (.int n) (dpall_ints ns)
theorem dp_ints {K : PySem.W.Frag} {H : Hp} {a : Addr} {ns : List Int} (h : H a = some (.tup (ns.map V.int))) : Dp K H (.ref a) (iT ns) := .tup (SqT.of h) (dpall_ints ns)
theorem eqvAll_ints : ∀ ns ms : List Int, PyData.eqvAll (ns.map PyData.int) (ms.map PyData.int) = decide (ns = ms)
  | [], [] => by simp [PyData.eqvAll]
  | [], _ :: _ => by simp [PyData.eqvAll]
  | _ :: _, [] => by simp [PyData.eqvAll]
  | n :: ns, m :: ms => by
    have ih := eqvAll_ints ns ms
    simp only [List.map_cons, PyData.eqvAll, PyData.eqv, ih]
    by_cases h : n = m
    · subst h
      simp
    · have : (n == m) = false := by simpa using h
      rw [this]
      simp [h]
theorem eqv_ints (ns ms : List Int) : PyData.eqv (iT ns) (iT ms) = decide (ns = ms) := by
  simp only [PyData.eqv]
  exact eqvAll_ints ns ms
theorem sh_pair {n : Nat} {a b : PyData} (ha : Sh n a) (hb : Sh n b) : Sh (n + 1) (.tuple [a, b]) := sh_tuple fun d hd => by
  rcases List.mem_cons.mp hd with e | e
  · rw [e]; exact ha
  · rw [List.mem_singleton.mp e]; exact hb
theorem eqv_same {d : PyData} (h : Sh 60 d) : (!PyData.eqv d d) = false := by rw [eqv_refl d h.1]; rfl

/-! ### zip's rows, nested comprehensions, lists of tuples of ints -/
theorem yrow2 {xs ys : List V} {i : Nat} {H H2 : Hp} {x : V} (h : CZ.YRow [xs, ys] i H x H2) : ∃ (Ta : Addr) (a b : V), x = .ref Ta ∧ H Ta = none ∧ H2 = upd H Ta (.tup [a, b]) ∧ xs[i]? = some a ∧ ys[i]? = some b := by
  obtain ⟨Ta, vs, rfl, hT, rfl, r⟩ := h
  cases r with
  | cons r1 r =>
    cases r with
    | cons r2 r =>
      cases r
      exact ⟨Ta, _, _, rfl, hT, rfl, r1, r2⟩
theorem yrow3 {xs ys zs : List V} {i : Nat} {H H2 : Hp} {x : V} (h : CZ.YRow [xs, ys, zs] i H x H2) : ∃ (Ta : Addr) (a b c : V), x = .ref Ta ∧ H Ta = none ∧ H2 = upd H Ta (.tup [a, b, c]) ∧ xs[i]? = some a ∧ ys[i]? = some b ∧ zs[i]? = some c := by
  obtain ⟨Ta, vs, rfl, hT, rfl, r⟩ := h
  cases r with
  | cons r1 r =>
    cases r with
    | cons r2 r =>
      cases r with
      | cons r3 r =>
        cases r
        exact ⟨Ta, _, _, _, rfl, hT, rfl, r1, r2, r3⟩
theorem yints2 {xs ys : List Int} {i : Nat} {H H2 : Hp} {x : V} (h : CZ.YRow [xs.map V.int, ys.map V.int] i H x H2) : ∃ (Ta : Addr) (a b : Int), x = .ref Ta ∧ H Ta = none ∧ H2 = upd H Ta (.tup [.int a, .int b]) ∧ xs[i]? = some a ∧ ys[i]? = some b := by
  obtain ⟨Ta, a, b, rfl, hT, rfl, r1, r2⟩ := yrow2 h
  obtain ⟨p, hp, rfl⟩ := map_get r1
  obtain ⟨q, hq, rfl⟩ := map_get r2
  exact ⟨Ta, p, q, rfl, hT, rfl, hp, hq⟩
theorem yints3 {xs ys zs : List Int} {i : Nat} {H H2 : Hp} {x : V} (h : CZ.YRow [xs.map V.int, ys.map V.int, zs.map V.int] i H x H2) : ∃ (Ta : Addr) (a b c : Int), x = .ref Ta ∧ H Ta = none ∧ H2 = upd H Ta (.tup [.int a, .int b, .int c]) ∧ xs[i]? = some a ∧ ys[i]? = some b ∧ zs[i]? = some c := by
  obtain ⟨Ta, a, b, c, rfl, hT, rfl, r1, r2, r3⟩ := yrow3 h
  obtain ⟨p, hp, rfl⟩ := map_get r1
  obtain ⟨q, hq, rfl⟩ := map_get r2
  obtain ⟨r, hr, rfl⟩ := map_get r3
  exact ⟨Ta, p, q, r, rfl, hT, rfl, hp, hq, hr⟩
theorem all2 {K : PySem.W.Frag} {H : Hp} {p q : Bool × Addr} {xs ys : List V} (hp : CZ.SqK K H p xs) (hq : CZ.SqK K H q ys) : ∀ r ∈ [p, q], ∃ zs, CZ.SqK K H r zs := fun r hr => by
  rcases List.mem_cons.mp hr with e | hr
  · rw [e]; exact ⟨_, hp⟩
  · rw [List.mem_singleton.mp hr]; exact ⟨_, hq⟩
theorem all3 {K : PySem.W.Frag} {H : Hp} {p q t : Bool × Addr} {xs ys us : List V} (hp : CZ.SqK K H p xs) (hq : CZ.SqK K H q ys) (ht : CZ.SqK K H t us) : ∀ r ∈ [p, q, t], ∃ zs, CZ.SqK K H r zs := fun r hr => by
  rcases List.mem_cons.mp hr with e | hr
  · rw [e]; exact ⟨_, hp⟩
  · exact all2 hq ht r hr
theorem lens2 {xs ys : List V} {n : Nat} (h1 : xs.length = n) (h2 : ys.length = n) : ∀ zs ∈ [xs, ys], zs.length = n := fun zs hz => by
  rcases List.mem_cons.mp hz with e | hz
  · rw [e]; exact h1
  · rw [List.mem_singleton.mp hz]; exact h2
theorem lens3 {xs ys us : List V} {n : Nat} (h1 : xs.length = n) (h2 : ys.length = n) (h3 : us.length = n) : ∀ zs ∈ [xs, ys, us], zs.length = n := fun zs hz => by
  rcases List.mem_cons.mp hz with e | hz
  · rw [e]; exact h1
  · exact lens2 h2 h3 zs hz
theorem sqT {K : PySem.W.Frag} {H : Hp} {a : Addr} {xs : List V} (h : H a = some (.tup xs)) : CZ.SqK K H (true, a) xs := SqT.of h
theorem sqL {K : PySem.W.Frag} {H : Hp} {a : Addr} {xs : List V} (h : H a = some (.lst xs)) : CZ.SqK K H (false, a) xs := SqL.of h
section
variable {J : It} {n : Nat} {G : Hp → Prop} {Y : Nat → Hp → V → Hp → Prop}
/-- a comprehension of two loops: the outer -/
theorem lc2_it (w : Walk J n G Y) {g g1 : TG} {tt tt1 : TT} {te : TE} {wi1 : TI} {vs vs1 : List Nat} {σ : L2.St} {H1 : Hp} {D : Addr} {Qd : Hp → Prop} (Pv : Nat → Hp → Prop) (h0 : Pv 0 (upd H1 D (.lst []))) (hG : ∀ i H, i ≤ n → Pv i H → G H)
    (hs : ∀ i x H H2, i < n → Pv i H → Y i H x H2 → g x (wipe σ vs) H2 fun σ2 H2 => wipe σ2 vs = wipe σ vs ∧ tt σ2 H2 fun b H3 =>
      if b = true then wi1 σ2 H3 fun J1 H4 => ∃ W1 : Nat → Nat → Hp → Prop, (∃ m, W1 0 m H4) ∧ ∀ j k H, W1 j k H →
        (J1.stop j H ∧ Pv (i + 1) H) ∨ (J1.go j H ∧ ∃ Nx1 : Hp → Prop, (∀ H2, Nx1 H2 → ∃ k2, k2 < k ∧ W1 (j + 1) k2 H2) ∧ ∀ x H2, J1.yld j H x H2 → g1 x (wipe σ2 vs1) H2 fun σ3 H5 => wipe σ3 vs1 = wipe σ2 vs1 ∧ tt1 σ3 H5 fun b H6 =>
          if b = true then te σ3 H6 fun y H7 => ∃ acc, H7 D = some (.lst acc) ∧ acc.length < sizeLine ∧ Nx1 (upd H7 D (.lst (acc ++ [y]))) else Nx1 H6)
      else Pv (i + 1) H3) (hd : ∀ H, Pv n H → Qd H) :
    ∃ W : Nat → Nat → Hp → Prop, (∃ m, W 0 m (upd H1 D (.lst []))) ∧ ∀ i m H, W i m H →
      (J.stop i H ∧ Qd H) ∨ (J.go i H ∧ ∃ Nx : Hp → Prop, (∀ H2, Nx H2 → ∃ m2, m2 < m ∧ W (i + 1) m2 H2) ∧ ∀ x H2, J.yld i H x H2 → g x (wipe σ vs) H2 fun σ2 H2 => wipe σ2 vs = wipe σ vs ∧ tt σ2 H2 fun b H3 =>
        if b = true then wi1 σ2 H3 fun J1 H4 => ∃ W1 : Nat → Nat → Hp → Prop, (∃ m, W1 0 m H4) ∧ ∀ j k H, W1 j k H →
          (J1.stop j H ∧ Nx H) ∨ (J1.go j H ∧ ∃ Nx1 : Hp → Prop, (∀ H2, Nx1 H2 → ∃ k2, k2 < k ∧ W1 (j + 1) k2 H2) ∧ ∀ x H2, J1.yld j H x H2 → g1 x (wipe σ2 vs1) H2 fun σ3 H5 => wipe σ3 vs1 = wipe σ2 vs1 ∧ tt1 σ3 H5 fun b H6 =>
            if b = true then te σ3 H6 fun y H7 => ∃ acc, H7 D = some (.lst acc) ∧ acc.length < sizeLine ∧ Nx1 (upd H7 D (.lst (acc ++ [y]))) else Nx1 H6)
        else Nx H3) := by
  refine ⟨fun i m H => m = n - i ∧ i ≤ n ∧ Pv i H, ⟨n, by simp, Nat.zero_le _, h0⟩, ?_⟩
  rintro i m H ⟨rfl, hi, p⟩
  have q := hG i H hi p
  by_cases hlt : i < n
  · refine .inr ⟨w.goes i H hlt q, Pv (i + 1), fun H2 p2 => ⟨n - (i + 1), by omega, rfl, hlt, p2⟩, fun x H2 y => hs i x H H2 hlt p (w.yields i H x H2 hlt q y)⟩
  · have e : i = n := by omega
    subst e
    exact .inl ⟨w.stops H q, hd H p⟩
/-- .. the inner -/
theorem in_it (w : Walk J n G Y) {g1 : TG} {tt1 : TT} {te : TE} {vs1 : List Nat} {σ2 : L2.St} {H4 : Hp} {D : Addr} {Nx : Hp → Prop} (Pw : Nat → Hp → Prop) (h0 : Pw 0 H4) (hG : ∀ i H, i ≤ n → Pw i H → G H)
    (hs : ∀ j x H H2, j < n → Pw j H → Y j H x H2 → g1 x (wipe σ2 vs1) H2 fun σ3 H5 => wipe σ3 vs1 = wipe σ2 vs1 ∧ tt1 σ3 H5 fun b H6 =>
      if b = true then te σ3 H6 fun y H7 => ∃ acc, H7 D = some (.lst acc) ∧ acc.length < sizeLine ∧ Pw (j + 1) (upd H7 D (.lst (acc ++ [y]))) else Pw (j + 1) H6) (hd : ∀ H, Pw n H → Nx H) :
    ∃ W1 : Nat → Nat → Hp → Prop, (∃ m, W1 0 m H4) ∧ ∀ j k H, W1 j k H →
      (J.stop j H ∧ Nx H) ∨ (J.go j H ∧ ∃ Nx1 : Hp → Prop, (∀ H2, Nx1 H2 → ∃ k2, k2 < k ∧ W1 (j + 1) k2 H2) ∧ ∀ x H2, J.yld j H x H2 → g1 x (wipe σ2 vs1) H2 fun σ3 H5 => wipe σ3 vs1 = wipe σ2 vs1 ∧ tt1 σ3 H5 fun b H6 =>
        if b = true then te σ3 H6 fun y H7 => ∃ acc, H7 D = some (.lst acc) ∧ acc.length < sizeLine ∧ Nx1 (upd H7 D (.lst (acc ++ [y]))) else Nx1 H6) := by
  refine ⟨fun i m H => m = n - i ∧ i ≤ n ∧ Pw i H, ⟨n, by simp, Nat.zero_le _, h0⟩, ?_⟩
  rintro i m H ⟨rfl, hi, p⟩
  have q := hG i H hi p
  by_cases hlt : i < n
  · refine .inr ⟨w.goes i H hlt q, Pw (i + 1), fun H2 p2 => ⟨n - (i + 1), by omega, rfl, hlt, p2⟩, fun x H2 y => hs i x H H2 hlt p (w.yields i H x H2 hlt q y)⟩
  · have e : i = n := by omega
    subst e
    exact .inl ⟨w.stops H q, hd H p⟩
end
/-- refs of tuples of ints -/
def RowsR (H : Hp) (xs : List V) (hss : List (List Int)) : Prop := Paired (fun x hs => ∃ r, x = V.ref r ∧ H r = some (.tup (hs.map V.int))) xs hss
theorem RowsR.mono {H H2 : Hp} (e : Ex H H2) : ∀ {xs : List V} {hss : List (List Int)}, RowsR H xs hss → RowsR H2 xs hss
  | _, _, .nil => .nil
  | _, _, .cons ⟨r, h1, h2⟩ t => .cons ⟨r, h1, e _ _ h2⟩ (RowsR.mono e t)
theorem RowsR.snoc {H : Hp} {r : Addr} {hs : List Int} (h : H r = some (.tup (hs.map V.int))) : ∀ {xs : List V} {hss : List (List Int)}, RowsR H xs hss → RowsR H (xs ++ [.ref r]) (hss ++ [hs])
  | _, _, .nil => .cons ⟨r, rfl, h⟩ .nil
  | _, _, .cons q t => .cons q (RowsR.snoc h t)
theorem RowsR.app {H : Hp} {ys : List V} {kss : List (List Int)} (h : RowsR H ys kss) : ∀ {xs : List V} {hss : List (List Int)}, RowsR H xs hss → RowsR H (xs ++ ys) (hss ++ kss)
  | _, _, .nil => h
  | _, _, .cons q t => .cons q (RowsR.app h t)
theorem RowsR.len {H : Hp} : ∀ {xs : List V} {hss : List (List Int)}, RowsR H xs hss → xs.length = hss.length
  | _, _, .nil => rfl
  | _, _, .cons _ t => by rw [List.length_cons, List.length_cons, RowsR.len t]
theorem RowsR.get {H : Hp} : ∀ {xs : List V} {hss : List (List Int)} {i : Nat} {x : V}, RowsR H xs hss → xs[i]? = some x → ∃ hs r, hss[i]? = some hs ∧ x = V.ref r ∧ H r = some (.tup (hs.map V.int))
  | _, _, _, _, .nil, h => by simp at h
  | _, _, 0, _, .cons ⟨r, e, q⟩ _, h => by
    simp only [List.length_cons, Nat.zero_lt_succ, List.getElem?_eq_getElem, List.getElem_cons_zero, Option.some.injEq] at h
    subst h
    exact ⟨_, r, rfl, e, q⟩
  | _, _, i + 1, _, .cons _ t, h => by
    rw [List.getElem?_cons_succ] at h ⊢
    exact RowsR.get t h
theorem RowsR.dp {K : PySem.W.Frag} {H : Hp} : ∀ {xs : List V} {hss : List (List Int)}, RowsR H xs hss → DpAll K H xs (hss.map iT)
  | _, _, .nil => .nil
  | _, _, .cons ⟨r, e, q⟩ t => by
    subst e
    exact .cons (dp_ints q) (RowsR.dp t)
/-- a list of tuples of ints -/
def RowsAt (H : Hp) (D : Addr) (hss : List (List Int)) : Prop := ∃ xs, H D = some (.lst xs) ∧ RowsR H xs hss
theorem RowsAt.mono {H H2 : Hp} {D : Addr} {hss : List (List Int)} (e : Ex H H2) (h : RowsAt H D hss) : RowsAt H2 D hss := by
  obtain ⟨xs, h1, h2⟩ := h
  exact ⟨xs, e _ _ h1, h2.mono e⟩
theorem RowsAt.dp {K : PySem.W.Frag} {H : Hp} {D : Addr} {hss : List (List Int)} (h : RowsAt H D hss) : Dp K H (.ref D) (.list (hss.map iT)) := by
  obtain ⟨xs, h1, h2⟩ := h
  exact .lst (SqL.of h1) h2.dp
theorem sh_rows {n : Nat} (hss : List (List Int)) : Sh (n + 2) (.list (hss.map iT)) := sh_list fun d hd => by
  obtain ⟨hs, _, rfl⟩ := List.mem_map.mp hd
  exact sh_ints hs
theorem eqvAll_rows : ∀ ns ms : List (List Int), PyData.eqvAll (ns.map iT) (ms.map iT) = decide (ns = ms)
  | [], [] => by simp [PyData.eqvAll]
  | [], _ :: _ => by simp [PyData.eqvAll]
  | _ :: _, [] => by simp [PyData.eqvAll]
  | n :: ns, m :: ms => by
    have ih := eqvAll_rows ns ms
    simp only [List.map_cons, PyData.eqvAll, eqv_ints, ih]
    by_cases h : n = m
    · subst h
      simp
    · simp [h]
theorem eqv_rows (ns ms : List (List Int)) : PyData.eqv (.list (ns.map iT)) (.list (ms.map iT)) = decide (ns = ms) := by
  simp only [PyData.eqv]
  exact eqvAll_rows ns ms
theorem RowsR.upd {H : Hp} {D : Addr} {acc : List V} {o : HO} (hD : H D = some (.lst acc)) : ∀ {xs : List V} {hss : List (List Int)}, RowsR H xs hss → RowsR (upd H D o) xs hss
  | _, _, .nil => .nil
  | _, _, .cons ⟨r, h1, h2⟩ t => .cons ⟨r, h1, by rw [upd_ne (ne_of h2 hD (by intro z; cases z))]; exact h2⟩ (RowsR.upd hD t)
theorem rows_push {H : Hp} {D u : Addr} {hss : List (List Int)} {ks : List Int} (h : RowsAt H D hss) (hu : H u = some (.tup (ks.map V.int))) : ∃ acc, H D = some (.lst acc) ∧ acc.length = hss.length ∧ RowsAt (upd H D (.lst (acc ++ [.ref u]))) D (hss ++ [ks]) := by
  obtain ⟨xs, h1, h2⟩ := h
  refine ⟨xs, h1, h2.len, _, upd_same, ?_⟩
  exact RowsR.snoc (by rw [upd_ne (ne_of hu h1 (by intro z; cases z))]; exact hu) (h2.upd h1)
theorem ex_upd {H H2 : Hp} {D : Addr} {o : HO} (e : Ex H H2) (hD : H D = none) : Ex H (upd H2 D o) := fun c u z => by
  rw [upd_ne (ne_of_none z hD)]
  exact e c u z
theorem ext {H H1 H2 : Hp} (a : Ex H H1) (b : Ex H1 H2) : Ex H H2 := fun c o z => b c o (a c o z)

/-! ### tuple * int, from 1 on -/
theorem u65 {k : Nat} {A : Around} (r : Room k A) : A.units + 65 < cLine := by have := r.un; omega
theorem tuple_mul1 (l : Addr) (items : Array Value) (n : Nat) (dd : Option Addr) (sl : Array (Option Value)) (x : Int) (u : Tok) (c0 : (decide (x < -(2 ^ 63)) || decide (x ≥ 2 ^ 63)) = false) (c1 : (items.isEmpty || x == 1) = true) :
    Meets (Builtin.«tuple.__mul__» ⟨[.ref l, .int x u], []⟩) (fun _ R s => s.heap.get? l = some { cls := .type "tuple", dict := dd, data := .seq items n, slots := sl } ∧ R (.ok (.ret (Value.ref l))) s) :=
  .of_wp fun prog w A R s h => by
    obtain ⟨hp, g, d, tk, os⟩ := s
    obtain ⟨hl, h⟩ := h
    have f1 := AutoSeq1.idx_int
    wp_walk using wpAny_loadPart' hl
    repeat (first
      | (refine wpAny_ite_false (decide_eq_false (by rw [c0]; exact Bool.false_ne_true)) ?_; wp_walk using wpAny_loadPart' hl)
      | (refine wpAny_ite_true (decide_eq_true c1) ?_; wp_walk using wpAny_loadPart' hl))
    exact ⟨_, rfl, h⟩
def rRepA (K : PySem.W.Frag) : R2 := fun x y H Q => ∃ l k xs, x = .ref l ∧ y = .int k ∧ SqT K H l xs ∧ xs ≠ [] ∧ 1 ≤ k ∧ k ≤ 1000 ∧ xs.length ≤ 1000 ∧ (k = 1 → Q (.ref l) H) ∧ ∀ p, H p = none → Q (.ref p) (upd H p (.tup (List.replicate k.toNat xs).flatten))
theorem op_repA {X : Cx} : OpR X (binaryOp .Mult) (rRepA X.K) := by
  intro pins s σ H x y v u Q I rx ry h
  obtain ⟨l, k, xs, ex, ey, hT, hne, h1, h2, hz, q1, q⟩ := h
  by_cases hk : k = 1
  · subst ex ey hk
    cases rx
    obtain ⟨t, rfl⟩ := ry
    obtain ⟨its, r, ⟨⟨cls, dd, data, sl⟩, ho, hc, n, hd⟩, hs⟩ := I.tuple hT
    simp only at hc hd
    subst hc hd
    refine wpAny_binaryOp_repeat_ref (T := "tuple") (U := "int") (by decide) ⟨_, ho, rfl⟩ (fun s2 => typeIs_int s2 1 t) noFill_tuple_mul PySem.F.fills_int_mul PySem.F.slot_int_rmul repeat_tuple PySem.F.slot_int_index.lookup
      (call_meets PySem.F.slot_int_rmul (typeIs_int s 1 t) PySem.F.entry_int_rmul (PySem.F.args_int_rmul_2 _ _) (int_rmul_tuple 1 t l its.toArray n dd sl)
        ⟨ho, rfl, ⟨_, ho, rfl⟩, call_meets PySem.F.slot_tuple_mul ⟨_, ho, rfl⟩ PySem.F.entry_tuple_mul (PySem.F.args_tuple_mul_2 _ _) (tuple_mul1 l its.toArray n dd sl 1 t (by decide) (by simp)) ⟨ho, ?_⟩⟩)
    exact ⟨.ref l, H, I, rfl, q1 rfl⟩
  · exact op_repT pins s σ H x y v u Q I rx ry ⟨l, k, xs, ex, ey, hT, hne, by omega, h2, hz, q⟩
/-- (x,) * k -/
theorem rep_one (x : V) (k : Nat) : (List.replicate k [x]).flatten = List.replicate k x := by
  induction k with
  | zero => rfl
  | succ k ih => rw [List.replicate_succ, List.flatten_cons, ih, List.replicate_succ]; rfl
theorem rep_ints {K : PySem.W.Frag} {H : Hp} {Q : VK} {u : Addr} {x k : Int} (hu : H u = some (.tup [.int x])) (h1 : 1 ≤ k) (h2 : k ≤ 1000) (h : ∀ q H2, Ex H H2 → H2 q = some (.tup ((List.replicate k.toNat x).map V.int)) → Q (.ref q) H2) : rRepA K (.ref u) (.int k) H Q := by
  refine ⟨u, k, [.int x], rfl, rfl, SqT.of hu, (fun z => nomatch z), h1, h2, (by show 1 ≤ 1000; decide), fun e => ?_, fun p hp => ?_⟩
  · subst e
    exact h u H exr hu
  · refine h p _ (exn hp) ?_
    rw [upd_same, rep_one, List.map_replicate]
theorem ne_same {a b : List Int} (h : a = b) : (!PyData.eqv (iT a) (iT b)) = false := by rw [h]; exact eqv_same (sh_ints b)
/-- a comprehension over a tuple of ints, by a value each -/
theorem row_in {hss : List (List Int)} {ps : List Int} (h : ps ∈ hss) : ((hss.map iT).any fun z => PyData.eqv z (iT ps)) = true := by
  rw [List.any_eq_true]
  exact ⟨iT ps, List.mem_map.mpr ⟨ps, h, rfl⟩, by rw [eqv_ints]; simp⟩
/-- a list of ints -/
abbrev iL (ns : List Int) : PyData := .list (ns.map PyData.int)
theorem sh_ilist {n : Nat} (ns : List Int) : Sh (n + 1) (iL ns) := sh_list fun d hd => by
  obtain ⟨i, _, rfl⟩ := List.mem_map.mp hd
  exact sh_int i
theorem dp_ilist {K : PySem.W.Frag} {H : Hp} {a : Addr} {ns : List Int} (h : H a = some (.lst (ns.map V.int))) : Dp K H (.ref a) (iL ns) := .lst (SqL.of h) (dpall_ints ns)
theorem eqv_ilist (ns ms : List Int) : PyData.eqv (iL ns) (iL ms) = decide (ns = ms) := by
  simp only [PyData.eqv]
  exact eqvAll_ints ns ms
theorem dec_bl {a b : Bool} (h : a = b) : (!decide (V.bl a = V.bl b)) = false := by rw [h]; simp
theorem emod_eq_iff {a b n : Int} : a % n = b % n ↔ n ∣ a - b := by
  rw [Int.emod_eq_emod_iff_emod_sub_eq_zero, Int.dvd_iff_emod_eq_zero]
/-- behind an if that changes names alone -/
theorem ifs_cutS {c : TT} {t u : TS} {D : Ends} {σ : L2.St} {H : Hp} (R : L2.St → Prop) (hR : ∀ σ2, R σ2 → D.nx σ2 H) (h : ∀ N : L2.St → Hp → Prop, (∀ σ2, R σ2 → N σ2 H) → tIfS c t u { D with nx := N } σ H) : tIfS c t u D σ H :=
  h D.nx hR

/-- a comprehension that lengthens a row by each of ks -/
theorem lc_rows {J : It} {n : Nat} {G : Hp → Prop} {Y : Nat → Hp → V → Hp → Prop} (w : Walk J n G Y) {g : TG} {te : TE} {vs : List Nat} {σ : L2.St} {H1 : Hp} {D : Addr} {Qd : Hp → Prop} (row ks : List Int) (hn : ks.length = n) (hl : n ≤ 10000000) (hD : H1 D = none)
    (hG : ∀ H, Ex H1 H → G H)
    (hs : ∀ i x H H2 (R : VK), i < n → Ex H1 H → Y i H x H2 → (∀ k v H5, Ex H H5 → ks[i]? = some k → H5 v = some (.tup ((row ++ [k]).map V.int)) → R (.ref v) H5) → g x (wipe σ vs) H2 fun σ2 H3 => wipe σ2 vs = wipe σ vs ∧ te σ2 H3 R)
    (hg : ∀ x σ2 H2 (R R2 : L2.St → Hp → Prop), (∀ σ3 H3, R σ3 H3 → R2 σ3 H3) → g x σ2 H2 R → g x σ2 H2 R2)
    (hd : ∀ H, Ex H1 H → RowsAt H D (ks.map fun k => row ++ [k]) → Qd H) :
    ∃ W : Nat → Nat → Hp → Prop, (∃ m, W 0 m (upd H1 D (.lst []))) ∧ ∀ i m H, W i m H →
      (J.stop i H ∧ Qd H) ∨ (J.go i H ∧ ∃ Nx : Hp → Prop, (∀ H2, Nx H2 → ∃ m2, m2 < m ∧ W (i + 1) m2 H2) ∧ ∀ x H2, J.yld i H x H2 → g x (wipe σ vs) H2 fun σ2 H3 => wipe σ2 vs = wipe σ vs ∧ tYes σ2 H3 fun b H4 =>
        if b = true then te σ2 H4 fun y H5 => ∃ acc, H5 D = some (.lst acc) ∧ acc.length < sizeLine ∧ Nx (upd H5 D (.lst (acc ++ [y]))) else Nx H4) := by
  refine lc_it w (fun i H => Ex H1 H ∧ RowsAt H D ((ks.take i).map fun k => row ++ [k])) ⟨exn hD, _, upd_same, .nil⟩ (fun i H _ p => hG H p.1) (fun i x H H2 hi p y => ?_) (fun H p => hd H p.1 (by have := p.2; rwa [List.take_of_length_le (by rw [hn]; exact Nat.le_refl _)] at this))
  refine hg _ _ _ _ _ (fun σ3 H3 q => ⟨q.1, q.2⟩) (hs i x H H2 (fun y H5 => ∃ acc, H5 D = some (.lst acc) ∧ acc.length < sizeLine ∧ Ex H1 (upd H5 D (.lst (acc ++ [y]))) ∧ RowsAt (upd H5 D (.lst (acc ++ [y]))) D ((ks.take (i + 1)).map fun k => row ++ [k])) hi p.1 y fun k v H5 e hk hv => ?_)
  obtain ⟨acc, h1, h2, h3⟩ := rows_push (p.2.mono e) hv
  refine ⟨acc, h1, ?_, ex_upd (ext p.1 e) hD, ?_⟩
  · rw [h2, List.length_map, List.length_take]
    exact Nat.lt_of_le_of_lt (Nat.le_trans (Nat.min_le_right _ _) (by rw [hn]; exact hl)) (by decide)
  · rw [take_more hk, List.map_append]
    exact h3
/-- row + (k,) -/
theorem cat_row {K : PySem.W.Frag} {H : Hp} {Q : VK} {r u : Addr} {row : List Int} {k : Int} (hr : H r = some (.tup (row.map V.int))) (hu : H u = some (.tup [.int k])) (hl : row.length ≤ 1000) (h : ∀ v H5, Ex H H5 → H5 v = some (.tup ((row ++ [k]).map V.int)) → Q (.ref v) H5) : rCatA K (.ref r) (.ref u) H Q := by
  refine ⟨r, u, row.map V.int, [.int k], rfl, rfl, SqT.of hr, SqT.of hu, ?_, fun z => ?_, fun _ z => (nomatch z), fun _ _ v hv => ?_⟩
  · rw [List.length_map]
    exact Nat.le_trans (show _ + 1 ≤ 1001 by omega) (by decide)
  · have : row = [] := List.map_eq_nil_iff.mp z
    subst this
    exact h u H exr hu
  · refine h v _ (exn hv) ?_
    rw [upd_same, List.map_append]
    rfl
theorem rows_ext {H : Hp} {D E : Addr} {hss kss : List (List Int)} (h1 : RowsAt H D hss) (h2 : RowsAt H E kss) (ne : D ≠ E) : ∃ xs zs, H D = some (.lst xs) ∧ H E = some (.lst zs) ∧ xs.length = hss.length ∧ zs.length = kss.length ∧ RowsAt (upd H D (.lst (xs ++ zs))) D (hss ++ kss) := by
  obtain ⟨xs, a1, a2⟩ := h1
  obtain ⟨zs, b1, b2⟩ := h2
  exact ⟨xs, zs, a1, b1, a2.len, b2.len, _, upd_same, RowsR.app (b2.upd a1) (a2.upd a1)⟩

theorem eqT {i j : Int} (h : decide (V.int i = V.int j) = true) : i = j := V.int.inj (of_decide_eq_true h)
theorem eqF {i j : Int} (h : ¬decide (V.int i = V.int j) = true) : i ≠ j := fun z => h (decide_eq_true (by rw [z]))
/-- behind an if -/
theorem ifs_cutG {c : TT} {t u : TS} {D : Ends} {σ : L2.St} {H : Hp} (R : L2.St → Hp → Prop) (hR : ∀ σ2 H2, R σ2 H2 → D.nx σ2 H2) (h : ∀ N : L2.St → Hp → Prop, (∀ σ2 H2, R σ2 H2 → N σ2 H2) → tIfS c t u { D with nx := N } σ H) : tIfS c t u D σ H :=
  h D.nx hR
theorem exG {H H4 : Hp} {p : Addr} {o : HO} (h : upd H p o = H4) (n : H p = none) : Ex H H4 := h ▸ exn n
theorem atG {H H4 : Hp} {p : Addr} {o : HO} (h : upd H p o = H4) : H4 p = some o := h ▸ upd_same
theorem slen {n : Nat} (h : Nat.ble n 1000 = true) : n ≤ sizeLine := Nat.le_trans (Nat.le_of_ble_eq_true h) (by decide)
/-- a comprehension with a test: what passes, by f -/
theorem lc_filt {α : Type} {J : It} {n : Nat} {G : Hp → Prop} {Y : Nat → Hp → V → Hp → Prop} (w : Walk J n G Y) {g : TG} {tt : TT} {te : TE} {vs : List Nat} {σ : L2.St} {H1 : Hp} {D : Addr} {Qd : Hp → Prop} (xs : List α) (c : α → Bool) (f : α → V) (hn : xs.length = n) (hl : n ≤ 10000000) (hD : H1 D = none)
    (hG : ∀ H, Ex H1 H → G H)
    (hs : ∀ i x a H H2 (R : VK) (S : Hp → Prop), xs[i]? = some a → Ex H1 H → Y i H x H2 → (∀ y H5, Ex H H5 → c a = true → y = f a → R y H5) → (∀ H4, Ex H H4 → c a = false → S H4) → g x (wipe σ vs) H2 fun σ2 H3 => wipe σ2 vs = wipe σ vs ∧ tt σ2 H3 fun b H4 => if b = true then te σ2 H4 R else S H4)
    (hd : ∀ H, Ex H1 H → H D = some (.lst ((xs.filter c).map f)) → Qd H) :
    ∃ W : Nat → Nat → Hp → Prop, (∃ m, W 0 m (upd H1 D (.lst []))) ∧ ∀ i m H, W i m H →
      (J.stop i H ∧ Qd H) ∨ (J.go i H ∧ ∃ Nx : Hp → Prop, (∀ H2, Nx H2 → ∃ m2, m2 < m ∧ W (i + 1) m2 H2) ∧ ∀ x H2, J.yld i H x H2 → g x (wipe σ vs) H2 fun σ2 H3 => wipe σ2 vs = wipe σ vs ∧ tt σ2 H3 fun b H4 =>
        if b = true then te σ2 H4 fun y H5 => ∃ acc, H5 D = some (.lst acc) ∧ acc.length < sizeLine ∧ Nx (upd H5 D (.lst (acc ++ [y]))) else Nx H4) := by
  refine lc_out w (fun i => ((xs.take i).filter c).map f) (by simp) hD (fun i hi => ?_) hG (fun i x H H2 Nx hi e hDi y kA kN => ?_) (fun H e h => hd H e ?_)
  · rw [List.length_map]
    refine Nat.lt_of_le_of_lt (Nat.le_trans (List.length_filter_le _ _) (Nat.le_trans (by rw [List.length_take]; exact Nat.min_le_right _ _) (by rw [hn]; exact hl))) (by decide)
  · obtain ⟨a, ha⟩ : ∃ a, xs[i]? = some a := ⟨xs[i]'(by omega), List.getElem?_eq_getElem (by omega)⟩
    refine hs i x a H H2 _ _ ha e y (fun y2 H5 e5 hc hy => kA y2 H5 e5 ?_) (fun H4 e4 hc => kN H4 e4 ?_)
    · rw [take_more ha, List.filter_append, List.map_append, hy]
      simp [hc]
    · rw [take_more ha, List.filter_append, List.map_append]
      simp [hc]
  · rw [h, List.take_of_length_le (by rw [hn]; exact Nat.le_refl _)]
/-- rows that pass a test -/
theorem RowsR.filt {H : Hp} (c : List Int → Bool) : ∀ {xs : List V} {hss : List (List Int)}, RowsR H xs hss → RowsR H (((xs.zip hss).filter fun z => c z.2).map fun z => z.1) (hss.filter c)
  | _, _, .nil => .nil
  | _, _, .cons (a := x) (b := hs) q t => by
    have ih := RowsR.filt c t
    rw [List.zip_cons_cons]
    cases e : c hs with
    | false =>
      rw [List.filter_cons_of_neg (by simp [e]), List.filter_cons_of_neg (by simp [e])]
      exact ih
    | true =>
      rw [List.filter_cons_of_pos (by simp [e]), List.filter_cons_of_pos (by simp [e])]
      exact .cons q ih
theorem zip_at2 {α β : Type} {l : List α} {m : List β} {i : Nat} {z : α × β} (h : (l.zip m)[i]? = some z) : l[i]? = some z.1 ∧ m[i]? = some z.2 := by
  rw [List.getElem?_zip_eq_some] at h
  exact h
/-- tuple(s), s a list or a tuple -/
theorem tup_of {K : PySem.W.Frag} {H : Hp} {q : Bool × Addr} {xs : List V} {Q : VK} (h : SqH H q xs) (k : ∀ t H2, Ex H H2 → H2 t = some (.tup xs) → Q (.ref t) H2) : (SqL K H q.2 xs ∧ ∀ p, H p = none → Q (.ref p) (upd H p (.tup xs))) ∨ SqT K H q.2 xs ∧ Q (.ref q.2) H := by
  obtain ⟨b, a⟩ := q
  cases b
  · exact .inl ⟨SqL.of (show H a = some (.lst xs) from h), fun p hp => k p _ (exn hp) upd_same⟩
  · exact .inr ⟨SqT.of (show H a = some (.tup xs) from h), k a H exr h⟩
def rTupQ : List V → Hp → VK → Prop := fun vs H Q => ∃ (q : Bool × Addr) (xs : List V), vs = [.ref q.2] ∧ SqH H q xs ∧ ∀ t H2, Ex H H2 → H2 t = some (.tup xs) → Q (.ref t) H2
theorem call_tuple_q {X : Cx} : CallR X (.type "tuple") rTupQ := by
  intro pins s σ H vs us Q I r h
  obtain ⟨q, xs, rfl, hq, k⟩ := h
  exact call_tuple_of pins s σ H _ us Q I r ⟨q.2, xs, rfl, tup_of hq k⟩
theorem SqH.uniq {H : Hp} {q : Bool × Addr} {xs ys : List V} (h1 : SqH H q xs) (h2 : SqH H q ys) : xs = ys := by
  obtain ⟨b, a⟩ := q
  cases b
  · have e : some (HO.lst xs) = some (HO.lst ys) := (show H a = some (.lst xs) from h1).symm.trans (show H a = some (.lst ys) from h2)
    injection e with e
    injection e
  · have e : some (HO.tup xs) = some (HO.tup ys) := (show H a = some (.tup xs) from h1).symm.trans (show H a = some (.tup ys) from h2)
    injection e with e
    injection e
theorem RowsR.monoT {H H2 : Hp} (e : ∀ c xs, H c = some (.tup xs) → H2 c = some (.tup xs)) : ∀ {xs : List V} {hss : List (List Int)}, RowsR H xs hss → RowsR H2 xs hss
  | _, _, .nil => .nil
  | _, _, .cons ⟨r, h1, h2⟩ t => .cons ⟨r, h1, e _ _ h2⟩ (RowsR.monoT e t)

-- exceptions
/-- an error of the class at S is what «except S» names -/
theorem exm_self {K : PySem.W.Frag} {S : Addr} (h1 : PySem.W.subIn K (.ref S) (.type "BaseException") = some true) (h2 : PySem.W.isClsIn K S = true) (h3 : PySem.W.typeIn K (.ref S) = some (.type "type")) (h4 : PySem.W.subIn K (.ref S) (.ref S) = some true) :
    PySem.W.exmOne K (.ref S) (.ref S) = some true := by
  have e1 : (PySem.W.subIn K (.ref S) (.type "BaseException") == some true) = true := by rw [h1] <;> rfl
  have e2 : ((PySem.W.clsIn K S).isSome && PySem.W.typeIn K (.ref S) == some (.type "type")) = true := by
    have h2' : (PySem.W.clsIn K S).isSome = true := h2
    rw [h2', h3] <;> rfl
  show (if (PySem.W.subIn K (.ref S) (.type "BaseException") == some true) = true then (if ((PySem.W.clsIn K S).isSome && PySem.W.typeIn K (.ref S) == some (.type "type")) = true then PySem.W.subIn K (.ref S) (.ref S) else none) else none) = some true
  rw [if_pos e1, if_pos e2]
  exact h4
/-- what the first clause 'except x as n' wishes of an exception of the body that it takes: slot i is n's -/
def wAs1 (K : PySem.W.Frag) (c : Value) (i : Nat) (ts : Addr → Value → Option Addr → TS) (D : Ends) : WX := fun cls d σ H =>
  PySem.W.exmOne K cls c = some true ∧ ∀ a, H a = none → ts a cls d { nx := fun σ' H' => D.nx (σ'.set i none) H', rt := D.rt, bk := fun σ' H' => D.bk (σ'.set i none) H', ct := fun σ' H' => D.ct (σ'.set i none) H' } (σ.set i (some (.ref a))) H
/-- try, where the first clause takes what the body raises; what the other clauses are is all one -/
theorem ps_try_as1 {X : Cx} {x n : Str} {c : Value} {i : Nat} {body suite : List Stmt} {b₀ : Stmt} {np pos pos' : Pos} {hds : List ExceptHandler} {tb : WX → TS} {ts : Addr → Value → Option Addr → TS} (hs : X.stack = X.env :: X.outer) (hf : X.env.frame = some X.env.locals) (hN : X.N.Nodup) (hi : X.N[i]? = some n) (hln : X.env.kindOf n = some .local) (hc : Names X x c)
    (hb : ∀ (W : WX) (pn : List (Addr × Obj)) (xe : Value → Shared → Prop), Takes (X.tr pn xe) W → PassesOwn (model X.prog X.w) X.A X.env xe → PSs (X.tr pn xe) body (tb W))
    (hsu : ∀ (a : Addr) (oe : Obj) (cls : Value) (d : Option Addr) (pn : List (Addr × Obj)), Zc cls d oe → (∃ vs, oe.data = .fields vs) → PSs (X.suite a ((a, oe) :: pn)) (b₀ :: suite) (ts a cls d)) :
    PS X (.Try body (.ExceptHandler (some (.Name x np)) (some n) (b₀ :: suite) pos' :: hds) [] [] pos) (fun D σ H => tb (wAs1 X.K c i ts D) D σ H) := by
  refine ⟨fun pins s σ H D I h => ?_⟩
  have ok := I.ok
  have hfr : X.A.frames = some (X.env :: X.outer) := by rw [ok.frames, hs]
  have hloc : Loc X.env.scope n := .inl hln
  refine wpAny_Try_except ?_
  refine wpAny_mono ((hb (wAs1 X.K c i ts D) (X.pn ++ pins) (fun e s₁ => wpAny (model X.prog X.w) X.A (noteFrame e X.env) (fun _ s₂ => wpAny (model X.prog X.w) X.A (setFlight e none) (fun _ s₃ =>
    wpAny (model X.prog X.w) X.A (handleBy e X.env (.ExceptHandler (some (.Name x np)) (some n) (b₀ :: suite) pos' :: hds)) (SP X pins D) X.xe s₃) X.xe s₂) X.xe s₁) (fun u s' xx => ?_) PassesOwn.looking).run [] s σ H D (I.toTry _) h) (fun f s1 hsp => ?_) (fun e s1 he => he)
  · obtain ⟨a, B, sI, pins', σ', H', cls, d, rfl, J', nb, up, sky, na, os, ag, hb1, hyes⟩ := xx
    have J : Inv X pins σ' H' sI := J'.ofTry ok
    have sky' : Sky B (X.env :: X.outer) a (Zc cls d) X.env.locals s'.heap := by rw [← hs]; exact sky
    show wpAny (model X.prog X.w) X.A (noteFrame (.ref a) X.env) _ _ _
    refine Sky.land Zc.steady hfr hf sky' fun h3 fl3 up3 => ?_
    have J3 : Inv X pins σ' H' { s' with heap := h3 } := J.landed nb fl3.1 (up.trans up3) os ag
    obtain ⟨oe3, vs3, he3, hz3, hd3⟩ := fl3.there
    have notFr : ∀ {h : Heap} {o : Obj} {vs : Array Value}, h.FunFrames B (X.env :: X.outer) → h.get? a = some o → o.data = .fields vs → a ∉ frs (X.env :: X.outer) := fun {h o vs} ff e dd hm => by
      obtain ⟨_, o', e', hnf⟩ := ff.mem hm
      rw [e] at e'; cases e'
      exact hnf _ dd
    have nfr := notFr fl3.2.2.1 he3 hd3
    have nL : a ≠ X.env.locals := fun z => nfr (List.mem_filterMap.mpr ⟨X.env, List.mem_cons_self, by rw [hf, z]⟩)
    have nF : a ∉ X.fs := fun hm => by
      obtain ⟨e, he, q⟩ := List.mem_filterMap.mp hm
      exact nfr (List.mem_filterMap.mpr ⟨e, List.mem_cons_of_mem _ he, q⟩)
    have S3 := J3.suite he3 hd3 na nL nF
    refine wpAny_handleBy_cons (codeAny_handlers_test ?_) (by intro q; cases q)
    have LT : PySem.W.Looks (model X.prog X.w) h3 (typeOf (.ref a)) cls := fun A Q E s k q => wpAny_typeOf_ref (k _ _ he3) (by rw [hz3.1]; exact q)
    have LM := PySem.W.exm_one (M := model X.prog X.w) (J3.kIn) LT hb1
    have test : ∀ {Q : Value → Shared → Prop} {E : Value → Shared → Prop}, Q c { s' with heap := h3 } → wpAny (model X.prog X.w) (X.A.mark (some (.ref a))) (eval (.Name x np) X.env) Q E { s' with heap := h3 } := fun {Q E} q => by
      obtain ⟨hg, hdbg, hm | ⟨hm, hv, hnn⟩⟩ := hc
      · exact ld_glob (X := X.suite a ((a, oe3) :: (X.pn ++ pins))) S3 hg hm q hdbg
      · exact ld_blt (X := X.suite a ((a, oe3) :: (X.pn ++ pins))) S3 hg hm hv q hnn hdbg
    refine test (LM.here ?_)
    refine codeAny_handlers_suite_as ?_
    refine HandSPX.lands_againZ fl3 fun h4 fl4 up4 => ?_
    have J4 : Inv X pins σ' H' { s' with heap := h4 } := J.landed nb fl4.1 ((up.trans up3).trans up4) os ag
    obtain ⟨oe4, vs4, he4, hz4, hd4⟩ := fl4.there
    have S4 := J4.suite he4 hd4 na nL nF
    refine store_ok (X := X.suite a ((a, oe4) :: (X.pn ++ pins))) (v := .ref a) S4 hN hi hloc rfl (fun s5 S5 => ?_) (.inr hln)
    refine wpAny_mono ((hsu a oe4 cls d (X.pn ++ pins) hz4 ⟨_, hd4⟩).run [] s5 _ H' _ S5 (hyes a na)) (fun f s6 hsp => ?_) (fun _ _ z => False.elim z)
    have end_ : ∀ {σ6 : L2.St} {H6 : Hp} {Q : Shared → Prop}, Inv (X.suite a ((a, oe4) :: (X.pn ++ pins))) [] σ6 H6 s6 → (∀ s7, Inv X pins (σ6.set i none) H6 s7 → Q s7) →
        wpAny (model X.prog X.w) X.A (do bindName X.env n .none; unbindBehindTheSuite X.env n pos') (fun _ s7 => Q s7) X.xe s6 := fun {σ6 H6 Q} S6 hq => gone_ok (S6.unsuite ok) hN hi hln hq
    cases f with
    | next =>
      obtain ⟨σ6, H6, S6, q6⟩ := hsp
      exact end_ S6 fun s7 J7 => ⟨_, _, J7, q6⟩
    | brk =>
      obtain ⟨σ6, H6, S6, q6⟩ := hsp
      exact end_ S6 fun s7 J7 => ⟨_, _, J7, q6⟩
    | cont =>
      obtain ⟨σ6, H6, S6, q6⟩ := hsp
      exact end_ S6 fun s7 J7 => ⟨_, _, J7, q6⟩
    | ret u =>
      obtain ⟨v6, σ6, H6, S6, r6, q6⟩ := hsp
      exact end_ S6 fun s7 J7 => ⟨_, _, _, J7, r6, q6⟩
  · cases f with
    | next =>
      obtain ⟨σ', H', J', q⟩ := hsp
      exact wpAny_execs_nil ⟨σ', H', J'.ofTry ok, q⟩
    | brk =>
      obtain ⟨σ', H', J', q⟩ := hsp
      exact ⟨σ', H', J'.ofTry ok, q⟩
    | cont =>
      obtain ⟨σ', H', J', q⟩ := hsp
      exact ⟨σ', H', J'.ofTry ok, q⟩
    | ret u =>
      obtain ⟨v, σ', H', J', r, q⟩ := hsp
      exact ⟨v, σ', H', J'.ofTry ok, r, q⟩

-- exceptions of a class under the one that the clause names; a method that raises inside of try
/-- an error of a class S under B is what «except B» names -/
theorem exm_base {K : PySem.W.Frag} {S B : Addr} (h1 : PySem.W.subIn K (.ref B) (.type "BaseException") = some true) (h2 : PySem.W.isClsIn K B = true) (h3 : PySem.W.typeIn K (.ref B) = some (.type "type")) (h4 : PySem.W.subIn K (.ref S) (.ref B) = some true) :
    PySem.W.exmOne K (.ref S) (.ref B) = some true := by
  have e1 : (PySem.W.subIn K (.ref B) (.type "BaseException") == some true) = true := by rw [h1] <;> rfl
  have e2 : ((PySem.W.clsIn K B).isSome && PySem.W.typeIn K (.ref B) == some (.type "type")) = true := by
    have h2' : (PySem.W.clsIn K B).isSome = true := h2
    rw [h2', h3] <;> rfl
  show (if (PySem.W.subIn K (.ref B) (.type "BaseException") == some true) = true then (if ((PySem.W.clsIn K B).isSome && PySem.W.typeIn K (.ref B) == some (.type "type")) = true then PySem.W.subIn K (.ref S) (.ref B) else none) else none) = some true
  rw [if_pos e1, if_pos e2]
  exact h4
/-- o.m(e, ..), which may raise; what it lets out is told at the slots -/
def tMethP (C : Addr) (m : Str) (sp : Sp) (E : L2.St → XK) (ta : TE) (t : TA) : TE := fun σ H Q => ta σ H fun x H1 => ∃ a dx fs, x = .ref a ∧ H1 a = some (.ins C dx fs) ∧ fs.lookup m = none ∧ t σ H1 fun vs H2 => sp (.ref a :: vs) H2 Q (E σ)
theorem pe_methP {X : Cx} {CX : CXT} {k : Nat} {f C : Addr} {fd : FuncData} {ps : List Str} {sp : Sp} {E : L2.St → XK} {m : Str} {pos apos : Pos} {e o : Expr} {es : List Expr} {ta : TE} {t : TA} {pl : Sem Bool} (he : PE X o ta) (c : Cls X.K C) (hm : Meth X.K C m f) (F : FnOk X.prog X.w X.K X.mg X.base CX k f fd ps sp) (hr : Room k X.A) (hb : Binds X.K fd ps []) (hx : ∀ σ, PassesAt CX X σ (E σ)) (ha : PA X (e :: es) t)
    (hst : starEach (e :: es) X.env = (false, eval e X.env) :: starEach es X.env := by rfl) (hpl : (backTo pos (starEach es X.env)).any (·.1) = false := by rfl)
    (ht : eval (.Call (.Attribute o m apos) (e :: es) [] pos) X.env = (do
      let ov ← eval o X.env
      standAt apos.atName
      let (f, first) ← holding [ov] (getMethod ov m pl)
      callWith pos f first (backTo pos (starEach (e :: es) X.env)) (backToKw pos (keywordEach [] X.env))) := by rfl) :
    PE X (.Call (.Attribute o m apos) (e :: es) [] pos) (tMethP C m sp E ta t) := by
  refine ⟨fun pins s σ H Q I h => ?_⟩
  refine PySem.W.methodCall_KW (pl := pl) (thn (he.run pins s σ H _ I h) fun u s1 ⟨x, H1, I1, rx, a, dx, fs, ex, ea, l, q⟩ => ?_) ht
  subst ex
  obtain rfl : u = Value.ref a := rx
  refine getmeth_ok I1 ea c hm l ?_
  refine PySem.W.callWith_K (first := [.ref a]) (h₀ := X.base) I.ok.mod.kin hm.kp (thn (ha.run pos pins s1 σ H1 _ I1 q) fun us s2 ⟨vs, H2, I2, r, q2⟩ => ⟨I2.kIn, ?_⟩) hst hpl
  exact run_fnS (us := .ref a :: us) (vs := .ref a :: vs) F hr hb (hx σ) I2 (.cons rfl r) q2

theorem shift_back {f : Int} : ∀ {ns ps cs : List Int}, SeatOk ns ps → cs.length = ns.length → shiftL ns (shiftL ns ps cs f) cs (-f) = ps
  | [], [], [], _, _ => rfl
  | n :: ns, p :: ps, c :: cs, h, l => by
    show ((p + f * c) % n + -f * c) % n :: _ = _
    rw [shift_back h.2 (Nat.succ.inj l), Int.emod_add_emod, Int.neg_mul, Int.add_neg_cancel_right, Int.emod_eq_of_lt h.1.1 h.1.2]
theorem shift_neg {f : Int} : ∀ {ns ps cs : List Int}, shiftL ns ps (cs.map fun c => 0 - c) f = shiftL ns ps cs (-f)
  | [], _, _ => by cases ‹List Int› <;> simp [shiftL]
  | _ :: _, [], _ => by simp [shiftL]
  | _ :: _, _ :: _, [] => by simp [shiftL]
  | n :: ns, p :: ps, c :: cs => by
    show (p + f * (0 - c)) % n :: _ = (p + -f * c) % n :: _
    rw [shift_neg, Int.zero_sub, Int.mul_neg, Int.neg_mul]
theorem shift_comm {f g : Int} : ∀ {ns ps cs ds : List Int}, ps.length = ns.length → cs.length = ns.length → ds.length = ns.length → shiftL ns (shiftL ns ps cs f) ds g = shiftL ns (shiftL ns ps ds g) cs f
  | [], [], [], [], _, _, _ => rfl
  | n :: ns, p :: ps, c :: cs, d :: ds, l1, l2, l3 => by
    show ((p + f * c) % n + g * d) % n :: _ = ((p + g * d) % n + f * c) % n :: _
    rw [shift_comm (Nat.succ.inj l1) (Nat.succ.inj l2) (Nat.succ.inj l3), Int.emod_add_emod, Int.emod_add_emod, Int.add_right_comm]
theorem shift_seat {f : Int} : ∀ {ns ps cs : List Int}, (∀ n ∈ ns, 1 ≤ n) → ps.length = ns.length → cs.length = ns.length → SeatOk ns (shiftL ns ps cs f)
  | [], [], [], _, _, _ => True.intro
  | n :: ns, p :: ps, c :: cs, h, l1, l2 => by
    have n1 := h n List.mem_cons_self
    exact ⟨⟨Int.emod_nonneg _ (by omega), Int.emod_lt_of_pos _ (by omega)⟩, shift_seat (fun m hm => h m (List.mem_cons_of_mem _ hm)) (Nat.succ.inj l1) (Nat.succ.inj l2)⟩
theorem shift_same {f g : Int} : ∀ {ns ps cs : List Int}, ps.length = ns.length → cs.length = ns.length → (shiftL ns ps cs f = shiftL ns ps cs g ↔ ∀ z ∈ cs.zip ns, z.2 ∣ (f - g) * z.1)
  | [], [], [], _, _ => by simp [shiftL]
  | n :: ns, p :: ps, c :: cs, l1, l2 => by
    have e : p + f * c - (p + g * c) = (f - g) * c := by rw [Int.sub_mul]; omega
    show (p + f * c) % n :: _ = (p + g * c) % n :: _ ↔ _
    rw [List.cons.injEq, shift_same (Nat.succ.inj l1) (Nat.succ.inj l2), emod_eq_iff, e, List.zip_cons_cons, List.forall_mem_cons]
theorem shift_zero : ∀ {ns ps cs : List Int}, SeatOk ns ps → cs.length = ns.length → shiftL ns ps cs 0 = ps
  | [], [], [], _, _ => rfl
  | n :: ns, p :: ps, c :: cs, h, l => by
    show (p + 0 * c) % n :: _ = _
    rw [shift_zero h.2 (Nat.succ.inj l), Int.zero_mul, Int.add_zero, Int.emod_eq_of_lt h.1.1 h.1.2]
/-- a call times k -/
theorem shift_times {k : Int} : ∀ {ns ps cs : List Int}, shiftL ns ps (cs.map fun c => c * k) 1 = shiftL ns ps cs k
  | [], _, _ => by cases ‹List Int› <;> simp [shiftL]
  | _ :: _, [], _ => by simp [shiftL]
  | _ :: _, _ :: _, [] => by simp [shiftL]
  | n :: ns, p :: ps, c :: cs => by
    show (p + 1 * (c * k)) % n :: _ = (p + k * c) % n :: _
    rw [shift_times, Int.one_mul, Int.mul_comm c]
theorem zero_seat : ∀ {ns : List Int}, (∀ n ∈ ns, 1 ≤ n) → SeatOk ns (List.replicate ns.length 0)
  | [], _ => True.intro
  | n :: ns, h => ⟨⟨Int.le_refl _, by have := h n List.mem_cons_self; omega⟩, zero_seat fun m hm => h m (List.mem_cons_of_mem _ hm)⟩

/-- Table(..) -/
theorem mk_tab {C a : Addr} {b : Bool} {H : Hp} {ns : List Int} {R : Addr → Hp → Prop} {E : XK} (hq : SqH H (b, a) (ns.map V.int)) (ok : SzOk ns) (k : ∀ x H2, Ex H H2 → H x = none → TabAt C H2 x ns → R x H2) :
    ∀ x dx, H x = none → H dx = none → dx ≠ x → sp_Table_init C [.ref x, .ref a] (upd (upd H dx (.own x)) x (.ins C dx [])) (fun v H2 => v = .non ∧ R x H2) E := by
  intro x dx nx ndx _
  have exB : Ex H (upd (upd H dx (.own x)) x (.ins C dx [])) := fun c o z => by
    rw [upd_ne (ne_of_none z nx), upd_ne (ne_of_none z ndx)]
    exact z
  refine ⟨x, dx, (b, a), ns, rfl, upd_same, hq.mono exB, ok, fun H3 k3 ht3 => ⟨rfl, ?_⟩⟩
  obtain ⟨t, g1, g2⟩ := ht3
  exact k x H3 (fun c o z => k3 c o (ne_of_none z nx) (exB c o z)) nx ⟨dx, t, g1, g2⟩
theorem eqN {i j : Int} (h : ¬(!decide (V.int i = V.int j)) = true) : i = j := by
  by_cases e : i = j
  · exact e
  · exact absurd (by simp [e]) h
/-! ### lists and tuples alike -/
theorem cut_from (xs : List V) (k : Nat) : cutV xs (some (k : Int)) none = xs.drop k := by
  unfold cutV
  rw [HT.sIx_nat, HT.sIx_none]
  by_cases h : k ≤ xs.length
  · rw [Nat.min_eq_left h]
    exact List.take_of_length_le (by rw [List.length_drop]; omega)
  · rw [Nat.min_eq_right (by omega), List.drop_of_length_le (Nat.le_refl _), List.drop_of_length_le (by omega)]
    simp
theorem cut_to (xs : List V) (k : Nat) : cutV xs none (some (k : Int)) = xs.take k := by
  unfold cutV
  rw [HT.sIx_nat, HT.sIx_none, List.drop_zero, Nat.sub_zero]
  by_cases h : k ≤ xs.length
  · rw [Nat.min_eq_left h]
  · rw [Nat.min_eq_right (by omega), List.take_of_length_le (Nat.le_refl _), List.take_of_length_le (by omega)]
theorem cut_whole {xs : List V} {lo hi : Option Int} (h : HT.sIx xs.length 0 lo = 0 ∧ HT.sIx xs.length xs.length hi = xs.length) : cutV xs lo hi = xs := by
  unfold cutV
  rw [h.1, h.2, List.drop_zero, Nat.sub_zero, List.take_of_length_le (Nat.le_refl _)]
def rIxQ (K : PySem.W.Frag) : R2 := fun x y H Q => ∃ (q : Bool × Addr) (xs : List V) (i : Int) (v : V), x = .ref q.2 ∧ y = .int i ∧ CZ.SqK K H q xs ∧ atI xs i = some v ∧ Q v H
theorem ix_q {X : Cx} : IxR X (rIxQ X.K) := by
  intro value slice pins s σ H x y v u Q I rx ry h hsub
  obtain ⟨⟨b, a⟩, xs, i, z, rfl, rfl, hq, hz, q⟩ := h
  cases b
  · exact ix_list value slice pins s σ H _ _ v u Q I rx ry ⟨a, xs, i, z, rfl, rfl, hq, hz, q⟩ hsub
  · exact ix_tup value slice pins s σ H _ _ v u Q I rx ry ⟨a, xs, i, z, rfl, rfl, hq, hz, q⟩ hsub
def rSlQ : V → Option Int → Option Int → Hp → VK → Prop := fun x lo hi H Q => ∃ (q : Bool × Addr) (xs : List V), x = .ref q.2 ∧ SqH H q xs ∧ ∀ p H2, Ex H H2 → SqH H2 (q.1, p) (cutV xs lo hi) → Q (.ref p) H2
theorem sl_q {X : Cx} : SlR X rSlQ := by
  intro pins s σ H x v vl vu lo hi sl Q I rx hs pl pu h
  obtain ⟨⟨b, a⟩, xs, rfl, hq, k⟩ := h
  cases b
  · exact sl_list pins s σ H _ v vl vu lo hi sl Q I rx hs pl pu ⟨a, xs, rfl, SqL.of (show H a = some (.lst xs) from hq), fun p hp => k p _ (exn hp) upd_same⟩
  · exact sl_tupA pins s σ H _ v vl vu lo hi sl Q I rx hs pl pu ⟨a, xs, rfl, SqT.of (show H a = some (.tup xs) from hq), fun hw => k a H exr (by rw [cut_whole hw]; exact hq), fun _ p hp => k p _ (exn hp) upd_same⟩

/-- the greatest common divisor -/
abbrev gcdI (a b : Int) : Int := ((Int.gcd a b : Nat) : Int)
theorem gcd_pos2 {p n : Int} (h : 1 ≤ n) : 0 < Int.gcd p n := Int.gcd_pos_of_ne_zero_right _ (by omega)
theorem gcd_turn {a b : Int} (hb : b ≠ 0) : Int.gcd b (a % b) = Int.gcd a b := by
  rw [Int.gcd_comm b, Int.emod_def, Int.sub_eq_add_neg, ← Int.mul_neg, Int.gcd_add_mul_left_left]
theorem abs45 {n : Int} (h1 : 0 ≤ n) (h2 : n ≤ 10 ^ 45) : n.natAbs < 2 ^ 150 := by
  have h5 : (10 : Int) ^ 45 < 2 ^ 150 := by decide
  have h8 : ((2 ^ 150 : Nat) : Int) = (2 : Int) ^ 150 := by simp
  omega
section
variable {P : Program} {w : World} {K : PySem.W.Frag} {mg : Str → Option Value} {base : Heap}
def sp_greatest_common_divisor : Sp := fun vs H Q _ => ∃ a b : Int, vs = [.int a, .int b] ∧ 0 ≤ a ∧ 0 ≤ b ∧ Q (.int (gcdI a b)) H
theorem ok_greatest_common_divisor (T : TX K mg) : FnOk P w K mg base CX0 1 T.f_greatest_common_divisor T.fd_greatest_common_divisor ["first", "second"] sp_greatest_common_divisor := by
  refine T.F_greatest_common_divisor.ok sc_greatest_common_divisor (fun vs H Q E h => ?_) (fun cdv A outer s H vs Q E hr h => ?_)
  · obtain ⟨a, b, rfl, _⟩ := h
    rfl
  · obtain ⟨a0, b0, rfl, h1, h2, k⟩ := h
    refine ⟨_, (pss_cons (ps_while PassesOwn.never (pt_cmpR op_ne (pv 1) pe_int (nomark _)) (pss_one (ps_par (i := 0) (j := 1) rfl sc_greatest_common_divisor.nd rfl rfl (by decide) rfl rfl (pa_cons (pv 1) (pa_cons (pe_op op_mod (pv 0) (pv 1)) pa_nil)) (by rfl)))) (pss_one (ps_ret (pe_callB call_abs (by rfl) T.z_abs (by decide +kernel) (pa_cons (pv 0) pa_nil))))), ?_⟩
    refine ⟨fun m σ H2 => ∃ a b : Int, σ = [some (.int a), some (.int b)] ∧ H2 = H ∧ 0 ≤ a ∧ 0 ≤ b ∧ Int.gcd a b = Int.gcd a0 b0 ∧ m = b.toNat, ⟨_, a0, b0, rfl, rfl, h1, h2, rfl, rfl⟩, ?_⟩
    rintro m σ _ ⟨a, b, rfl, rfl, ha, hb, hg, rfl⟩
    refine ⟨_, rfl, rfl, _, rfl, ?_⟩
    by_cases hz : b = 0
    · subst hz
      refine itf (by simp) ⟨_, rfl, a, rfl, ?_⟩
      rw [if_neg (by omega)]
      have e : (Int.gcd a 0 : Nat) = a.natAbs := by simp
      have e2 : gcdI a0 b0 = a := by
        show ((Int.gcd a0 b0 : Nat) : Int) = a
        rw [← hg, e]
        omega
      rw [e2] at k
      exact k
    · refine itt (by rw [dec_int]; simp [hz]) ⟨_, fun _ _ h => h, ?_⟩
      have q1 := Int.emod_lt_of_pos a (show 0 < b by omega)
      have q2 := Int.emod_nonneg a hz
      exact ⟨_, rfl, _, rfl, _, rfl, _, _, rfl, rfl, (by show 0 < b; omega), _, _, rfl, _, (by show (a % b).toNat < b.toNat; omega), _, _, rfl, rfl, hb, q2, by rw [gcd_turn hz, hg], rfl⟩
end

/-! ### the order of a seat -/
def perN (p n : Int) : Nat := n.natAbs / Int.gcd p n
def ordF (zs : List (Int × Int)) : Nat := zs.foldl (fun l z => Nat.lcm l (perN z.1 z.2)) 1
theorem per_int {p n : Int} (h : 1 ≤ n) : n / gcdI p n = (perN p n : Int) := by
  have e : (n.natAbs : Int) = n := Int.natAbs_of_nonneg (by omega)
  unfold perN
  rw [Int.natCast_ediv, e]
theorem per_pos {p n : Int} (h : 1 ≤ n) : 0 < perN p n := by
  unfold perN
  refine Nat.div_pos ?_ (gcd_pos2 h)
  have := Int.gcd_dvd_right p n
  have h2 : (Int.gcd p n : Int) ≤ n := Int.le_of_dvd (by omega) this
  omega
theorem per_le {p n : Int} : perN p n ≤ n.natAbs := Nat.div_le_self _ _
theorem lcm_int {l m : Nat} : (l : Int) / gcdI l m * m = ((Nat.lcm l m : Nat) : Int) := by
  show (l : Int) / ((Nat.gcd l m : Nat) : Int) * m = _
  rw [← Int.natCast_ediv, ← Int.natCast_mul, Nat.lcm, Nat.div_mul_right_comm (Nat.gcd_dvd_left l m)]
theorem ord_snoc (zs : List (Int × Int)) (z : Int × Int) : ordF (zs ++ [z]) = Nat.lcm (ordF zs) (perN z.1 z.2) := by
  unfold ordF
  rw [List.foldl_append]
  rfl
theorem lcm_fold : ∀ {zs : List (Int × Int)} {a B : Nat}, 0 < a → (∀ z ∈ zs, 1 ≤ z.2 ∧ z.2.natAbs ≤ B) → 0 < zs.foldl (fun l z => Nat.lcm l (perN z.1 z.2)) a ∧ zs.foldl (fun l z => Nat.lcm l (perN z.1 z.2)) a ≤ a * B ^ zs.length
  | [], a, B, h, _ => by simp; exact h
  | z :: zs, a, B, h, hz => by
    have h1 := hz z List.mem_cons_self
    have h2 : 0 < Nat.lcm a (perN z.1 z.2) := Nat.lcm_pos h (per_pos h1.1)
    obtain ⟨g1, g2⟩ := lcm_fold (zs := zs) (B := B) h2 fun y hy => hz y (List.mem_cons_of_mem _ hy)
    refine ⟨g1, Nat.le_trans g2 ?_⟩
    have h3 : Nat.lcm a (perN z.1 z.2) ≤ a * B := Nat.le_trans (Nat.div_le_self _ _) (Nat.mul_le_mul_left _ (Nat.le_trans per_le h1.2))
    calc _ ≤ a * B * B ^ zs.length := Nat.mul_le_mul_right _ h3
      _ = a * B ^ (zs.length + 1) := by rw [Nat.pow_succ, Nat.mul_assoc, Nat.mul_comm B]
theorem ord_ok {zs : List (Int × Int)} (h : ∀ z ∈ zs, 1 ≤ z.2 ∧ z.2 ≤ 10 ^ 45) (hl : zs.length ≤ 4) : 0 < ordF zs ∧ ordF zs < 2 ^ 600 := by
  obtain ⟨g1, g2⟩ := lcm_fold (zs := zs) (a := 1) (B := 10 ^ 45) (by decide) fun z hz => ⟨(h z hz).1, by
    have := h z hz
    have e : ((10 ^ 45 : Nat) : Int) = (10 : Int) ^ 45 := by simp
    omega⟩
  refine ⟨g1, Nat.lt_of_le_of_lt g2 ?_⟩
  rw [Nat.one_mul]
  exact Nat.lt_of_le_of_lt (Nat.pow_le_pow_right (by decide) hl) (by decide +kernel)
theorem zip_at {α β : Type} {l : List α} {m : List β} {i : Nat} {x : α} {y : β} (h1 : l[i]? = some x) (h2 : m[i]? = some y) : (l.zip m)[i]? = some (x, y) := by
  rw [List.getElem?_zip_eq_some]
  exact ⟨h1, h2⟩
theorem zip_len {α β : Type} {l : List α} {m : List β} {n : Nat} (h1 : l.length = n) (h2 : m.length = n) : (l.zip m).length = n := by
  rw [List.length_zip, h1, h2, Nat.min_self]
theorem zip_take_len {α β : Type} {l : List α} {m : List β} {n : Nat} (h1 : l.length = n) (h2 : m.length = n) : (l.zip m).take n = l.zip m := List.take_of_length_le (by rw [zip_len h1 h2]; exact Nat.le_refl _)
/-- sizes that are not too long -/
abbrev SzB (ns : List Int) : Prop := ∀ n ∈ ns, n ≤ 10 ^ 45
theorem SeatOk.at : ∀ {ns ps : List Int} {i : Nat} {n p : Int}, SeatOk ns ps → ns[i]? = some n → ps[i]? = some p → 0 ≤ p ∧ p < n
  | [], [], _, _, _, _, h, _ => by simp at h
  | n :: ns, p :: ps, 0, _, _, h, h1, h2 => by
    simp at h1 h2
    subst h1 h2
    exact h.1
  | n :: ns, p :: ps, i + 1, _, _, h, h1, h2 => by
    rw [List.getElem?_cons_succ] at h1 h2
    exact SeatOk.at h.2 h1 h2
theorem zip_bound {ns ps : List Int} (ok : SzOk ns) (hB : SzB ns) (i : Nat) : ∀ z ∈ (ps.zip ns).take i, 1 ≤ z.2 ∧ z.2 ≤ 10 ^ 45 := fun z hz => by
  have := (List.of_mem_zip (show (z.1, z.2) ∈ ps.zip ns from List.mem_of_mem_take hz)).2
  exact ⟨ok.one _ this, hB _ this⟩
theorem abs_succ {n : Int} (h : n.natAbs < 2 ^ 150) : (n + 1).natAbs < 2 ^ 151 := by
  have : (2 : Nat) ^ 151 = 2 * 2 ^ 150 := by decide +kernel
  omega
/-- the halves of a place -/
def halfL (p n : Int) : List Int := if n % 2 = 1 then [p * (n + 1) / 2 % n] else if p % 2 = 0 then [p / 2, (p + n) / 2] else []
theorem halfL_def (p n : Int) : halfL p n = if n % 2 = 1 then [p * (n + 1) / 2 % n] else if p % 2 = 0 then [p / 2, (p + n) / 2] else [] := rfl
/-- .. of a seat -/
def crossL (hss : List (List Int)) (ks : List Int) : List (List Int) := hss.flatMap fun hs => ks.map fun k => hs ++ [k]
def halvesF (zs : List (Int × Int)) : List (List Int) := zs.foldl (fun hss z => crossL hss (halfL z.1 z.2)) [[]]
theorem halves_snoc (zs : List (Int × Int)) (z : Int × Int) : halvesF (zs ++ [z]) = crossL (halvesF zs) (halfL z.1 z.2) := by
  unfold halvesF
  rw [List.foldl_append]
  rfl
theorem cross_snoc (hss : List (List Int)) (hs ks : List Int) : crossL (hss ++ [hs]) ks = crossL hss ks ++ ks.map fun k => hs ++ [k] := by
  unfold crossL
  rw [List.flatMap_append]
  simp
theorem cross_len (ks : List Int) : ∀ hss : List (List Int), (crossL hss ks).length = hss.length * ks.length
  | [] => by simp [crossL]
  | h :: hss => by
    have ih := cross_len ks hss
    unfold crossL at ih ⊢
    rw [List.flatMap_cons, List.length_append, ih, List.length_map, List.length_cons, Nat.succ_mul, Nat.add_comm]
theorem half_len (p n : Int) : (halfL p n).length ≤ 2 := by
  unfold halfL
  split
  · simp
  · split <;> simp
theorem halves_len : ∀ (zs : List (Int × Int)) (hss : List (List Int)), (zs.foldl (fun hss z => crossL hss (halfL z.1 z.2)) hss).length ≤ hss.length * 2 ^ zs.length
  | [], hss => by simp
  | z :: zs, hss => by
    refine Nat.le_trans (halves_len zs _) ?_
    rw [cross_len, List.length_cons, Nat.pow_succ, Nat.mul_comm (2 ^ zs.length), ← Nat.mul_assoc]
    exact Nat.mul_le_mul_right _ (Nat.mul_le_mul_left _ (half_len _ _))
theorem halves_few {zs : List (Int × Int)} (h : zs.length ≤ 4) : (halvesF zs).length ≤ 16 := by
  have := halves_len zs [[]]
  refine Nat.le_trans this ?_
  rw [List.length_singleton, Nat.one_mul]
  exact Nat.pow_le_pow_right (by decide) h
theorem halves_rows : ∀ (zs : List (Int × Int)) (hss : List (List Int)) (m : Nat), (∀ hs ∈ hss, hs.length = m) → ∀ hs ∈ zs.foldl (fun hss z => crossL hss (halfL z.1 z.2)) hss, hs.length = m + zs.length
  | [], hss, m, h => h
  | z :: zs, hss, m, h => fun hs hh => by
    have := halves_rows zs (crossL hss (halfL z.1 z.2)) (m + 1) (fun ks hk => ?_) hs hh
    · rw [this, List.length_cons]
      omega
    · obtain ⟨us, hu, hk⟩ := List.mem_flatMap.mp hk
      obtain ⟨k, _, rfl⟩ := List.mem_map.mp hk
      rw [List.length_append, h us hu]
      rfl
section
variable {P : Program} {w : World} {K : PySem.W.Frag} {mg : Str → Option Value} {base : Heap}
end

/-- a list (false) or a tuple (true) of tuples of ints -/
def RowsQ (H : Hp) (q : Bool × Addr) (tss : List (List Int)) : Prop := ∃ xs, SqH H q xs ∧ RowsR H xs tss
theorem RowsQ.mono {H H2 : Hp} {q : Bool × Addr} {tss : List (List Int)} (e : Ex H H2) (h : RowsQ H q tss) : RowsQ H2 q tss := by
  obtain ⟨xs, h1, h2⟩ := h
  exact ⟨xs, h1.mono e, h2.mono e⟩
theorem RowsQ.dp {K : PySem.W.Frag} {H : Hp} {q : Bool × Addr} {tss : List (List Int)} (h : RowsQ H q tss) : Dp K H (.ref q.2) (.list (tss.map iT)) ∨ Dp K H (.ref q.2) (.tuple (tss.map iT)) := by
  obtain ⟨xs, h1, h2⟩ := h
  obtain ⟨b, a⟩ := q
  cases b
  · exact .inl (.lst (SqL.of (show H a = some (.lst xs) from h1)) h2.dp)
  · exact .inr (.tup (SqT.of (show H a = some (.tup xs) from h1)) h2.dp)
theorem any_rows (tss : List (List Int)) (ps : List Int) : ((tss.map iT).any fun z => PyData.eqv z (iT ps)) = decide (ps ∈ tss) := by
  rw [List.any_map, Bool.eq_iff_iff, List.any_eq_true, decide_eq_true_eq]
  constructor
  · rintro ⟨x, hx, h⟩
    have h2 : PyData.eqv (iT x) (iT ps) = true := h
    rw [eqv_ints] at h2
    rw [← of_decide_eq_true h2]
    exact hx
  · intro h
    refine ⟨ps, h, ?_⟩
    show PyData.eqv (iT ps) (iT ps) = true
    rw [eqv_ints]
    simp
abbrev kI (ps : List Int) : List Key := ps.map Sum.inl
theorem kI_map (ps : List Int) : (kI ps).map kV = ps.map V.int := by
  rw [List.map_map]
  rfl
theorem kI_inj {a b : List Int} (h : kI a = kI b) : a = b := by
  induction a generalizing b with
  | nil =>
    cases b with
    | nil => rfl
    | cons y ys => simp at h
  | cons x xs ih =>
    cases b with
    | nil => simp at h
    | cons y ys =>
      simp only [List.map_cons, List.cons.injEq, Sum.inl.injEq] at h
      rw [h.1, ih h.2]
theorem nodup_get {α : Type} {l : List α} (nod : l.Nodup) {i : Nat} {t : α} (ht : l[i]? = some t) : ¬ t ∈ l.take i := by
  intro hm
  obtain ⟨j, hj⟩ := List.getElem?_of_mem hm
  obtain ⟨jl, je⟩ := List.getElem?_eq_some_iff.mp hj
  rw [List.length_take] at jl
  rw [List.getElem_take] at je
  obtain ⟨il, ie⟩ := List.getElem?_eq_some_iff.mp ht
  exact absurd (je.trans ie.symm) (List.pairwise_iff_getElem.mp nod j i (by omega) il (by omega))
theorem put_len {κ : Type} [DecidableEq κ] {kvs : List (κ × V)} {k : κ} {v : V} (h : valV kvs k = none) : (putK kvs k v).length = kvs.length + 1 := by
  rw [putK_new v h, List.length_append]
  rfl
section
variable {P : Program} {w : World} {K : PySem.W.Frag} {mg : Str → Option Value} {base : Heap}
def sp_require_table (C : Addr) : Sp := fun vs H Q _ => ∃ (a : Addr) (ns : List Int), vs = [.ref a] ∧ TabAt C H a ns ∧ Q .non H
theorem ok_require_table (T : TX K mg) : FnOk P w K mg base CX0 5 T.f_require_table T.fd_require_table ["table"] (sp_require_table T.C_Table) := by
  refine T.F_require_table.ok sc_require_table (fun vs H Q E h => ?_) (fun cdv A outer s H vs Q E hr h => ?_)
  · obtain ⟨a, ns, rfl, _⟩ := h
    rfl
  · obtain ⟨a, ns, rfl, ⟨dx, t, h1, h2⟩, k⟩ := h
    refine ⟨_, (pss_one (ps_if (pt_not (pt_val (pe_callB call_isi (by rfl) T.z_isinstance (by decide +kernel) (pa_cons (pv 0) (pa_cons (pe_glob (v := .ref T.C_Table) rfl T.m_Table rfl) pa_nil))))) pss_never pss_nil)), ?_⟩
    exact ⟨_, rfl, _, _, _, _, true, rfl, .own _, .base (.ins h1 T.cl_Table T.ic_Table T.ig_ T.it_ T.im_Table), kit_self, _, rfl, itf rfl k⟩
def sp_require_targets (C : Addr) : Sp := fun vs H Q _ => ∃ (a : Addr) (q : Bool × Addr) (ns : List Int) (tss : List (List Int)), vs = [.ref a, .ref q.2] ∧ TabAt C H a ns ∧ ns.length ≤ 4 ∧ RowsQ H q tss ∧ tss ≠ [] ∧ tss.length ≤ 100000 ∧ (∀ ts ∈ tss, SeatOk ns ts) ∧ tss.Nodup ∧ ∀ H2, Ex H H2 → Q .non H2
theorem ok_require_targets (T : TX K mg) : FnOk P w K mg base CX0 4 T.f_require_targets T.fd_require_targets ["table", "targets"] (sp_require_targets T.C_Table) := by
  refine T.F_require_targets.ok sc_require_targets (fun vs H Q E h => ?_) (fun cdv A outer s H vs Q E hr h => ?_)
  · obtain ⟨a, q, ns, tss, rfl, _⟩ := h
    rfl
  · obtain ⟨a, ⟨b, q⟩, ns, tss, rfl, tab, l4, ⟨xs, hq, rr⟩, ne, lts, sks, nod, k⟩ := h
    refine ⟨_, (pss_cons (ps_if (PW.pt (pw_or (pt_not (pt_val (pe_callB call_isiT (by rfl) T.z_isinstance (by decide +kernel) (pa_cons (pv 1) (pa_cons (pe_tup (pa_cons (pe_bltn (v := .ty "list") rfl T.z_list (by decide +kernel) rfl) (pa_cons (pe_bltn (v := .ty "tuple") rfl T.z_tuple (by decide +kernel) rfl) pa_nil))) pa_nil))))) (pw_or1 (pt_cmpR op_eq (pe_callB call_len_seq (by rfl) T.z_len (by decide +kernel) (pa_cons (pv 1) pa_nil)) pe_int (nomark _))))) pss_never pss_nil) (pss_cons (ps_set (i := 2) sc_require_targets.nd rfl (Or.inl rfl) pe_dnewT) (pss_one (ps_for PassesOwn.never rfl (CE.pi_e rfl T.z_enumerate (pa_cons (pv 1) pa_nil)) (pg_tup rfl (pgs_cons (pg_name (i := 3) sc_require_targets.nd rfl (Or.inl rfl)) (pgs_cons (pg_name (i := 4) sc_require_targets.nd rfl (Or.inl rfl)) pgs_nil))) (pss_cons (ps_if (PW.pt (pw_or (pt_not (pt_val (pe_meth (pv 0) T.cl_Table T.me_Table_is_seat (ok_Table_is_seat T) hr T.b_Table_is_seat .nil pass0 (pa_cons (pv 4) pa_nil)))) (pw_or1 (pt_cmp (pc_din (hu_of hr) (pv 4) (pv 2)))))) pss_never pss_nil) (pss_one (ps_dput (hu_of hr) (pv 2) (pv 4) (pv 3) (by rfl)))))))), ?_⟩
    have lx := rr.len
    (repeat (first | refine ⟨rfl, ?_⟩ | refine ⟨_, rfl, ?_⟩ | refine ⟨_, _, rfl, rfl, ?_⟩ | refine ⟨_, _, rfl, ?_⟩ | refine ⟨slen rfl, ?_⟩ | refine ⟨⟨by decide, by decide +kernel⟩, ?_⟩ | refine ⟨⟨by decide, by decide, by decide⟩, ?_⟩ | refine ⟨(by show (0 : Int) < _; first | decide | assumption | omega), ?_⟩ | refine ⟨mul_ok (by first | exact .inr (by decide) | exact .inl (by decide)), ?_⟩))
    (intro y ny; generalize hGy : upd _ y _ = H1; have eH1 := exG hGy ny; have hy := atG hGy; clear hGy)
    have q1 := hq.mono eH1
    refine ⟨_, y, _, _, _, true, rfl, hy, .cons (.ty _) (.cons (.ty _) .nil), q1.ty, kit_seq b, _, rfl, ?_⟩
    refine ⟨_, rfl, q, _, rfl, sq_or q1, rfl, _, rfl, itf (by rw [dec_int, lx]; simp; exact ne) ?_⟩
    (intro d nd; generalize hGd : upd _ d _ = H2; have eH2 := exG hGd nd; have hd := atG hGd; clear hGd)
    have e2 : Ex H H2 := ext eH1 eH2
    have nd0 : H d = none := Evl.fresh_back eH1 nd
    refine ⟨_, rfl, (b, q), rfl, ⟨_, (hq.mono e2).sq⟩, ?_⟩
    refine for_it (CE.walk_e (xs := xs)) (fun i σ H3 => ∃ (y3 y4 : Option V) (kvs : List (List Key × V)), σ = [some (.ref a), some (.ref q), some (.ref d), y3, y4] ∧ Ex H H3 ∧ H3 d = some (.dT kvs) ∧ kvs.length = i ∧ ∀ ts : List Int, (valV kvs (kI ts)).isSome = true → ts ∈ tss.take i) ⟨_, _, [], rfl, e2, hd, rfl, fun t h => by simp [valV] at h⟩ (fun i σ H2 _ ⟨_, _, _, _, e, _⟩ => (hq.mono e).sq) ?_ ?_
    · rintro i x σ H3 H4 hi ⟨y3, y4, kvs, rfl, e3, hd3, lk, hv⟩ ⟨Ta, x1, x2, rfl, hT, rfl, hx1, hx2⟩
      cases hx1
      obtain ⟨ts, r, ht, rfl, hr0⟩ := rr.get hx2
      have sk := sks ts (List.mem_of_getElem? ht)
      have lt := sk.len
      have e4 : Ex H (upd H3 Ta (.tup [.int (i : Nat), .ref r])) := ext e3 (exn hT)
      have hd4 := exn (o := .tup [.int (i : Nat), .ref r]) hT _ _ hd3
      refine ⟨Ta, _, rfl, SqT.of upd_same, rfl, _, _, rfl, _, _, rfl, rfl, ?_⟩
      generalize upd H3 Ta (.tup [.int (i : Nat), .ref r]) = H4 at e4 hd4
      obtain ⟨dx, t, g1, g2⟩ := tab.mono e4
      refine ⟨_, rfl, a, dx, _, rfl, g1, rfl, _, rfl, a, _, ns, _, rfl, tab.mono e4, l4, TupA.ints (e4 _ _ hr0) (by omega), fun H5 e5 => ?_⟩
      refine ⟨_, rfl, itf (by rw [isSeat_ok sk]; rfl) ?_⟩
      have hno : valV kvs (kI ts) = none := by
        cases hz : valV kvs (kI ts) with
        | none => rfl
        | some v => exact absurd (hv ts (by rw [hz]; rfl)) (nodup_get nod ht)
      have hd5 := e5 _ _ hd4
      have hr5 : H5 r = some (.tup ((kI ts).map kV)) := by rw [kI_map]; exact e5 _ _ (e4 _ _ hr0)
      refine ⟨_, rfl, _, rfl, d, _, rfl, DGet.t hd5 hr5, _, rfl, itf (by rw [hno]; rfl) ?_⟩
      refine ⟨_, rfl, _, rfl, _, rfl, d, _, rfl, DPut.t hd5 hr5 ?_, ?_⟩
      · rw [lk]
        exact Nat.lt_of_lt_of_le (show i < tss.length by omega) (Nat.le_trans lts (by decide))
      · refine ⟨_, _, putK kvs (kI ts) (.int (i : Nat)), rfl, ?_, upd_same, by rw [put_len hno, lk], fun us hu => ?_⟩
        · intro c o z
          rw [upd_ne (ne_of_none z nd0)]
          exact e5 c o (e4 c o z)
        · rw [valV_put] at hu
          rw [take_more ht, List.mem_append]
          by_cases e : us = ts
          · exact .inr (by rw [e]; exact List.mem_cons_self)
          · rw [if_neg (fun z => e (kI_inj z))] at hu
            exact .inl (hv us hu)
    · rintro σ H2 ⟨y3, y4, kvs, rfl, e3, _⟩
      exact k _ e3
end

/-- a source of draws stands at s -/
def Src (H : Hp) (s : Addr) : Prop := ∃ a b c : Int, H s = some (.lst [.int a, .int b, .int c])
theorem Src.mono {s : Addr} {H H2 : Hp} (e : Ex H H2) (h : Src H s) : Src H2 s := by
  obtain ⟨a, b, c, h⟩ := h
  exact ⟨a, b, c, e _ _ h⟩
theorem Src.ne {s p : Addr} {H : Hp} (h : Src H s) (hp : H p = none) : p ≠ s := by
  obtain ⟨a, b, c, h⟩ := h
  exact (ne_of_none h hp).symm
theorem Src.new {s p : Addr} {H : Hp} {o : HO} (h : Src H s) (hp : H p = none) : Src (upd H p o) s := Src.mono (exn hp) h
section
variable {P : Program} {w : World} {K : PySem.W.Frag} {mg : Str → Option Value} {base : Heap}
def sp_law_mixed : Sp := fun vs H Q _ => ∃ c d : Int, vs = [.int c, .int d] ∧ ∀ r : Int, 0 ≤ r → r < 2147483563 → Q (.int r) H
theorem ok_law_mixed (T : TX K mg) : FnOk P w K mg base CX0 1 T.f_law_mixed T.fd_law_mixed ["_law_cell", "_law_draw"] sp_law_mixed := by
  refine T.F_law_mixed.ok sc_law_mixed (fun vs H Q E h => ?_) (fun cdv A outer s H vs Q E hr h => ?_)
  · obtain ⟨c, d, rfl, _⟩ := h
    rfl
  · obtain ⟨c, d, rfl, k⟩ := h
    refine ⟨_, (pss_cons (ps_set (i := 2) sc_law_mixed.nd rfl (Or.inl rfl) (pe_op op_mod (pe_op op_mulI (pe_op op_add (pe_op op_mod (pv 0) pe_int) pe_int) (pe_op op_add (pe_op op_mulI (pv 1) pe_int) pe_int)) pe_int)) (pss_cons (ps_set (i := 2) sc_law_mixed.nd rfl (Or.inl rfl) (pe_op op_mod (pe_op op_mulI (pe_op op_add (pv 2) (pe_op op_mulI (pe_op op_mod (pe_op op_fdivW (pv 0) pe_int) pe_int) (pe_op op_add (pv 1) pe_int))) pe_int) pe_int)) (pss_cons (ps_set (i := 2) sc_law_mixed.nd rfl (Or.inl rfl) (pe_op op_mod (pe_op op_mulI (pv 2) (pe_op op_add (pe_op op_add (pe_op op_fdivW (pv 2) pe_int) pe_int) (pv 1))) pe_int)) (pss_one (ps_ret (pe_op op_mod (pe_op op_mulI (pv 2) (pe_op op_add (pe_op op_fdivW (pv 2) pe_int) pe_int)) pe_int)))))), ?_⟩
    have a1 := mod_lo (i := c) (n := 2147483646) (by decide)
    have a2 := mod_hi (i := c) (n := 2147483646) (by decide)
    refine ⟨_, rfl, _, _, rfl, rfl, (by show (0 : Int) < _; decide), _, _, rfl, rfl, _, rfl, _, _, rfl, rfl, mul_ok (.inr (by decide)), _, _, rfl, rfl, _, _, rfl, rfl, mul_ok (.inl (by omega)), _, _, rfl, rfl, (by show (0 : Int) < _; decide), ?_⟩
    generalize (c % 2147483646 + 1) * (d * 7919 + 104729) % 2147483647 = n1
    have b1 := mod_lo (i := c / 2147483646) (n := 1000003) (by decide)
    have b2 := mod_hi (i := c / 2147483646) (n := 1000003) (by decide)
    refine ⟨_, rfl, _, rfl, _, _, rfl, rfl, ⟨by decide, by decide +kernel⟩, _, _, rfl, rfl, (by show (0 : Int) < _; decide), _, rfl, _, _, rfl, rfl, _, _, rfl, rfl, mul_ok (.inl (by omega)), _, _, rfl, rfl, _, _, rfl, rfl, mul_ok (.inr (by decide)), _, _, rfl, rfl, (by show (0 : Int) < _; decide), ?_⟩
    have c1 := mod_lo (i := (n1 + c / 2147483646 % 1000003 * (d + 31)) * 48271) (n := 2147483629) (by decide)
    have c2 := mod_hi (i := (n1 + c / 2147483646 % 1000003 * (d + 31)) * 48271) (n := 2147483629) (by decide)
    generalize (n1 + c / 2147483646 % 1000003 * (d + 31)) * 48271 % 2147483629 = n2 at c1 c2
    refine ⟨_, rfl, _, rfl, _, _, rfl, rfl, ⟨by decide, by decide +kernel⟩, _, _, rfl, rfl, _, rfl, _, _, rfl, rfl, _, _, rfl, rfl, mul_ok (.inl (by omega)), _, _, rfl, rfl, (by show (0 : Int) < _; decide), ?_⟩
    have d1 := mod_lo (i := n2 * (n2 / 1013 + 69621 + d)) (n := 2147483587) (by decide)
    have d2 := mod_hi (i := n2 * (n2 / 1013 + 69621 + d)) (n := 2147483587) (by decide)
    generalize n2 * (n2 / 1013 + 69621 + d) % 2147483587 = n3 at d1 d2
    exact ⟨_, rfl, _, rfl, _, _, rfl, rfl, ⟨by decide, by decide +kernel⟩, _, _, rfl, rfl, _, _, rfl, rfl, mul_ok (.inl (by omega)), _, _, rfl, rfl, (by show (0 : Int) < _; decide), k _ (mod_lo (by decide)) (mod_hi (by decide))⟩
def sp_law_source : Sp := fun vs H Q _ => ∃ c : Int, vs = [.int c] ∧ ∀ H2 s, Ex H H2 → H s = none → Src H2 s → Q (.ref s) H2
theorem ok_law_source (T : TX K mg) : FnOk P w K mg base CX0 1 T.f_law_source T.fd_law_source ["_law_cell"] sp_law_source := by
  refine T.F_law_source.ok sc_law_source (fun vs H Q E h => ?_) (fun cdv A outer s H vs Q E hr h => ?_)
  · obtain ⟨c, rfl, _⟩ := h
    rfl
  · obtain ⟨c, rfl, k⟩ := h
    exact ⟨_, (pss_one (ps_ret (pe_lst (pa_cons (pv 0) (pa_cons (pv 0) (pa_cons pe_int pa_nil)))))), ⟨_, rfl, _, rfl, (by show 3 ≤ sizeLine; decide), fun s hs => k _ s (exn hs) hs ⟨c, c, 0, upd_same⟩⟩⟩
def sp_law_take : Sp := fun vs H Q _ => ∃ (s : Addr) (n : Int), vs = [.ref s, .int n] ∧ Src H s ∧ 0 < n ∧ n.natAbs < 2 ^ 8000 ∧ ∀ r H2, 0 ≤ r → r < n → XB s H H2 → Src H2 s → Q (.int r) H2
theorem ok_law_take (T : TX K mg) : FnOk P w K mg base CX0 2 T.f_law_take T.fd_law_take ["_law_source_here", "_law_count"] sp_law_take := by
  refine T.F_law_take.ok sc_law_take (fun vs H Q E h => ?_) (fun cdv A outer s H vs Q E hr h => ?_)
  · obtain ⟨s, n, rfl, _⟩ := h
    rfl
  · obtain ⟨s, n, rfl, ⟨a, b, c, hs⟩, h0, hb, k⟩ := h
    refine ⟨_, (pss_cons (ps_if (pt_cmpR op_ge (pe_ix ix_list (pv 0) pe_int (fun _ _ => rfl)) (pe_op op_pow pe_int pe_int) (nomark _)) (pss_cons (ps_set (i := 2) sc_law_take.nd rfl (Or.inl rfl) (pe_op op_mod (pe_ix ix_list (pv 0) pe_int (fun _ _ => rfl)) (pv 1))) (pss_cons (ps_asg (pe_op op_fdivW (pe_ix ix_list (pv 0) pe_int (fun _ _ => rfl)) (pv 1)) (pg_sub (pv 0) pe_int set_list)) (pss_one (ps_ret (pv 2))))) pss_nil) (pss_cons (ps_asg (pe_op op_add (pe_ix ix_list (pv 0) pe_int (fun _ _ => rfl)) pe_int) (pg_sub (pv 0) pe_int set_list)) (pss_one (ps_ret (pe_op op_mod (pe_call (ok_law_mixed T) hr rfl T.m_law_mixed T.F_law_mixed.kp T.b_law_mixed .nil pass0 (pa_cons (pe_ix ix_list (pv 0) pe_int (fun _ _ => rfl)) (pa_cons (pe_ix ix_list (pv 0) pe_int (fun _ _ => rfl)) pa_nil))) (pv 1)))))), ?_⟩
    refine ⟨_, rfl, s, _, _, _, rfl, rfl, SqL.of hs, rfl, _, _, rfl, rfl, ⟨by decide, by decide, by decide⟩, _, _, rfl, rfl, _, rfl, ?_⟩
    refine ite2 (fun _ => ?_) (fun _ => ?_)
    · refine ⟨_, rfl, s, _, _, _, rfl, rfl, SqL.of hs, rfl, _, rfl, _, _, rfl, rfl, h0, ?_⟩
      refine ⟨_, rfl, s, _, _, _, rfl, rfl, SqL.of hs, rfl, _, rfl, _, _, rfl, rfl, wide_div h0 hb (by decide) (by decide), _, rfl, s, _, _, 0, rfl, rfl, hs, rfl, ?_⟩
      exact ⟨_, rfl, k _ _ (mod_lo h0) (mod_hi h0) XB.upd ⟨_, _, _, upd_same⟩⟩
    · refine ⟨_, rfl, s, _, _, _, rfl, rfl, SqL.of hs, rfl, _, _, rfl, rfl, _, rfl, s, _, _, 2, rfl, rfl, hs, rfl, ?_⟩
      refine ⟨_, rfl, s, _, _, _, rfl, rfl, SqL.of upd_same, rfl, _, rfl, s, _, _, _, rfl, rfl, SqL.of upd_same, rfl, _, _, rfl, fun r _ _ => ?_⟩
      exact ⟨_, rfl, _, _, rfl, rfl, h0, k _ _ (mod_lo h0) (mod_hi h0) XB.upd ⟨_, _, _, upd_same⟩⟩
end

theorem XB.src {s : Addr} {H H2 H3 : Hp} (xb : XB s H H2) (e : Ex H2 H3) : XB s H H3 := xb.trans (XB.of e)
/-- an appended list D, new behind H, beside the source s -/
theorem XB.app {s D : Addr} {H H2 : Hp} {o : HO} (xb : XB s H H2) (hD : H D = none) : XB s H (L2.upd H2 D o) := fun c u n z => by
  rw [upd_ne (ne_of_none z hD)]
  exact xb c u n z
theorem Src.app {s D : Addr} {H : Hp} {o : HO} (h : Src H s) (n : D ≠ s) : Src (upd H D o) s := by
  obtain ⟨a, b, c, z⟩ := h
  exact ⟨a, b, c, by rw [upd_ne n.symm]; exact z⟩
theorem atI_nat {α : Type} {xs : List α} {r : Int} (r0 : 0 ≤ r) (r1 : r < xs.length) : ∃ v, atI xs r = some v ∧ v ∈ xs := by
  have h : r.toNat < xs.length := by omega
  refine ⟨xs[r.toNat], ?_, List.getElem_mem h⟩
  unfold atI ixN
  rw [if_pos r0, if_pos r1]
  show xs[r.toNat]? = _
  rw [List.getElem?_eq_getElem h]
theorem prodL_snoc (ns : List Int) (n : Int) : ns.foldl (fun p n => p * n) 1 * n = (ns ++ [n]).foldl (fun p n => p * n) 1 := by
  rw [List.foldl_append]
  rfl
theorem SeatOk.snoc : ∀ {ns ps : List Int} {n p : Int}, SeatOk ns ps → 0 ≤ p → p < n → SeatOk (ns ++ [n]) (ps ++ [p])
  | [], [], _, _, _, h0, h1 => ⟨⟨h0, h1⟩, True.intro⟩
  | _ :: _, _ :: _, _, _, h, h0, h1 => ⟨h.1, SeatOk.snoc h.2 h0 h1⟩
theorem abs30 {n : Int} (h1 : 1 ≤ n) (h2 : n ≤ 10 ^ 30) : n.natAbs < 2 ^ 100 := by
  have : (10 : Int) ^ 30 < 2 ^ 100 := by decide +kernel
  omega
theorem tup_xb {s q : Addr} {H H2 : Hp} {xs : List V} (src : Src H s) (h : H q = some (.tup xs)) (xb : XB s H H2) : H2 q = some (.tup xs) := by
  obtain ⟨a, b, c, z⟩ := src
  exact xb _ _ (ne_of h z (by intro q; cases q)) h
theorem TabAt.xb {C s a : Addr} {H H2 : Hp} {ns : List Int} (src : Src H s) (xb : XB s H H2) (h : TabAt C H a ns) : TabAt C H2 a ns := by
  obtain ⟨dx, t, h1, h2⟩ := h
  obtain ⟨x, y, c, z⟩ := src
  exact ⟨dx, t, xb _ _ (ne_of h1 z (by intro q; cases q)) h1, xb _ _ (ne_of h2 z (by intro q; cases q)) h2⟩
theorem RowsR.xb {s : Addr} {H H2 : Hp} {xs : List V} {tss : List (List Int)} (h : RowsR H xs tss) (src : Src H s) (xb : XB s H H2) : RowsR H2 xs tss := h.monoT fun _ _ z => tup_xb src z xb
theorem RowsAt.xb {s f : Addr} {H H2 : Hp} {tss : List (List Int)} (h : RowsAt H f tss) (n : f ≠ s) (src : Src H s) (xb : XB s H H2) : RowsAt H2 f tss := by
  obtain ⟨xs, h1, h2⟩ := h
  exact ⟨xs, xb _ _ n h1, h2.xb src xb⟩

/-! ### lattices of integer vectors -/
abbrev Vec := Nat → Int
inductive Lat (G : Vec → Prop) : Vec → Prop where
  | zero : Lat G (fun _ => 0)
  | step {v g : Vec} (k : Int) (h : Lat G v) (hg : G g) : Lat G (fun i => v i - k * g i)
theorem Lat.comb {G : Vec → Prop} {u v : Vec} (hu : Lat G u) (hv : Lat G v) : ∀ k : Int, Lat G (fun i => u i - k * v i) := by
  induction hv with
  | zero =>
    intro k
    have : (fun i => u i - k * 0) = u := by funext i; simp
    rw [this]
    exact hu
  | step j h hg ih =>
    intro k
    have := Lat.step (-(k * j)) (ih k) hg
    refine (congrArg (Lat G) (funext fun i => ?_)).mp this
    grind
theorem Lat.gen {G : Vec → Prop} {g : Vec} (h : G g) : Lat G g := by
  have := Lat.step (-1) (Lat.zero (G := G)) h
  refine (congrArg (Lat G) (funext fun i => ?_)).mp this
  grind
theorem Lat.of_eq {G : Vec → Prop} {u v : Vec} (h : Lat G u) (e : ∀ i, u i = v i) : Lat G v := (funext e : u = v) ▸ h
theorem Lat.add {G : Vec → Prop} {u v : Vec} (hu : Lat G u) (hv : Lat G v) : Lat G (fun i => u i + v i) := (hu.comb hv (-1)).of_eq fun i => by grind
theorem Lat.mul {G : Vec → Prop} {v : Vec} (hv : Lat G v) (k : Int) : Lat G (fun i => k * v i) := (Lat.zero.comb hv (-k)).of_eq fun i => by grind
theorem Lat.le {G G' : Vec → Prop} {v : Vec} (h : ∀ g, G g → Lat G' g) (hv : Lat G v) : Lat G' v := by
  induction hv with
  | zero => exact .zero
  | step k _ hg ih => exact ih.comb (h _ hg) k
/-- a list as a vector -/
def vf (v : List Int) : Vec := fun i => v.getD i 0
theorem vf_nil : vf [] = fun _ => 0 := by funext i; simp [vf]
theorem vf_ge {v : List Int} {i : Nat} (h : v.length ≤ i) : vf v i = 0 := by
  unfold vf
  rw [List.getD_eq_getElem?_getD, List.getElem?_eq_none h]
  rfl
theorem vf_at {v : List Int} {i : Nat} {x : Int} (h : v[i]? = some x) : vf v i = x := by
  unfold vf
  rw [List.getD_eq_getElem?_getD, h]
  rfl
def axpy (k : Int) (a b : List Int) : List Int := List.zipWith (fun x y => x - k * y) a b
theorem axpy_len {k : Int} {a b : List Int} (h : a.length = b.length) : (axpy k a b).length = b.length := by simp [axpy, h]
theorem axpy_vf {k : Int} {a b : List Int} (h : a.length = b.length) : vf (axpy k a b) = fun i => vf a i - k * vf b i := by
  funext i
  by_cases hi : i < a.length
  · have h1 : a[i]? = some a[i] := List.getElem?_eq_getElem hi
    have h2 : b[i]? = some (b[i]'(by omega)) := List.getElem?_eq_getElem (by omega)
    have h3 : (axpy k a b)[i]? = some (a[i] - k * b[i]'(by omega)) := by
      unfold axpy
      rw [List.getElem?_zipWith, h1, h2]
    rw [vf_at h1, vf_at h2, vf_at h3]
  · rw [vf_ge (v := a) (by omega), vf_ge (v := b) (by omega), vf_ge (by rw [axpy_len h]; omega)]
    grind
/-- what stays behind Euclid's step -/
theorem fmod_small {x y : Int} (h : y ≠ 0) : (x - x.fdiv y * y).natAbs < y.natAbs := by
  have e := Int.fmod_def x y
  have e2 : x - x.fdiv y * y = x.fmod y := by rw [e, Int.mul_comm]
  rw [e2]
  rw [Int.fmod_eq_emod]
  have a := Int.emod_nonneg x h
  have b := Int.emod_lt x h
  split
  · omega
  · rename_i hn
    have hd : ¬ y ∣ x := fun z => hn (.inr z)
    have hy : ¬ 0 ≤ y := fun z => hn (.inl z)
    have : x % y ≠ 0 := fun z => hd (Int.dvd_of_emod_eq_zero z)
    omega
/-- rows of Euclid, by a column -/
def combF (c : Nat) (f s : List Int) : List Int × List Int :=
  if h : vf s c = 0 then (f, s) else combF c s (axpy ((vf f c).fdiv (vf s c)) f s)
termination_by (vf s c).natAbs
decreasing_by
  by_cases hf : c < f.length
  · have hs : c < s.length := by
      rcases Nat.lt_or_ge c s.length with z | z
      · exact z
      · exact absurd (vf_ge z) h
    have h3 : (axpy ((vf f c).fdiv (vf s c)) f s)[c]? = some (f[c] - (vf f c).fdiv (vf s c) * s[c]) := by
      unfold axpy
      rw [List.getElem?_zipWith, List.getElem?_eq_getElem hf, List.getElem?_eq_getElem hs]
    rw [vf_at h3, ← vf_at (List.getElem?_eq_getElem hf), ← vf_at (List.getElem?_eq_getElem hs)]
    exact fmod_small h
  · rw [vf_ge (v := axpy _ f s) (by unfold axpy; rw [List.length_zipWith]; omega)]
    omega
theorem combF_eq (c : Nat) (f s : List Int) : combF c f s = if vf s c = 0 then (f, s) else combF c s (axpy ((vf f c).fdiv (vf s c)) f s) := by
  rw [combF]
  split <;> rfl
/-- by induction on Euclid's steps -/
theorem comb_ind {c : Nat} {P : List Int → List Int → Prop} {n : Nat} (h : ∀ f s, f.length = n → s.length = n → vf s c ≠ 0 → P f s → P s (axpy ((vf f c).fdiv (vf s c)) f s)) :
    ∀ (m : Nat) (f s : List Int), (vf s c).natAbs ≤ m → f.length = n → s.length = n → P f s → P (combF c f s).1 (combF c f s).2 ∧ (combF c f s).1.length = n ∧ (combF c f s).2.length = n ∧ vf (combF c f s).2 c = 0
  | m, f, s, hm, lf, ls, hp => by
    rw [combF_eq]
    by_cases z : vf s c = 0
    · rw [if_pos z]
      exact ⟨hp, lf, ls, z⟩
    · rw [if_neg z]
      have la : (axpy ((vf f c).fdiv (vf s c)) f s).length = n := by rw [axpy_len (by omega), ls]
      have lt : (vf (axpy ((vf f c).fdiv (vf s c)) f s) c).natAbs < (vf s c).natAbs := by
        rw [axpy_vf (by omega)]
        exact fmod_small z
      cases m with
      | zero => omega
      | succ m => exact comb_ind h m s _ (by omega) ls la (h f s lf ls z hp)
/-- generators: two rows and others -/
def two (R : Vec → Prop) (f s : List Int) : Vec → Prop := fun g => g = vf f ∨ g = vf s ∨ R g
theorem comb_lat {c n : Nat} {f s : List Int} (lf : f.length = n) (ls : s.length = n) (R : Vec → Prop) (v : Vec) : Lat (two R f s) v ↔ Lat (two R (combF c f s).1 (combF c f s).2) v := by
  have := comb_ind (c := c) (n := n) (P := fun a b => ∀ v, Lat (two R f s) v ↔ Lat (two R a b) v) (fun a b la lb nz ih v => (ih v).trans ?_) _ f s (Nat.le_refl _) lf ls fun v => Iff.rfl
  · exact this.1 v
  constructor
  · refine Lat.le fun g hg => ?_
    rcases hg with rfl | rfl | hg
    · have h1 : Lat (two R b (axpy ((vf a c).fdiv (vf b c)) a b)) (vf (axpy ((vf a c).fdiv (vf b c)) a b)) := Lat.gen (.inr (.inl rfl))
      rw [axpy_vf (by omega)] at h1
      have h2 : Lat (two R b (axpy ((vf a c).fdiv (vf b c)) a b)) (vf b) := Lat.gen (.inl rfl)
      exact (h1.comb h2 (-((vf a c).fdiv (vf b c)))).of_eq fun i => by grind
    · exact Lat.gen (.inl rfl)
    · exact Lat.gen (.inr (.inr hg))
  · refine Lat.le fun g hg => ?_
    rcases hg with rfl | rfl | hg
    · exact Lat.gen (.inr (.inl rfl))
    · rw [axpy_vf (by omega)]
      exact (Lat.gen (G := two R a b) (.inl rfl)).comb (Lat.gen (.inr (.inl rfl))) _
    · exact Lat.gen (.inr (.inr hg))
theorem comb_zero {c n j : Nat} {f s : List Int} (lf : f.length = n) (ls : s.length = n) (h1 : vf f j = 0) (h2 : vf s j = 0) : vf (combF c f s).1 j = 0 ∧ vf (combF c f s).2 j = 0 :=
  (comb_ind (c := c) (n := n) (P := fun a b => vf a j = 0 ∧ vf b j = 0) (fun a b la lb nz ih => ⟨ih.2, by rw [axpy_vf (by omega)]; simp [ih.1, ih.2]⟩) _ f s (Nat.le_refl _) lf ls ⟨h1, h2⟩).1
theorem comb_nz {c n : Nat} {f s : List Int} (lf : f.length = n) (ls : s.length = n) (h1 : vf f c ≠ 0) : vf (combF c f s).1 c ≠ 0 :=
  (comb_ind (c := c) (n := n) (P := fun a b => vf a c ≠ 0) (fun a b la lb nz ih => nz) _ f s (Nat.le_refl _) lf ls h1).1
theorem comb_len {c n : Nat} {f s : List Int} (lf : f.length = n) (ls : s.length = n) : (combF c f s).1.length = n ∧ (combF c f s).2.length = n ∧ vf (combF c f s).2 c = 0 :=
  (comb_ind (c := c) (n := n) (P := fun _ _ => True) (fun _ _ _ _ _ _ => True.intro) _ f s (Nat.le_refl _) lf ls True.intro).2

/-! ### a triangular basis -/
def unitV (j : Nat) (x : Int) : Vec := fun i => if i = j then x else 0
def redF (c : Nat) (odds row : List Int) : List Int := row.take (c + 1) ++ List.zipWith (fun x y => x % y) (row.drop (c + 1)) (odds.drop (c + 1))
theorem red_len {c n : Nat} {odds row : List Int} (h1 : odds.length = n) (h2 : row.length = n) : (redF c odds row).length = n := by
  unfold redF
  rw [List.length_append, List.length_take, List.length_zipWith, List.length_drop, List.length_drop]
  omega
theorem red_vf {c n : Nat} {odds row : List Int} (h1 : odds.length = n) (h2 : row.length = n) (i : Nat) : vf (redF c odds row) i = if c < i ∧ i < n then vf row i % vf odds i else vf row i := by
  by_cases hn : i < n
  · by_cases hc : c < i
    · rw [if_pos ⟨hc, hn⟩]
      have e1 : row[i]? = some (row[i]'(by omega)) := List.getElem?_eq_getElem (by omega)
      have e2 : odds[i]? = some (odds[i]'(by omega)) := List.getElem?_eq_getElem (by omega)
      rw [vf_at e1, vf_at e2]
      refine vf_at ?_
      unfold redF
      rw [List.getElem?_append_right (by rw [List.length_take]; omega), List.getElem?_zipWith, List.length_take, List.getElem?_drop, List.getElem?_drop]
      have e3 : c + 1 + (i - min (c + 1) row.length) = i := by omega
      rw [e3, e1, e2]
    · rw [if_neg (fun z => hc z.1)]
      have e1 : row[i]? = some (row[i]'(by omega)) := List.getElem?_eq_getElem (by omega)
      rw [vf_at e1]
      refine vf_at ?_
      unfold redF
      rw [List.getElem?_append_left (by rw [List.length_take]; omega), List.getElem?_take, if_pos (by omega), e1]
  · rw [if_neg (fun z => hn z.2), vf_ge (by rw [red_len h1 h2]; omega), vf_ge (by omega)]
/-- multiples of units -/
theorem units_lat {G : Vec → Prop} {c n : Nat} {o k : Nat → Int} (h : ∀ j, c < j → j < n → G (unitV j (o j))) : ∀ m, m ≤ n → Lat G (fun i => if c < i ∧ i < m then k i * o i else 0)
  | 0, _ => Lat.zero.of_eq fun i => by simp
  | m + 1, hm => by
    have ih := units_lat (k := k) h m (by omega)
    by_cases hc : c < m
    · refine (ih.comb (Lat.gen (h m hc (by omega))) (-(k m))).of_eq fun i => ?_
      unfold unitV
      by_cases hi : i = m
      · subst hi
        rw [if_neg (by omega), if_pos rfl, if_pos (by omega)]
        grind
      · rw [if_neg hi]
        by_cases hj : c < i ∧ i < m
        · rw [if_pos hj, if_pos (by omega)]
          grind
        · rw [if_neg hj, if_neg (by omega)]
          grind
    · refine ih.of_eq fun i => ?_
      by_cases hj : c < i ∧ i < m
      · omega
      · rw [if_neg hj, if_neg (by omega)]
/-- a row and the reduced one: alike beside the units -/
theorem red_lat {G : Vec → Prop} {c n : Nat} {odds row : List Int} (h1 : odds.length = n) (h2 : row.length = n) (h : ∀ j, c < j → j < n → G (unitV j (vf odds j))) : Lat G (fun i => vf row i - vf (redF c odds row) i) := by
  refine (units_lat (k := fun i => vf row i / vf odds i) h n (Nat.le_refl _)).of_eq fun i => ?_
  rw [red_vf h1 h2]
  by_cases hi : c < i ∧ i < n
  · rw [if_pos hi, if_pos hi]
    have := Int.mul_ediv_add_emod (vf row i) (vf odds i)
    grind
  · rw [if_neg hi, if_neg hi]
    grind
/-- one row more in a column -/
def pivF (c : Nat) (odds : List Int) (st : List Int × List (List Int)) (row : List Int) : List Int × List (List Int) :=
  (redF c odds (combF c st.1 row).1, st.2 ++ [redF c odds (combF c st.1 row).2])
def unitL (n c : Nat) (x : Int) : List Int := (List.range n).map fun i => if i = c then x else 0
theorem unitL_vf {n c : Nat} {x : Int} (h : c < n) : vf (unitL n c x) = unitV c x := by
  funext i
  unfold unitV unitL
  by_cases hi : i < n
  · refine vf_at ?_
    rw [List.getElem?_map, List.getElem?_range hi]
    rfl
  · rw [vf_ge (by simp; omega), if_neg (by omega)]
def colF (odds : List Int) (c : Nat) (rows : List (List Int)) : List Int × List (List Int) := rows.foldl (pivF c odds) (unitL odds.length c (vf odds c), [])
/-- generators: rows done, a pivot, rows, units behind c -/
def gens (B : Vec → Prop) (p : List Int) (rows : List (List Int)) (c n : Nat) (odds : List Int) : Vec → Prop := fun g => B g ∨ g = vf p ∨ (∃ r ∈ rows, g = vf r) ∨ ∃ j, c < j ∧ j < n ∧ g = unitV j (vf odds j)
theorem lat_same {G G' : Vec → Prop} (h : ∀ g, G g → Lat G' g) (h' : ∀ g, G' g → Lat G g) (v : Vec) : Lat G v ↔ Lat G' v := ⟨Lat.le h, Lat.le h'⟩
/-- a row replaced by one that differs by the lattice of the others -/
theorem lat_swap {R : Vec → Prop} {a b : Vec} (h : Lat R (fun i => a i - b i)) (v : Vec) : Lat (fun g => g = a ∨ R g) v ↔ Lat (fun g => g = b ∨ R g) v := by
  have up : ∀ {c : Vec} {g : Vec}, Lat R g → Lat (fun g => g = c ∨ R g) g := fun z => Lat.le (fun g hg => Lat.gen (.inr hg)) z
  refine lat_same (fun g hg => ?_) (fun g hg => ?_) v
  · rcases hg with rfl | hg
    · exact ((up h).add (Lat.gen (G := fun g => g = b ∨ R g) (.inl rfl))).of_eq fun i => by grind
    · exact Lat.gen (.inr hg)
  · rcases hg with rfl | hg
    · exact ((Lat.gen (G := fun g => g = a ∨ R g) (.inl rfl)).comb (up h) 1).of_eq fun i => by grind
    · exact Lat.gen (.inr hg)
theorem lat_congr {G G' : Vec → Prop} (h : ∀ g, G g ↔ G' g) (v : Vec) : Lat G v ↔ Lat G' v := lat_same (fun g hg => Lat.gen ((h g).mp hg)) (fun g hg => Lat.gen ((h g).mpr hg)) v
theorem piv_lat {B : Vec → Prop} {c n : Nat} {odds : List Int} (h1 : odds.length = n) {p row : List Int} {os rest : List (List Int)} (lp : p.length = n) (lr : row.length = n) (v : Vec) :
    Lat (gens B p (os ++ row :: rest) c n odds) v ↔ Lat (gens B (redF c odds (combF c p row).1) (os ++ [redF c odds (combF c p row).2] ++ rest) c n odds) v := by
  obtain ⟨l1, l2, _⟩ := comb_len (c := c) lp lr
  let R : Vec → Prop := fun g => B g ∨ (∃ r ∈ os ++ rest, g = vf r) ∨ ∃ j, c < j ∧ j < n ∧ g = unitV j (vf odds j)
  have hR : ∀ j, c < j → j < n → R (unitV j (vf odds j)) := fun j a b => .inr (.inr ⟨j, a, b, rfl⟩)
  have s1 : Lat (gens B p (os ++ row :: rest) c n odds) v ↔ Lat (two R p row) v := by
    refine lat_congr (fun g => ?_) v
    unfold gens two
    simp only [R, List.mem_append, List.mem_cons]
    constructor
    · rintro (h | h | ⟨r, (h | h | h), rfl⟩ | h)
      · exact .inr (.inr (.inl h))
      · exact .inl h
      · exact .inr (.inr (.inr (.inl ⟨r, .inl h, rfl⟩)))
      · subst h; exact .inr (.inl rfl)
      · exact .inr (.inr (.inr (.inl ⟨r, .inr h, rfl⟩)))
      · exact .inr (.inr (.inr (.inr h)))
    · rintro (h | h | h | ⟨r, (h | h), rfl⟩ | h)
      · exact .inr (.inl h)
      · exact .inr (.inr (.inl ⟨row, .inr (.inl rfl), h⟩))
      · exact .inl h
      · exact .inr (.inr (.inl ⟨r, .inl h, rfl⟩))
      · exact .inr (.inr (.inl ⟨r, .inr (.inr h), rfl⟩))
      · exact .inr (.inr (.inr h))
  have s2 := comb_lat (c := c) lp lr R v
  have s3 : Lat (two R (combF c p row).1 (combF c p row).2) v ↔ Lat (two R (redF c odds (combF c p row).1) (combF c p row).2) v :=
    lat_swap (R := fun g => g = vf (combF c p row).2 ∨ R g) (red_lat h1 l1 fun j a b => .inr (hR j a b)) v
  have s4 : Lat (two R (redF c odds (combF c p row).1) (combF c p row).2) v ↔ Lat (fun g => g = vf (redF c odds (combF c p row).2) ∨ g = vf (redF c odds (combF c p row).1) ∨ R g) v := by
    refine (lat_congr (G' := fun g => g = vf (combF c p row).2 ∨ g = vf (redF c odds (combF c p row).1) ∨ R g) (fun g => ?_) v).trans (lat_swap (R := fun g => g = vf (redF c odds (combF c p row).1) ∨ R g) (red_lat h1 l2 fun j a b => .inr (hR j a b)) v)
    unfold two
    constructor
    · rintro (h | h | h)
      · exact .inr (.inl h)
      · exact .inl h
      · exact .inr (.inr h)
    · rintro (h | h | h)
      · exact .inr (.inl h)
      · exact .inl h
      · exact .inr (.inr h)
  refine s1.trans (s2.trans (s3.trans (s4.trans (lat_congr (fun g => ?_) v))))
  unfold gens
  simp only [R, List.mem_append, List.mem_singleton]
  constructor
  · rintro (h | h | h | ⟨r, (h | h), rfl⟩ | h)
    · exact .inr (.inr (.inl ⟨_, .inl (.inr rfl), h⟩))
    · exact .inr (.inl h)
    · exact .inl h
    · exact .inr (.inr (.inl ⟨r, .inl (.inl h), rfl⟩))
    · exact .inr (.inr (.inl ⟨r, .inr h, rfl⟩))
    · exact .inr (.inr (.inr h))
  · rintro (h | h | ⟨r, ((h | h) | h), rfl⟩ | h)
    · exact .inr (.inr (.inl h))
    · exact .inr (.inl h)
    · exact .inr (.inr (.inr (.inl ⟨r, .inl h, rfl⟩)))
    · subst h; exact .inl rfl
    · exact .inr (.inr (.inr (.inl ⟨r, .inr h, rfl⟩)))
    · exact .inr (.inr (.inr (.inr h)))
/-- what a column leaves -/
theorem col_fold {B : Vec → Prop} {c n : Nat} {odds : List Int} (h1 : odds.length = n) (hc : c < n) (L : Vec → Prop) : ∀ (rows : List (List Int)) (p : List Int) (os : List (List Int)),
    (∀ r ∈ rows, r.length = n ∧ ∀ j, j < c → vf r j = 0) → p.length = n → (∀ j, j < c → vf p j = 0) → vf p c ≠ 0 → (∀ r ∈ os, r.length = n ∧ ∀ j, j ≤ c → vf r j = 0) → (∀ v, Lat (gens B p (os ++ rows) c n odds) v ↔ L v) →
    let q := rows.foldl (pivF c odds) (p, os)
    q.1.length = n ∧ (∀ j, j < c → vf q.1 j = 0) ∧ vf q.1 c ≠ 0 ∧ (∀ r ∈ q.2, r.length = n ∧ ∀ j, j ≤ c → vf r j = 0) ∧ (∀ v, Lat (gens B q.1 q.2 c n odds) v ↔ L v)
  | [], p, os, _, lp, zp, nz, zo, hl => ⟨lp, zp, nz, zo, fun v => by have := hl v; rwa [List.append_nil] at this⟩
  | row :: rows, p, os, hr, lp, zp, nz, zo, hl => by
    obtain ⟨lr, zr⟩ := hr row List.mem_cons_self
    obtain ⟨l1, l2, z2⟩ := comb_len (c := c) lp lr
    refine col_fold h1 hc L rows (redF c odds (combF c p row).1) (os ++ [redF c odds (combF c p row).2]) (fun r h => hr r (List.mem_cons_of_mem _ h)) (red_len h1 l1) (fun j hj => ?_) ?_ (fun r h => ?_) (fun v => (piv_lat h1 lp lr v).symm.trans (hl v))
    · rw [red_vf h1 l1, if_neg (by omega)]
      exact (comb_zero lp lr (zp j hj) (zr j hj)).1
    · rw [red_vf h1 l1, if_neg (by omega)]
      exact comb_nz lp lr nz
    · rcases List.mem_append.mp h with h | h
      · exact zo r h
      · rw [List.mem_singleton.mp h]
        refine ⟨red_len h1 l2, fun j hj => ?_⟩
        rw [red_vf h1 l2, if_neg (by omega)]
        by_cases e : j = c
        · rw [e]; exact z2
        · exact (comb_zero lp lr (zp j (by omega)) (zr j (by omega))).2

/-- the pivot with a positive entry -/
def posF (c : Nat) (p : List Int) : List Int := if 0 < vf p c then p else p.map fun x => -x
theorem neg_vf (p : List Int) : vf (p.map fun x => -x) = fun i => - vf p i := by
  funext i
  by_cases hi : i < p.length
  · have e : p[i]? = some p[i] := List.getElem?_eq_getElem hi
    rw [vf_at e]
    exact vf_at (by rw [List.getElem?_map, e]; rfl)
  · rw [vf_ge (by simp; omega), vf_ge (by omega)]
    rfl
theorem pos_len (c : Nat) (p : List Int) : (posF c p).length = p.length := by
  unfold posF
  split <;> simp
theorem pos_pos {c : Nat} {p : List Int} (h : vf p c ≠ 0) : 0 < vf (posF c p) c := by
  unfold posF
  split
  · assumption
  · rw [neg_vf]
    show 0 < - vf p c
    omega
theorem pos_zero {c j : Nat} {p : List Int} (h : vf p j = 0) : vf (posF c p) j = 0 := by
  unfold posF
  split
  · exact h
  · rw [neg_vf]
    show - vf p j = 0
    omega
theorem pos_lat {R : Vec → Prop} (c : Nat) (p : List Int) (v : Vec) : Lat (fun g => g = vf p ∨ R g) v ↔ Lat (fun g => g = vf (posF c p) ∨ R g) v := by
  unfold posF
  split
  · exact Iff.rfl
  · rw [neg_vf]
    refine lat_same (fun g hg => ?_) (fun g hg => ?_) v
    · rcases hg with rfl | hg
      · exact ((Lat.gen (G := fun g => g = (fun i => - vf p i) ∨ R g) (.inl rfl)).mul (-1)).of_eq fun i => by grind
      · exact Lat.gen (.inr hg)
    · rcases hg with rfl | hg
      · exact ((Lat.gen (G := fun g => g = vf p ∨ R g) (.inl rfl)).mul (-1)).of_eq fun i => by grind
      · exact Lat.gen (.inr hg)
/-- one column more -/
def nextF (odds : List Int) (st : List (List Int) × List (List Int)) (c : Nat) : List (List Int) × List (List Int) := (st.1 ++ [posF c (colF odds c st.2).1], (colF odds c st.2).2)
def basisF (odds : List Int) (rows : List (List Int)) : List (List Int) := ((List.range odds.length).foldl (nextF odds) ([], rows)).1
/-- the i-th row begins at i, with a positive entry -/
def Tri (n : Nat) (B : List (List Int)) : Prop := ∀ i (r : List Int), B[i]? = some r → r.length = n ∧ (∀ j, j < i → vf r j = 0) ∧ 0 < vf r i
def rowsG (B : List (List Int)) : Vec → Prop := fun g => ∃ r ∈ B, g = vf r
/-- free shifts: of rows and units -/
def shG (rows : List (List Int)) (c n : Nat) (odds : List Int) : Vec → Prop := fun g => (∃ r ∈ rows, g = vf r) ∨ ∃ j, c ≤ j ∧ j < n ∧ g = unitV j (vf odds j)
theorem next_inv {n : Nat} {odds : List Int} (h1 : odds.length = n) (ho : ∀ i, i < n → vf odds i ≠ 0) (L : Vec → Prop) {c : Nat} (hc : c < n) {B rows : List (List Int)} (lB : B.length = c) (tri : Tri n B) (hr : ∀ r ∈ rows, r.length = n ∧ ∀ j, j < c → vf r j = 0)
    (hl : ∀ v, Lat (fun g => rowsG B g ∨ shG rows c n odds g) v ↔ L v) :
    let q := nextF odds (B, rows) c
    q.1.length = c + 1 ∧ Tri n q.1 ∧ (∀ r ∈ q.2, r.length = n ∧ ∀ j, j < c + 1 → vf r j = 0) ∧ (∀ v, Lat (fun g => rowsG q.1 g ∨ shG q.2 (c + 1) n odds g) v ↔ L v) := by
  have lu : (unitL odds.length c (vf odds c)).length = n := by simp [unitL, h1]
  have uv : vf (unitL odds.length c (vf odds c)) = unitV c (vf odds c) := unitL_vf (by omega)
  have key := col_fold (B := rowsG B) h1 hc L rows (unitL odds.length c (vf odds c)) [] hr lu (fun j hj => by rw [uv]; unfold unitV; rw [if_neg (by omega)]) (by rw [uv]; unfold unitV; rw [if_pos rfl]; exact ho c hc) (by simp) (fun v => by
    refine (lat_congr (fun g => ?_) v).trans (hl v)
    unfold gens shG
    rw [uv, List.nil_append]
    constructor
    · rintro (h | h | h | ⟨j, a, b, rfl⟩)
      · exact .inl h
      · exact .inr (.inr ⟨c, Nat.le_refl _, hc, h⟩)
      · exact .inr (.inl h)
      · exact .inr (.inr ⟨j, by omega, b, rfl⟩)
    · rintro (h | h | ⟨j, a, b, rfl⟩)
      · exact .inl h
      · exact .inr (.inr (.inl h))
      · by_cases e : j = c
        · subst e; exact .inr (.inl rfl)
        · exact .inr (.inr (.inr ⟨j, by omega, b, rfl⟩)))
  obtain ⟨k1, k2, k3, k4, k5⟩ := key
  show (B ++ [posF c (colF odds c rows).1]).length = c + 1 ∧ Tri n (B ++ [posF c (colF odds c rows).1]) ∧ (∀ r ∈ (colF odds c rows).2, r.length = n ∧ ∀ j, j < c + 1 → vf r j = 0) ∧ (∀ v, Lat (fun g => rowsG (B ++ [posF c (colF odds c rows).1]) g ∨ shG (colF odds c rows).2 (c + 1) n odds g) v ↔ L v)
  refine ⟨by rw [List.length_append, lB]; rfl, fun i r hi => ?_, fun r hr => ⟨(k4 r hr).1, fun j hj => (k4 r hr).2 j (by omega)⟩, fun v => ?_⟩
  · by_cases hlt : i < c
    · rw [List.getElem?_append_left (by omega)] at hi
      exact tri i r hi
    · rw [List.getElem?_append_right (by omega), lB] at hi
      have : i - c = 0 := by
        rcases Nat.eq_zero_or_pos (i - c) with z | z
        · exact z
        · rw [List.getElem?_eq_none (by simp; omega)] at hi
          cases hi
      rw [this] at hi
      obtain rfl : posF c (colF odds c rows).1 = r := by simpa using hi
      have : i = c := by omega
      subst this
      exact ⟨by rw [pos_len]; exact k1, fun j hj => pos_zero (k2 j hj), pos_pos k3⟩
  · refine Iff.trans ?_ (k5 v)
    refine Iff.trans (lat_congr (G' := fun g => g = vf (posF c (colF odds c rows).1) ∨ (rowsG B g ∨ shG (colF odds c rows).2 (c + 1) n odds g)) (fun g => ?_) v) ((pos_lat c _ v).symm.trans (lat_congr (fun g => ?_) v))
    · unfold rowsG
      simp only [List.mem_append, List.mem_singleton]
      constructor
      · rintro (⟨r, (h | h), rfl⟩ | h)
        · exact .inr (.inl ⟨r, h, rfl⟩)
        · subst h; exact .inl rfl
        · exact .inr (.inr h)
      · rintro (h | ⟨r, h, rfl⟩ | h)
        · exact .inl ⟨_, .inr rfl, h⟩
        · exact .inl ⟨r, .inl h, rfl⟩
        · exact .inr h
    · unfold gens shG colF
      constructor
      · rintro (h | h | h | ⟨j, a, b, rfl⟩)
        · exact .inr (.inl h)
        · exact .inl h
        · exact .inr (.inr (.inl h))
        · exact .inr (.inr (.inr ⟨j, by omega, b, rfl⟩))
      · rintro (h | h | h | ⟨j, a, b, rfl⟩)
        · exact .inr (.inl h)
        · exact .inl h
        · exact .inr (.inr (.inl h))
        · exact .inr (.inr (.inr ⟨j, by omega, b, rfl⟩))
theorem fold_inv {n : Nat} {odds : List Int} (h1 : odds.length = n) (ho : ∀ i, i < n → vf odds i ≠ 0) {rows : List (List Int)} (hr : ∀ r ∈ rows, r.length = n) : ∀ c, c ≤ n →
    let q := (List.range c).foldl (nextF odds) ([], rows)
    q.1.length = c ∧ Tri n q.1 ∧ (∀ r ∈ q.2, r.length = n ∧ ∀ j, j < c → vf r j = 0) ∧ (∀ v, Lat (fun g => rowsG q.1 g ∨ shG q.2 c n odds g) v ↔ Lat (shG rows 0 n odds) v)
  | 0, _ => ⟨rfl, fun i r h => by simp at h, fun r h => ⟨hr r h, fun j hj => absurd hj (by omega)⟩, fun v => lat_congr (fun g => ⟨fun h => h.elim (fun ⟨r, z, _⟩ => nomatch z) id, .inr⟩) v⟩
  | c + 1, hc => by
    obtain ⟨a1, a2, a3, a4⟩ := fold_inv h1 ho hr c (by omega)
    rw [List.range_succ, List.foldl_append]
    exact next_inv h1 ho _ (by omega) a1 a2 a3 a4
/-- the basis: triangular, and of the same lattice -/
theorem basis_ok {n : Nat} {odds : List Int} (h1 : odds.length = n) (ho : ∀ i, i < n → vf odds i ≠ 0) {rows : List (List Int)} (hr : ∀ r ∈ rows, r.length = n) :
    (basisF odds rows).length = n ∧ Tri n (basisF odds rows) ∧ ∀ v, Lat (rowsG (basisF odds rows)) v ↔ Lat (shG rows 0 n odds) v := by
  obtain ⟨a1, a2, a3, a4⟩ := fold_inv h1 ho hr n (Nat.le_refl _)
  unfold basisF
  rw [h1]
  refine ⟨a1, a2, fun v => Iff.trans ?_ (a4 v)⟩
  refine lat_same (fun g hg => Lat.gen (.inl hg)) (fun g hg => ?_) v
  rcases hg with hg | ⟨r, hr2, rfl⟩ | ⟨j, b, c, _⟩
  · exact Lat.gen hg
  · refine Lat.zero.of_eq fun i => ?_
    by_cases hi : i < n
    · exact ((a3 r hr2).2 i hi).symm
    · exact (vf_ge (by rw [(a3 r hr2).1]; omega)).symm
  · omega
/-! ### what a triangular basis tells -/
/-- rows from i on -/
theorem tri_step {n i : Nat} {B : List (List Int)} {b : List Int} (tri : Tri n B) (hb : B[i]? = some b) {v : Vec} (h : Lat (rowsG (B.drop i)) v) : vf b i ∣ v i ∧ Lat (rowsG (B.drop (i + 1))) (fun j => v j - v i / vf b i * vf b j) := by
  obtain ⟨lb, zb, pb⟩ := tri i b hb
  have hd : B.drop i = b :: B.drop (i + 1) := by
    obtain ⟨hi, e⟩ := List.getElem?_eq_some_iff.mp hb
    rw [List.drop_eq_getElem_cons hi, e]
  rw [hd] at h
  induction h with
  | zero => exact ⟨Int.dvd_zero _, Lat.zero.of_eq fun j => by simp⟩
  | @step u g k hu hg ih =>
    obtain ⟨ih1, ih2⟩ := ih
    obtain ⟨r, hr, rfl⟩ := hg
    rcases List.mem_cons.mp hr with rfl | hr
    · refine ⟨Int.dvd_sub ih1 (Int.dvd_mul_left _ _), ih2.of_eq fun j => ?_⟩
      have e : (u i - k * vf r i) / vf r i = u i / vf r i - k := by
        rw [Int.sub_ediv_of_dvd _ (Int.dvd_mul_left _ _), Int.mul_ediv_cancel _ (by omega)]
      rw [e]
      grind
    · obtain ⟨m, hm⟩ := List.getElem?_of_mem hr
      rw [List.getElem?_drop] at hm
      have z := (tri _ r hm).2.1 i (by omega)
      dsimp only
      rw [z]
      refine ⟨by simpa using ih1, (ih2.comb (Lat.gen ⟨r, hr, rfl⟩) k).of_eq fun j => ?_⟩
      have e : u i - k * 0 = u i := by simp
      rw [e]
      grind
/-- a vector of the lattice that begins at i -/
theorem tri_from {n : Nat} {B : List (List Int)} (tri : Tri n B) {v : Vec} (h : Lat (rowsG B) v) : ∀ i, i ≤ B.length → (∀ j, j < i → v j = 0) → Lat (rowsG (B.drop i)) v
  | 0, _, _ => by rwa [List.drop_zero]
  | i + 1, hi, hz => by
    have hb : B[i]? = some (B[i]'(by omega)) := List.getElem?_eq_getElem (by omega)
    obtain ⟨_, g⟩ := tri_step tri hb (tri_from tri h i (by omega) fun j hj => hz j (by omega))
    refine g.of_eq fun j => ?_
    rw [hz i (by omega)]
    simp
theorem lat_drop {B : List (List Int)} {i : Nat} {v : Vec} (h : Lat (rowsG (B.drop i)) v) : Lat (rowsG B) v := h.le fun g ⟨r, hr, e⟩ => Lat.gen ⟨r, List.mem_of_mem_drop hr, e⟩
/-- is_free, from i on -/
def freeF : Nat → List (List Int) → List Int → Bool
  | _, [], _ => true
  | i, b :: B, v => if vf v i % vf b i ≠ 0 then false else freeF (i + 1) B (axpy (vf v i / vf b i) v b)
theorem free_ok {n : Nat} {B : List (List Int)} (lB : B.length = n) (tri : Tri n B) : ∀ (k i : Nat) (v : List Int), i + k = n → v.length = n → (∀ j, j < i → vf v j = 0) → (freeF i (B.drop i) v = true ↔ Lat (rowsG (B.drop i)) (vf v))
  | 0, i, v, hk, lv, hz => by
    have : B.drop i = [] := List.drop_eq_nil_of_le (by omega)
    rw [this]
    refine ⟨fun _ => Lat.zero.of_eq fun j => ?_, fun _ => rfl⟩
    by_cases hj : j < i
    · exact (hz j hj).symm
    · exact (vf_ge (by omega)).symm
  | k + 1, i, v, hk, lv, hz => by
    have hb : B[i]? = some (B[i]'(by omega)) := List.getElem?_eq_getElem (by omega)
    have hd : B.drop i = B[i]'(by omega) :: B.drop (i + 1) := List.drop_eq_getElem_cons (by omega)
    generalize B[i]'(by omega) = b at hb hd
    obtain ⟨l1, z1, p1⟩ := tri i b hb
    have la : (axpy (vf v i / vf b i) v b).length = n := by rw [axpy_len (by omega), l1]
    have va := axpy_vf (k := vf v i / vf b i) (a := v) (b := b) (by omega)
    constructor
    · intro h
      rw [hd] at h
      unfold freeF at h
      by_cases hm : vf v i % vf b i ≠ 0
      · rw [if_pos hm] at h
        cases h
      · rw [if_neg hm] at h
        have hm2 : vf v i % vf b i = 0 := Decidable.byContradiction hm
        have ih := (free_ok lB tri k (i + 1) _ (by omega) la (fun j hj => by
          rw [va]
          by_cases e : j = i
          · subst e
            show vf v j - vf v j / vf b j * vf b j = 0
            have := Int.mul_ediv_add_emod (vf v j) (vf b j)
            grind
          · show vf v j - vf v i / vf b i * vf b j = 0
            rw [hz j (by omega), z1 j (by omega)]
            simp)).mp h
        rw [va] at ih
        rw [hd]
        refine ((ih.le fun g ⟨r, hr, e⟩ => Lat.gen ⟨r, List.mem_cons_of_mem _ hr, e⟩).comb (Lat.gen (G := rowsG (b :: B.drop (i + 1))) ⟨b, List.mem_cons_self, rfl⟩) (-(vf v i / vf b i))).of_eq fun j => ?_
        grind
    · intro h
      obtain ⟨d1, d2⟩ := tri_step tri hb h
      have hm2 : vf v i % vf b i = 0 := Int.emod_eq_zero_of_dvd d1
      rw [hd]
      unfold freeF
      rw [if_neg (by simpa using hm2)]
      refine (free_ok lB tri k (i + 1) _ (by omega) la (fun j hj => ?_)).mpr ?_
      · rw [va]
        by_cases e : j = i
        · subst e
          show vf v j - vf v j / vf b j * vf b j = 0
          have := Int.mul_ediv_add_emod (vf v j) (vf b j)
          grind
        · show vf v j - vf v i / vf b i * vf b j = 0
          rw [hz j (by omega), z1 j (by omega)]
          simp
      · rw [va]
        exact d2
theorem free_iff {n : Nat} {B : List (List Int)} (lB : B.length = n) (tri : Tri n B) {v : List Int} (lv : v.length = n) : freeF 0 B v = true ↔ Lat (rowsG B) (vf v) := by
  have := free_ok lB tri n 0 v (by omega) lv (fun j hj => absurd hj (by omega))
  rwa [List.drop_zero] at this

/-! ### two lattices, one in the other -/
def diagP : Nat → List (List Int) → Int
  | _, [] => 1
  | i, b :: B => vf b i * diagP (i + 1) B
theorem diag_pos {n : Nat} {B : List (List Int)} (tri : Tri n B) : ∀ (k i : Nat), i + k = B.length → 0 < diagP i (B.drop i)
  | 0, i, h => by
    rw [List.drop_eq_nil_of_le (by omega)]
    exact Int.zero_lt_one
  | k + 1, i, h => by
    rw [List.drop_eq_getElem_cons (by omega)]
    exact Int.mul_pos (tri i _ (List.getElem?_eq_getElem (by omega))).2.2 (diag_pos tri k (i + 1) (by omega))
theorem diag_each {n : Nat} {B C : List (List Int)} (lB : B.length = n) (lC : C.length = n) (tB : Tri n B) (tC : Tri n C) (h : ∀ v, Lat (rowsG B) v → Lat (rowsG C) v) {i : Nat} {b c : List Int} (hb : B[i]? = some b) (hc : C[i]? = some c) : vf c i ∣ vf b i := by
  obtain ⟨hi, _⟩ := List.getElem?_eq_some_iff.mp hb
  have g1 : Lat (rowsG C) (vf b) := h _ (Lat.gen ⟨b, List.mem_of_getElem? hb, rfl⟩)
  exact (tri_step tC hc (tri_from tC g1 i (by omega) (tB i b hb).2.1)).1
theorem diag_dvd {n : Nat} {B C : List (List Int)} (lB : B.length = n) (lC : C.length = n) (tB : Tri n B) (tC : Tri n C) (h : ∀ v, Lat (rowsG B) v → Lat (rowsG C) v) : ∀ (k i : Nat), i + k = n → diagP i (C.drop i) ∣ diagP i (B.drop i)
  | 0, i, hk => by
    rw [List.drop_eq_nil_of_le (by omega), List.drop_eq_nil_of_le (by omega)]
    exact Int.dvd_refl _
  | k + 1, i, hk => by
    rw [List.drop_eq_getElem_cons (l := B) (by omega), List.drop_eq_getElem_cons (l := C) (by omega)]
    exact Int.mul_dvd_mul (diag_each lB lC tB tC h (List.getElem?_eq_getElem (by omega)) (List.getElem?_eq_getElem (by omega))) (diag_dvd lB lC tB tC h k (i + 1) (by omega))
theorem eq_of_prods {a b c d : Int} (h1 : 0 < a) (h2 : 0 < b) (h3 : 0 < c) (h4 : 0 < d) (x : c ∣ a) (y : d ∣ b) (e : a * b = c * d) : a = c ∧ b = d := by
  have x1 := Int.le_of_dvd h1 x
  have y1 := Int.le_of_dvd h2 y
  have e1 : c * d ≤ a * d := Int.mul_le_mul_of_nonneg_right x1 (by omega)
  have e2 : a * d ≤ a * b := Int.mul_le_mul_of_nonneg_left y1 (by omega)
  have e3 : a * d = a * b := by omega
  have e4 : c * d = a * d := by omega
  exact ⟨(Int.eq_of_mul_eq_mul_right (by omega) e4).symm, (Int.eq_of_mul_eq_mul_left (by omega) e3).symm⟩
theorem diag_same {n : Nat} {B C : List (List Int)} (lB : B.length = n) (lC : C.length = n) (tB : Tri n B) (tC : Tri n C) (h : ∀ v, Lat (rowsG B) v → Lat (rowsG C) v) : ∀ (k i : Nat), i + k = n → diagP i (B.drop i) = diagP i (C.drop i) → ∀ (m : Nat) (b c : List Int), i ≤ m → B[m]? = some b → C[m]? = some c → vf b m = vf c m
  | 0, i, hk, _ => fun m b c hm hb _ => by
    obtain ⟨hi, _⟩ := List.getElem?_eq_some_iff.mp hb
    omega
  | k + 1, i, hk, e => fun m b c hm hb hc => by
    have dB := diag_pos tB k (i + 1) (by omega)
    have dC := diag_pos tC k (i + 1) (by omega)
    rw [List.drop_eq_getElem_cons (l := B) (by omega), List.drop_eq_getElem_cons (l := C) (by omega)] at e
    have hb0 : B[i]? = some (B[i]'(by omega)) := List.getElem?_eq_getElem (by omega)
    have hc0 : C[i]? = some (C[i]'(by omega)) := List.getElem?_eq_getElem (by omega)
    obtain ⟨e1, e2⟩ := eq_of_prods (tB i _ hb0).2.2 dB (tC i _ hc0).2.2 dC (diag_each lB lC tB tC h hb0 hc0) (diag_dvd lB lC tB tC h k (i + 1) (by omega)) e
    by_cases z : m = i
    · subst z
      rw [hb] at hb0
      rw [hc] at hc0
      rw [Option.some.inj hb0, Option.some.inj hc0]
      exact e1
    · exact diag_same lB lC tB tC h k (i + 1) (by omega) e2 m b c (by omega) hb hc
/-- the same product: the same lattice -/
theorem lat_back {n : Nat} {B C : List (List Int)} (lB : B.length = n) (lC : C.length = n) (tB : Tri n B) (tC : Tri n C) (h : ∀ v, Lat (rowsG B) v → Lat (rowsG C) v) (e : diagP 0 B = diagP 0 C) : ∀ (k i : Nat) (v : Vec), i + k = n → (∀ j, j < i → v j = 0) → Lat (rowsG C) v → Lat (rowsG B) v
  | 0, i, v, hk, hz, hv => by
    have := tri_from tC hv i (by omega) hz
    rw [List.drop_eq_nil_of_le (by omega)] at this
    exact this.le fun g ⟨r, hr, _⟩ => nomatch hr
  | k + 1, i, v, hk, hz, hv => by
    have hb : B[i]? = some (B[i]'(by omega)) := List.getElem?_eq_getElem (by omega)
    have hc : C[i]? = some (C[i]'(by omega)) := List.getElem?_eq_getElem (by omega)
    generalize B[i]'(by omega) = b at hb
    generalize C[i]'(by omega) = c at hc
    have hd := (tri_step tC hc (tri_from tC hv i (by omega) hz)).1
    have eq : vf b i = vf c i := diag_same lB lC tB tC h n 0 (by omega) (by rw [List.drop_zero, List.drop_zero]; exact e) i b c (by omega) hb hc
    rw [← eq] at hd
    have gb : Lat (rowsG B) (vf b) := Lat.gen ⟨b, List.mem_of_getElem? hb, rfl⟩
    have ih := lat_back lB lC tB tC h e k (i + 1) (fun j => v j - v i / vf b i * vf b j) (by omega) (fun j hj => by
      by_cases z : j = i
      · subst z
        show v j - v j / vf b j * vf b j = 0
        rw [Int.ediv_mul_cancel hd]
        omega
      · show v j - v i / vf b i * vf b j = 0
        rw [hz j (by omega), (tB i b hb).2.1 j (by omega)]
        simp) (hv.comb (h _ gb) _)
    exact (ih.comb gb (-(v i / vf b i))).of_eq fun j => by grind
/-! ### coordinates -/
def comboV : List Int → List (List Int) → Vec
  | k :: ks, b :: B => fun j => k * vf b j + comboV ks B j
  | _, _ => fun _ => 0
theorem combo_lat : ∀ (ks : List Int) (B : List (List Int)), Lat (rowsG B) (comboV ks B)
  | [], _ => Lat.zero.of_eq fun _ => by cases ‹List (List Int)› <;> rfl
  | _ :: _, [] => Lat.zero
  | k :: ks, b :: B => (((combo_lat ks B).le fun g ⟨r, hr, e⟩ => Lat.gen ⟨r, List.mem_cons_of_mem _ hr, e⟩).comb (Lat.gen (G := rowsG (b :: B)) ⟨b, List.mem_cons_self, rfl⟩) (-k)).of_eq fun j => by
    show comboV ks B j - -k * vf b j = k * vf b j + comboV ks B j
    grind
def coordF : Nat → List (List Int) → List Int → List Int
  | _, [], _ => []
  | i, b :: B, v => vf v i / vf b i :: coordF (i + 1) B (axpy (vf v i / vf b i) v b)
theorem coord_len : ∀ (i : Nat) (B : List (List Int)) (v : List Int), (coordF i B v).length = B.length
  | _, [], _ => rfl
  | i, b :: B, v => by
    show (coordF (i + 1) B _).length + 1 = B.length + 1
    rw [coord_len]
theorem coord_ok {n : Nat} {B : List (List Int)} (lB : B.length = n) (tri : Tri n B) : ∀ (k i : Nat) (v : List Int), i + k = n → v.length = n → Lat (rowsG (B.drop i)) (vf v) → ∀ j, vf v j = comboV (coordF i (B.drop i) v) (B.drop i) j
  | 0, i, v, hk, lv, h => fun j => by
    rw [List.drop_eq_nil_of_le (by omega)] at h ⊢
    have : ∀ {u : Vec}, Lat (rowsG []) u → u j = 0 := fun hu => by
      induction hu with
      | zero => rfl
      | step k _ hg _ => exact (nomatch hg.choose_spec.1)
    exact this h
  | k + 1, i, v, hk, lv, h => fun j => by
    have hb : B[i]? = some (B[i]'(by omega)) := List.getElem?_eq_getElem (by omega)
    have hd : B.drop i = B[i]'(by omega) :: B.drop (i + 1) := List.drop_eq_getElem_cons (by omega)
    generalize B[i]'(by omega) = b at hb hd
    obtain ⟨l1, z1, p1⟩ := tri i b hb
    have va := axpy_vf (k := vf v i / vf b i) (a := v) (b := b) (by omega)
    have ih := coord_ok lB tri k (i + 1) (axpy (vf v i / vf b i) v b) (by omega) (by rw [axpy_len (by omega), l1]) (by rw [va]; exact (tri_step tri hb h).2) j
    rw [hd]
    show vf v j = vf v i / vf b i * vf b j + comboV (coordF (i + 1) (B.drop (i + 1)) (axpy (vf v i / vf b i) v b)) (B.drop (i + 1)) j
    rw [← ih, va]
    grind
/-- coordinates are unique -/
theorem combo_inj {n : Nat} {B : List (List Int)} (tri : Tri n B) : ∀ (m i : Nat) (ks ls : List Int), i + m = B.length → ks.length = m → ls.length = m → (∀ j, comboV ks (B.drop i) j = comboV ls (B.drop i) j) → ks = ls
  | 0, _, ks, ls, _, h1, h2, _ => by rw [List.length_eq_zero_iff.mp h1, List.length_eq_zero_iff.mp h2]
  | m + 1, i, k :: ks, l :: ls, hm, h1, h2, h => by
    have hb : B[i]? = some (B[i]'(by omega)) := List.getElem?_eq_getElem (by omega)
    have hd : B.drop i = B[i]'(by omega) :: B.drop (i + 1) := List.drop_eq_getElem_cons (by omega)
    generalize B[i]'(by omega) = b at hb hd
    obtain ⟨l1, z1, p1⟩ := tri i b hb
    rw [hd] at h
    have z : ∀ ks : List Int, comboV ks (B.drop (i + 1)) i = 0 := fun ks => by
      have : ∀ {u : Vec}, Lat (rowsG (B.drop (i + 1))) u → u i = 0 := fun hu => by
        induction hu with
        | zero => rfl
        | step k _ hg ih =>
          obtain ⟨r, hr, rfl⟩ := hg
          obtain ⟨q, hq⟩ := List.getElem?_of_mem hr
          rw [List.getElem?_drop] at hq
          show _ - k * vf r i = 0
          rw [ih, (tri _ r hq).2.1 i (by omega)]
          simp
      exact this (combo_lat ks _)
    have e := h i
    have e2 : k * vf b i + comboV ks (B.drop (i + 1)) i = l * vf b i + comboV ls (B.drop (i + 1)) i := e
    rw [z, z] at e2
    have kl : k = l := Int.eq_of_mul_eq_mul_right (a := vf b i) (by omega) (by omega)
    subst kl
    rw [combo_inj tri m (i + 1) ks ls (by omega) (Nat.succ.inj h1) (Nat.succ.inj h2) fun j => by
      have e3 : k * vf b j + comboV ks (B.drop (i + 1)) j = k * vf b j + comboV ls (B.drop (i + 1)) j := h j
      omega]
/-- multiples of units are in the lattice -/
theorem unit_in {n : Nat} {B : List (List Int)} (lB : B.length = n) (tri : Tri n B) : ∀ (k i : Nat), i + k = n → ∀ j, i ≤ j → j < n → Lat (rowsG (B.drop i)) (unitV j (diagP i (B.drop i)))
  | 0, i, hk => fun j h1 h2 => by omega
  | k + 1, i, hk => fun j h1 h2 => by
    have hb : B[i]? = some (B[i]'(by omega)) := List.getElem?_eq_getElem (by omega)
    have hd : B.drop i = B[i]'(by omega) :: B.drop (i + 1) := List.drop_eq_getElem_cons (by omega)
    generalize B[i]'(by omega) = b at hb hd
    obtain ⟨l1, z1, p1⟩ := tri i b hb
    have up : ∀ {u : Vec}, Lat (rowsG (B.drop (i + 1))) u → Lat (rowsG (b :: B.drop (i + 1))) u := fun hu => hu.le fun g ⟨r, hr, e⟩ => Lat.gen ⟨r, List.mem_cons_of_mem _ hr, e⟩
    have ih := unit_in lB tri k (i + 1) (by omega)
    rw [hd]
    show Lat (rowsG (b :: B.drop (i + 1))) (unitV j (vf b i * diagP (i + 1) (B.drop (i + 1))))
    by_cases e : j = i
    · subst e
      have hs : Lat (rowsG (b :: B.drop (j + 1))) (fun m => if j < m ∧ m < n then vf b m * diagP (j + 1) (B.drop (j + 1)) else 0) := by
        refine (up (Lat.le (G := fun g => ∃ m, j < m ∧ m < n ∧ g = unitV m (diagP (j + 1) (B.drop (j + 1)))) (fun g ⟨m, a, c, e⟩ => by rw [e]; exact ih m (by omega) c) (units_lat (c := j) (n := n) (o := fun _ => diagP (j + 1) (B.drop (j + 1))) (k := fun m => vf b m) (fun m a c => ⟨m, a, c, rfl⟩) n (Nat.le_refl _))))
      refine (((Lat.gen (G := rowsG (b :: B.drop (j + 1))) ⟨b, List.mem_cons_self, rfl⟩).mul (diagP (j + 1) (B.drop (j + 1)))).comb hs 1).of_eq fun m => ?_
      unfold unitV
      by_cases h3 : m = j
      · subst h3
        rw [if_pos rfl, if_neg (by omega)]
        grind
      · rw [if_neg h3]
        by_cases h4 : j < m ∧ m < n
        · rw [if_pos h4]
          grind
        · rw [if_neg h4]
          have : vf b m = 0 := by
            by_cases h5 : m < j
            · exact z1 m h5
            · exact vf_ge (by omega)
          rw [this]
          simp
    · refine ((up (ih j (by omega) h2)).mul (vf b i)).of_eq fun m => ?_
      unfold unitV
      split
      · rfl
      · simp

/-! ### sums, and what separates -/
def sumN : Nat → (Nat → Int) → Int
  | 0, _ => 0
  | n + 1, f => sumN n f + f n
theorem sumN_congr {f g : Nat → Int} : ∀ {n : Nat}, (∀ i, i < n → f i = g i) → sumN n f = sumN n g
  | 0, _ => rfl
  | n + 1, h => by
    show sumN n f + f n = sumN n g + g n
    rw [sumN_congr fun i hi => h i (by omega), h n (by omega)]
theorem sumN_add (f g : Nat → Int) : ∀ n, sumN n (fun i => f i + g i) = sumN n f + sumN n g
  | 0 => rfl
  | n + 1 => by
    show sumN n (fun i => f i + g i) + (f n + g n) = (sumN n f + f n) + (sumN n g + g n)
    rw [sumN_add f g n]
    omega
theorem sumN_mul (k : Int) (f : Nat → Int) : ∀ n, sumN n (fun i => k * f i) = k * sumN n f
  | 0 => by simp [sumN]
  | n + 1 => by
    show sumN n _ + _ = k * (sumN n f + f n)
    rw [sumN_mul k f n, Int.mul_add]
theorem sumN_zero : ∀ n, sumN n (fun _ => 0) = 0
  | 0 => rfl
  | n + 1 => by
    show sumN n _ + 0 = 0
    rw [sumN_zero n]
    rfl
theorem sumN_swap (f : Nat → Nat → Int) (m : Nat) : ∀ n, sumN n (fun i => sumN m fun k => f i k) = sumN m fun k => sumN n fun i => f i k
  | 0 => (sumN_zero m).symm
  | n + 1 => by
    show sumN n _ + sumN m _ = sumN m fun k => sumN n (fun i => f i k) + f n k
    rw [sumN_swap f m n, sumN_add]
theorem sumN_head (f : Nat → Int) : ∀ n, sumN (n + 1) f = f 0 + sumN n fun i => f (i + 1)
  | 0 => by simp [sumN]
  | n + 1 => by
    show sumN (n + 1) f + f (n + 1) = f 0 + (sumN n (fun i => f (i + 1)) + f (n + 1))
    rw [sumN_head f n]
    omega
theorem sumN_unit {n j : Nat} (f : Nat → Int) (h : j < n) : sumN n (fun k => f k * unitV k 1 j) = f j := by
  have key : ∀ m, sumN m (fun k => f k * unitV k 1 j) = if j < m then f j else 0 := by
    intro m
    induction m with
    | zero => rfl
    | succ m ih =>
      show sumN m _ + f m * unitV m 1 j = _
      rw [ih]
      unfold unitV
      by_cases e : j = m
      · subst e
        rw [if_neg (Nat.lt_irrefl _), if_pos rfl, if_pos (Nat.lt_succ_self _)]
        simp
      · rw [if_neg e]
        by_cases h2 : j < m
        · rw [if_pos h2, if_pos (by omega)]
          simp
        · rw [if_neg h2, if_neg (by omega)]
          simp
  rw [key n, if_pos h]
theorem dvd_sumN {d : Int} {f : Nat → Int} : ∀ {n : Nat}, (∀ i, i < n → d ∣ f i) → d ∣ sumN n f
  | 0, _ => Int.dvd_zero _
  | n + 1, h => Int.dvd_add (dvd_sumN fun i hi => h i (by omega)) (h n (by omega))
theorem combo_sum : ∀ (ks : List Int) (B : List (List Int)) (j : Nat), ks.length = B.length → comboV ks B j = sumN B.length fun i => vf ks i * vf (B.getD i []) j
  | [], [], _, _ => rfl
  | k :: ks, b :: B, j, h => by
    show k * vf b j + comboV ks B j = sumN (B.length + 1) _
    rw [sumN_head, combo_sum ks B j (Nat.succ.inj h)]
    rfl
theorem lat_sum {B : List (List Int)} (m : Nat → Int) : ∀ n, n ≤ B.length → Lat (rowsG B) (fun j => sumN n fun i => m i * vf (B.getD i []) j)
  | 0, _ => Lat.zero
  | n + 1, h => by
    have hb : B[n]? = some (B[n]'(by omega)) := List.getElem?_eq_getElem (by omega)
    have e : B.getD n [] = B[n]'(by omega) := by rw [List.getD_eq_getElem?_getD, hb]; rfl
    refine ((lat_sum m n (by omega)).comb (Lat.gen (G := rowsG B) ⟨B[n]'(by omega), List.getElem_mem _, rfl⟩) (-(m n))).of_eq fun j => ?_
    show _ = sumN n (fun i => m i * vf (B.getD i []) j) + m n * vf (B.getD n []) j
    rw [e]
    grind
/-- the coordinates of multiples of the units -/
def colsF (B : List (List Int)) (n k : Nat) : List Int := coordF 0 B (unitL n k (diagP 0 B))
/-- what is told of a vector at i -/
def tellF (B : List (List Int)) (n : Nat) (v : Vec) (i : Nat) : Int := sumN n fun k => v k * vf (colsF B n k) i
section
variable {n : Nat} {B : List (List Int)} (lB : B.length = n) (tri : Tri n B)
include lB tri
theorem cols_ok {k : Nat} (hk : k < n) (j : Nat) : unitV k (diagP 0 B) j = sumN n fun i => vf (colsF B n k) i * vf (B.getD i []) j := by
  have h1 := unit_in lB tri n 0 (by omega) k (by omega) hk
  rw [List.drop_zero] at h1
  have lu : (unitL n k (diagP 0 B)).length = n := by simp [unitL]
  have uv := unitL_vf (n := n) (x := diagP 0 B) hk
  have h2 := coord_ok lB tri n 0 (unitL n k (diagP 0 B)) (by omega) lu (by rw [List.drop_zero, uv]; exact h1) j
  rw [List.drop_zero, uv] at h2
  rw [h2, combo_sum _ _ _ (coord_len _ _ _), lB]
  rfl
theorem tell_combo {v : Vec} (hv : ∀ j, n ≤ j → v j = 0) (j : Nat) : diagP 0 B * v j = sumN n fun i => tellF B n v i * vf (B.getD i []) j := by
  have e1 : (sumN n fun i => tellF B n v i * vf (B.getD i []) j) = sumN n fun i => sumN n fun k => v k * (vf (colsF B n k) i * vf (B.getD i []) j) := sumN_congr fun i _ => by
    unfold tellF
    rw [Int.mul_comm, ← sumN_mul]
    exact sumN_congr fun k _ => by grind
  rw [e1, sumN_swap]
  have e2 : (sumN n fun k => sumN n fun i => v k * (vf (colsF B n k) i * vf (B.getD i []) j)) = sumN n fun k => (v k * diagP 0 B) * unitV k 1 j := sumN_congr fun k hk => by
    rw [sumN_mul, ← cols_ok lB tri hk j]
    unfold unitV
    split <;> simp
  rw [e2]
  by_cases hj : j < n
  · rw [sumN_unit (fun k => v k * diagP 0 B) hj, Int.mul_comm]
  · rw [hv j (by omega)]
    have : (sumN n fun k => (v k * diagP 0 B) * unitV k 1 j) = sumN n fun _ => 0 := sumN_congr fun k hk => by
      unfold unitV
      rw [if_neg (by omega)]
      simp
    rw [this, sumN_zero]
    simp
/-- all told 0: in the lattice -/
theorem tell_in {v : Vec} (hv : ∀ j, n ≤ j → v j = 0) (h : ∀ i, i < n → diagP 0 B ∣ tellF B n v i) : Lat (rowsG B) v := by
  have D0 : 0 < diagP 0 B := by
    have := diag_pos tri n 0 (by omega)
    rwa [List.drop_zero] at this
  refine (lat_sum (B := B) (fun i => tellF B n v i / diagP 0 B) n (by omega)).of_eq fun j => ?_
  refine Int.eq_of_mul_eq_mul_left (a := diagP 0 B) (by omega) ?_
  rw [tell_combo lB tri hv j, ← sumN_mul]
  refine sumN_congr fun i hi => ?_
  rw [← Int.mul_assoc, Int.mul_ediv_cancel' (h i hi)]
theorem tell_of {v : List Int} (lv : v.length = n) (h : Lat (rowsG B) (vf v)) {i : Nat} (hi : i < n) : diagP 0 B ∣ tellF B n (vf v) i := by
  have h2 := fun j => coord_ok lB tri n 0 v (by omega) lv (by rw [List.drop_zero]; exact h) j
  rw [List.drop_zero] at h2
  have lc : (coordF 0 B v).length = n := by rw [coord_len, lB]
  have key := combo_inj tri n 0 ((List.range n).map fun i => tellF B n (vf v) i) ((coordF 0 B v).map fun x => diagP 0 B * x) (by omega) (by simp) (by simp [lc]) (fun j => by
    rw [List.drop_zero, combo_sum _ _ _ (by simp [lB]), combo_sum _ _ _ (by rw [List.length_map, lc, lB]), lB]
    have e1 : (sumN n fun i => vf ((List.range n).map fun i => tellF B n (vf v) i) i * vf (B.getD i []) j) = diagP 0 B * vf v j := by
      rw [tell_combo lB tri (v := vf v) (fun j hj => vf_ge (by omega)) j]
      refine sumN_congr fun i hi => ?_
      rw [vf_at (v := (List.range n).map fun i => tellF B n (vf v) i) (x := tellF B n (vf v) i) (by rw [List.getElem?_map, List.getElem?_range hi]; rfl)]
    rw [e1, h2 j, combo_sum _ _ _ (by rw [lc, lB]), lB, ← sumN_mul]
    refine sumN_congr fun i hi => ?_
    have e3 : (coordF 0 B v)[i]? = some ((coordF 0 B v)[i]'(by omega)) := List.getElem?_eq_getElem (by omega)
    rw [vf_at e3, vf_at (v := (coordF 0 B v).map fun x => diagP 0 B * x) (by rw [List.getElem?_map, e3]; rfl), Int.mul_assoc])
  have e4 : ((List.range n).map fun i => tellF B n (vf v) i)[i]? = some (tellF B n (vf v) i) := by rw [List.getElem?_map, List.getElem?_range hi]; rfl
  rw [key, List.getElem?_map] at e4
  cases e5 : (coordF 0 B v)[i]? with
  | none => rw [e5] at e4; cases e4
  | some x =>
    rw [e5] at e4
    rw [← Option.some.inj e4]
    exact Int.dvd_mul_right _ _
end

def wsum (ws xs : List Int) : Int := (List.zipWith (fun w x => w * x) ws xs).sum

structure WitOk (ns : List Int) (m : Int) (ws : List Int) (r : Int) : Prop where
  m3 : 3 ≤ m
  odd : m % 2 = 1
  r0 : 0 ≤ r
  r1 : r < m
  len : ws.length = ns.length
  w0 : ∀ x ∈ ws, 0 ≤ x ∧ x < m
  fit : ∀ (i : Nat) (x n : Int), ws[i]? = some x → ns[i]? = some n → x * n % m = 0
theorem wsum_cons (w : Int) (ws : List Int) (x : Int) (xs : List Int) : wsum (w :: ws) (x :: xs) = w * x + wsum ws xs := by
  unfold wsum
  rw [List.zipWith_cons_cons, List.sum_cons]
theorem wsum_scale {g : Int} : ∀ {ws vs xs : List Int}, ws = vs.map (fun v => g * v) → wsum ws xs = g * wsum vs xs
  | _, [], xs, h => by
    subst h
    simp [wsum]
  | _, v :: vs, [], h => by
    subst h
    simp [wsum]
  | _, v :: vs, x :: xs, h => by
    subst h
    rw [List.map_cons, wsum_cons, wsum_cons, wsum_scale (vs := vs) (xs := xs) rfl]
    grind
theorem wsum_zero : ∀ {ws xs : List Int}, (∀ w ∈ ws, w = 0) → wsum ws xs = 0
  | [], _, _ => by simp [wsum]
  | _ :: _, [], _ => by simp [wsum]
  | w :: ws, x :: xs, h => by
    rw [wsum_cons, h w List.mem_cons_self, wsum_zero fun y hy => h y (List.mem_cons_of_mem _ hy)]
    simp
theorem wsum_unit : ∀ {ws : List Int} {n j : Nat} {x y : Int}, ws.length = n → j < n → ws[j]? = some x → wsum ws (unitL n j y) = x * y := by
  have key : ∀ (ws : List Int) (f : Nat → Int) , wsum ws ((List.range ws.length).map f) = sumN ws.length fun k => f k * vf ws k := by
    intro ws
    induction ws with
    | nil => intro f; rfl
    | cons w ws ih =>
      intro f
      rw [List.length_cons, List.range_succ_eq_map, List.map_cons, List.map_map, wsum_cons, sumN_head, ih (f ∘ Nat.succ)]
      show w * f 0 + _ = f 0 * w + _
      rw [Int.mul_comm w]
      rfl
  intro ws n j x y h hj hx
  subst h
  unfold unitL
  rw [key]
  have e : (sumN ws.length fun k => (if k = j then y else 0) * vf ws k) = sumN ws.length fun k => (y * vf ws k) * unitV k 1 j := sumN_congr fun k _ => by
    unfold unitV
    by_cases e : k = j
    · rw [if_pos e, if_pos e.symm, Int.mul_one]
    · rw [if_neg e, if_neg (fun z => e z.symm)]
      simp
  rw [e, sumN_unit (fun k => y * vf ws k) hj, vf_at hx, Int.mul_comm]
theorem wsum_shiftL {m f : Int} : ∀ {ws ns ps cs : List Int}, ws.length = ns.length → ps.length = ns.length → cs.length = ns.length → (∀ (i : Nat) (x n : Int), ws[i]? = some x → ns[i]? = some n → x * n % m = 0) → m ∣ wsum ws (shiftL ns ps cs f) - (wsum ws ps + f * wsum ws cs)
  | [], [], [], [], _, _, _, _ => by
    show m ∣ 0 - (0 + f * 0)
    simp
  | x :: ws, n :: ns, p :: ps, c :: cs, h1, h2, h3, hf => by
    have ih := wsum_shiftL (m := m) (f := f) (Nat.succ.inj h1) (Nat.succ.inj h2) (Nat.succ.inj h3) fun i x n hx hn => hf (i + 1) x n (by simpa using hx) (by simpa using hn)
    have f0 := Int.dvd_of_emod_eq_zero (hf 0 x n rfl rfl)
    show m ∣ wsum (x :: ws) ((p + f * c) % n :: shiftL ns ps cs f) - _
    rw [wsum_cons, wsum_cons, wsum_cons]
    have e := Int.mul_ediv_add_emod (p + f * c) n
    have d2 : m ∣ x * n * ((p + f * c) / n) := Int.dvd_mul_of_dvd_left f0
    have d3 := Int.dvd_sub ih d2
    refine (congrArg (m ∣ ·) ?_).mp d3
    grind

-- sorts
open PySem.W PySem.Calls in
theorem collect_tuple {prog : Program} {w : World} {A : Around} {E : Value → Shared → Prop} {s : Shared} {l : Addr} {vs : List Value} {Q : List Value → Shared → Prop} (hl : IsTup s.heap l vs.toArray)
    (h : Q vs { s with heap := (s.heap.push (seqObj "list" #[] 0)).update s.heap.objs.size (Obj.mapSeq (· ++ vs.toArray)) }) (hsz : vs.length ≤ sizeLine) :
    wpAny (model prog w) A (collect (.ref l)) Q E s := by
  obtain ⟨o, ho, hc, n, hd⟩ := id hl
  unfold collect
  refine wpAny_bind (wpAny_runValue (codeAny_builtin entry_proto_collect' ?_))
  show wpAny _ _ (do again (.builtin "list.__iadd__" ⟨[← newList [], .ref l], []⟩)) _ _ s
  refine wpAny_bind (wpAny_newList (wpAny_pure ⟨Code.quiet_builtin _ (by decide +kernel), codeAny_builtin entry_list_iadd' ?_⟩))
  show wpAny _ _ (Builtin.List.listExtendWith (.ref s.heap.objs.size) (.ref l) (.ref s.heap.objs.size)) _ _ { s with heap := s.heap.push (seqObj "list" #[] 0) }
  unfold Builtin.List.listExtendWith
  have ho' : (s.heap.push (seqObj "list" #[] 0)).get? l = some o := Heap.get?_push_of_some _ ho
  refine wpAny_bind (wpAny_typeOf (T := "tuple") ⟨o, ho', hc⟩ ?_)
  have ht : (Value.type "tuple" == Value.type "tuple") = true := by rfl
  rw [if_pos (by rw [ht]; simp)]
  refine wpAny_bind (listItems_at ho' hd ?_)
  refine wpAny_bind (listItems_at (xs := #[]) (n := 0) (Heap.get?_push_size _ rfl) rfl ?_)
  rw [if_neg (by simp)]
  refine wpAny_bind (listUpdate_at (xs := #[]) (n := 0) (Heap.get?_push_size _ rfl) rfl ?_ (Nat.zero_le _) (by show (#[] ++ vs.toArray).size ≤ sizeLine + 1; simp only [Array.size_append, List.size_toArray, List.length_nil]; omega))
  refine wpAny_pure ?_
  show wpAny (model prog w) A (do
      let o ← load s.heap.objs.size
      match o.data with
      | .seq xs _ => pure xs.toList
      | _ => unsupported "internal:collect") Q E { s with heap := (s.heap.push (seqObj "list" #[] 0)).update s.heap.objs.size (Obj.mapSeq (· ++ vs.toArray)) }
  refine wpAny_bind (wpAny_load (get?_update_seq (Heap.get?_push_size _ rfl) _) ?_)
  show wpAny _ _ (pure ((#[] : Array Value) ++ vs.toArray).toList) Q E _
  rw [show ((#[] : Array Value) ++ vs.toArray).toList = vs by simp]
  exact wpAny_pure h
open PySem.W PySem.Calls in
theorem sorted_of_tup {prog : Program} {w : World} {A : Around} {E : Value → Shared → Prop} {s : Shared} {l : Addr} {vs : List Value} {Q : Value → Shared → Prop} (hl : IsTup s.heap l vs.toArray) (hL : vs.length ≤ sizeLine)
    (body : ∀ E' : Value → Shared → Prop, wpAny (model prog w) A.in1.in1 (Builtin.«list.sort» ⟨[.ref (s.heap.objs.size + 1)], []⟩) (fun f s' => f = .done (.ret .none) ∧ Q (.ref (s.heap.objs.size + 1)) s') E' { s with heap := copyHeap s.heap vs }) :
    wpAny (model prog w) A (call (.builtin "sorted") [.ref l]) Q E s := by
  refine call_function_entry_kw kind_sorted plain_sorted entry_sorted (args_sorted1 _) ?_
  unfold Builtin.«sorted»
  refine wpAny_bind (m := checkCount "sorted" 1 1 _) (wpAny_pure ?_)
  refine wpAny_bind (collect_tuple hl ?_ hL)
  refine wpAny_bind (wpAny_newList ?_ hL)
  have hsz : ((s.heap.push (seqObj "list" #[] 0)).update s.heap.objs.size (Obj.mapSeq (· ++ vs.toArray))).objs.size = s.heap.objs.size + 1 := by
    rw [Heap.size_update, size_push']
  show wpAny _ _ _ _ _ { s with heap := copyHeap s.heap vs }
  rw [hsz]
  refine wpAny_bind (wpAny_holding (wpAny_call_entry_kw slot_list_sort ⟨_, copyHeap_at s.heap vs, rfl⟩ entry_list_sort ?body (args_list_sort _)))
  case body =>
    show wpAny (model prog w) A.in1.in1 (Builtin.«list.sort» ⟨[.ref (s.heap.objs.size + 1)], []⟩) _ _ _
    refine wpAny_mono (body _) (fun f s' hf => ?_) fun _ _ e => e
    obtain ⟨rfl, hq⟩ := hf
    exact ⟨_, rfl, wpAny_pure ⟨_, rfl, hq⟩⟩
open PySem.W PySem.Calls in
theorem sorted_data_t {prog : Program} {w : World} {A : Around} {E : Value → Shared → Prop} {s : Shared} {β : Type} {vs : List Value} {bs : List β} {enc : β → PyData} {R : Value → β → Prop} {l : Addr} {Q : Value → Shared → Prop} (hl : IsTup s.heap l vs.toArray) (e : EachIs R vs bs) (er : EachIs (fun v b => ∃ as, Reads s.heap v (enc b) as) vs bs) (hal : AllAlike (bs.map enc)) (hk : Sortable (bs.map enc)) (hL : bs.length ≤ sizeLine)
    (hu : ∀ b, b ∈ bs → A.units + 2 + (enc b).depth < cLine) (h : ∀ out, out.length = bs.length → EachIs R out (bs.mergeSort (dataLe false enc)) → Q (.ref (s.heap.objs.size + 1)) { s with heap := sortedAll s.heap vs (List.toArray out) }) :
    wpAny (model prog w) A (call (.builtin "sorted") [.ref l]) Q E s := by
  have er' : EachIs (fun v b => ∃ as, Reads (sortingHeap (copyHeap s.heap vs) (s.heap.objs.size + 1) vs) v (enc b) as) vs bs := er.mono fun _ _ ⟨as, r⟩ => ⟨as, PyProof.Rows.Reads.keeps (fun _ _ => sorting_copy_old) r⟩
  have hL' : vs.length ≤ sizeLine := by rw [e.length]; exact hL
  exact sorted_of_tup hl hL' fun _ => list_sort_vals (s := { s with heap := copyHeap s.heap vs }) (copyHeap_at s.heap vs) (SortsAt.data (s := { s with heap := sortingHeap (copyHeap s.heap vs) (s.heap.objs.size + 1) vs }) (each_map (R := fun v d => ∃ as, Reads (sortingHeap (copyHeap s.heap vs) (s.heap.objs.size + 1) vs) v d as) enc er') hal hk (bound_map hu)) hL' ⟨rfl, h _ (by rw [sortVals_length false rfl]; exact e.length) (sortVals_data false e er' hal)⟩
/-- the order of tuples of ints -/
def leT (a b : List Int) : Bool := PySem.W.dataLe false iT a b
/-- sorted(q), q a list or tuple of tuples of ints -/
def rSortQ (K : PySem.W.Frag) : List V → Hp → VK → Prop := fun vs H Q => ∃ (q : Bool × Addr) (xs : List V) (tss : List (List Int)), vs = [V.ref q.2] ∧ CZ.SqK K H q xs ∧ RowsR H xs tss ∧ (∀ ts ∈ tss, ts ≠ []) ∧
  ∀ (ys : List V) (p : Addr), RowsR H ys (tss.mergeSort leT) → H p = none → Q (.ref p) (upd H p (.lst ys))
open PySem.W in
theorem each_rows {H : Hp} : ∀ {xs : List V} {tss : List (List Int)} {us : List Value}, RowsR H xs tss → Vals xs us → EachIs (fun (u : Value) (ts : List Int) => ∃ t, u = Value.ref t ∧ H t = some (.tup (ts.map V.int))) us tss
  | _, _, _, .nil, .nil => .nil
  | _, _, _, .cons ⟨r, e, h⟩ t, .cons rv tv => by
    subst e
    cases rv
    exact .cons ⟨r, rfl, h⟩ (each_rows t tv)
open PySem.W in
theorem rows_each {H : Hp} : ∀ {us : List Value} {tss : List (List Int)}, EachIs (fun (u : Value) (ts : List Int) => ∃ t, u = Value.ref t ∧ H t = some (.tup (ts.map V.int))) us tss → ∃ ys, RowsR H ys tss ∧ Vals ys us
  | _, _, .nil => ⟨[], .nil, .nil⟩
  | _, _, .cons ⟨t, e, h⟩ r => by
    subst e
    obtain ⟨ys, h1, h2⟩ := rows_each r
    exact ⟨.ref t :: ys, .cons ⟨t, rfl, h⟩ h1, .cons rfl h2⟩
open PySem.W in
theorem each_dp {X : Cx} {pins : List (Addr × Obj)} {σ : L2.St} {H : Hp} {s : Shared} (I : Inv X pins σ H s) : ∀ {us : List Value} {tss : List (List Int)}, EachIs (fun (u : Value) (ts : List Int) => ∃ t, u = Value.ref t ∧ H t = some (.tup (ts.map V.int))) us tss → EachIs (fun v b => ∃ as, Reads s.heap v (iT b) as) us tss
  | _, _, .nil => .nil
  | _, _, .cons ⟨t, e, h⟩ r => by
    subst e
    exact .cons (Dp.reads I _ (.ref t) _ (dp_ints h) rfl) (each_dp I r)
theorem alike_iT (a b : List Int) : PySem.W.alike (iT a) (iT b) = true := by
  show PySem.W.alike (.tuple (a.map .int)) (.tuple (b.map .int)) = true
  rw [PySem.W.alike]
  exact PySem.W.alike_ints a b
theorem cr_sortQ {X : Cx} (hu : X.A.units + 65 < cLine) : CallR X (.builtin "sorted") (rSortQ X.K) := by
  intro pins s σ H vs us Q I r h
  obtain ⟨⟨b, a⟩, xs, tss, rfl, hs, rr, ne, q⟩ := h
  rw [Vals.ref1 r]
  have hk : PySem.W.Sortable (tss.map iT) := .inl fun d hd => by
    obtain ⟨ts, ht, rfl⟩ := List.mem_map.mp hd
    cases ts with
    | nil => exact absurd rfl (ne _ ht)
    | cons x l => exact ⟨_, _, rfl⟩
  have hU : ∀ ts, ts ∈ tss → X.A.units + 2 + (iT ts).depth < cLine := fun ts _ => by
    have e := PySem.W.depth_ints ts
    have : (iT ts).depth = 1 := by
      show PyData.depth (.tuple (ts.map .int)) = 1
      simp only [PyData.depth, e]
    omega
  have fin : ∀ its : List Value, Vals xs its → xs.length ≤ sizeLine → ∀ out, out.length = tss.length → PySem.W.EachIs (fun (u : Value) (ts : List Int) => ∃ t, u = Value.ref t ∧ H t = some (.tup (ts.map V.int))) out (tss.mergeSort (PySem.W.dataLe false iT)) → EP X pins σ Q (.ref (s.heap.objs.size + 1)) { s with heap := sortedAll s.heap its (List.toArray out) } := by
    intro its rv hz out lo eo
    obtain ⟨ys, h1, h2⟩ := rows_each eo
    obtain ⟨ep, he'⟩ := PyProof.Rows.sortedAll_at s.heap its (List.toArray out)
    have hlen : ys.length ≤ sizeLine := by
      rw [h2.length, lo, ← Paired.length rr]
      exact hz
    exact ⟨.ref _, upd H (s.heap.objs.size + 1) (.lst ys), I.laid (t' := s.toks) (fun _ _ => PyProof.Rows.sortedAll_old) (Nat.le_succ _) ⟨hlen, out, ep, h2, he'⟩, rfl, q ys _ h1 (I.hok.fresh (Nat.le_succ _))⟩
  have hal : PySem.W.AllAlike (tss.map iT) := PySem.W.AllAlike.of alike_iT
  cases b with
  | false =>
    obtain ⟨its, rv, hl, hz⟩ := I.list (show SqL X.K H a xs from hs)
    have e := each_rows rr rv
    exact PySem.W.sorted_data (enc := iT) hl.isList e (each_dp I e) hal hk (by rw [← Paired.length rr]; exact hz) hU (fin its rv hz)
  | true =>
    obtain ⟨its, rv, hl, hz⟩ := I.tuple (show SqT X.K H a xs from hs)
    have e := each_rows rr rv
    exact sorted_data_t (enc := iT) hl e (each_dp I e) hal hk (by rw [← Paired.length rr]; exact hz) hU (fin its rv hz)

section
variable {P : Program} {w : World} {K : PySem.W.Frag} {mg : Str → Option Value} {base : Heap}
def sp_weighted : Sp := fun vs H Q _ => ∃ (m : Int) (a b : Addr) (ws ps : List Int), vs = [.int m, .ref a, .ref b] ∧ 0 < m ∧ H a = some (.tup (ws.map V.int)) ∧ H b = some (.tup (ps.map V.int)) ∧ ws.length = ps.length ∧ ps.length ≤ 4 ∧ (∀ w ∈ ws, w.natAbs < 2 ^ 5000) ∧ (∀ p ∈ ps, p.natAbs < 2 ^ 5000) ∧ ∀ H2, Ex H H2 → Q (.int (wsum ws ps % m)) H2
theorem ok_weighted (T : TX K mg) : FnOk P w K mg base CX0 1 T.f_weighted T.fd_weighted ["modulus", "weights", "seat"] sp_weighted := by
  refine T.F_weighted.ok sc_weighted (fun vs H Q E h => ?_) (fun cdv A outer s H vs Q E hr h => ?_)
  · obtain ⟨m, a, b, ws, ps, rfl, _⟩ := h
    rfl
  · obtain ⟨m, a, b, ws, ps, rfl, m0, ha, hb, l, l4, bw, bp, k⟩ := h
    refine ⟨_, (pss_one (ps_ret (pe_op op_mod (pe_callB (cr_sum rfl) (by rfl) T.z_sum (by decide +kernel) (pa_cons (pe_lc (own := [("weight", 3), ("place", 4)]) (g := (gTup K 2 (gCons (gName 3) (gCons (gName 4) gNil)))) rfl sc_weighted.nd (CZ.pi_z2s (fl := [true, true]) rfl (by rfl) T.z_zip (pa_cons (pv 1) (pa_cons (pv 2) pa_nil))) (blkOk_by (N := N_weighted) (sc := defScope s_weighted) (by decide +kernel)) (fun _ _ _ _ _ => (pg_tup rfl (pgs_cons (pg_name (i := 3) sc_weighted.nd rfl (Or.inl rfl)) (pgs_cons (pg_name (i := 4) sc_weighted.nd rfl (Or.inl rfl)) pgs_nil)))) (fun _ _ _ _ _ => pts_nil) (fun _ _ _ _ _ => (pe_op op_mulI (pv 3) (pv 4)))) pa_nil)) (pv 0)))), ?_⟩
    refine ⟨_, rfl, _, rfl, [a, b], rfl, rfl, all2 (sqT ha) (sqT hb), fun D hD => ?_⟩
    refine lc_vals (CZ.walk_rows (xss := [ws.map V.int, ps.map V.int]) (n := ps.length) (lens2 (by rw [List.length_map, l]) (by rw [List.length_map]))) ((List.zipWith (fun w x => w * x) ws ps).map V.int) (by rw [List.length_map, List.length_zipWith, l, Nat.min_self]) (by omega) hD (fun H3 e => .cons (sqT (e _ _ ha)) (.cons (sqT (e _ _ hb)) .nil)) ?_ (gmono_tup (gmono_cons gmono_name (gmono_cons gmono_name gmono_nil))) ?_
    · intro j y H6 H7 R hj e yy kk
      obtain ⟨Tb, p, d, rfl, hTb, rfl, hp, hdd⟩ := yints2 yy
      refine ⟨Tb, _, rfl, SqT.of upd_same, rfl, _, _, rfl, _, _, rfl, rfl, ?_⟩
      refine ⟨rfl, _, rfl, _, rfl, _, _, rfl, rfl, (wide_mul (bw p (List.mem_of_getElem? hp)) (bp d (List.mem_of_getElem? hdd)) (by decide) (by decide) (by decide)).ok, ?_⟩
      refine kk _ _ (exn hTb) ?_
      rw [List.getElem?_map, List.getElem?_zipWith, hp, hdd]
      rfl
    · intro H3 e3 hD3
      exact ⟨D, _, rfl, SqL.of hD3, _, rfl, _, _, rfl, rfl, m0, k _ e3⟩
end

/-! ### comprehensions of new tuples -/
theorem paired_mono {α : Type} {P Q : V → α → Prop} (h : ∀ v a, P v a → Q v a) : ∀ {xs : List V} {as : List α}, Paired P xs as → Paired Q xs as
  | _, _, .nil => .nil
  | _, _, .cons q t => .cons (h _ _ q) (paired_mono h t)
theorem paired_snoc {α : Type} {P : V → α → Prop} {v : V} {a : α} (h : P v a) : ∀ {xs : List V} {as : List α}, Paired P xs as → Paired P (xs ++ [v]) (as ++ [a])
  | _, _, .nil => .cons h .nil
  | _, _, .cons q t => .cons q (paired_snoc h t)
theorem lc_new {α : Type} (Pd : Hp → V → α → Prop) (mono : ∀ (H H2 : Hp) (v : V) (a : α), (∀ c xs, H c = some (.tup xs) → H2 c = some (.tup xs)) → Pd H v a → Pd H2 v a)
    {J : It} {n : Nat} {G : Hp → Prop} {Y : Nat → Hp → V → Hp → Prop} (w : Walk J n G Y) {g : TG} {te : TE} {vs : List Nat} {σ : L2.St} {H1 : Hp} {D : Addr} {Qd : Hp → Prop} (as : List α) (hn : as.length = n) (hl : n ≤ 10000000) (hD : H1 D = none)
    (hG : ∀ H, Ex H1 H → G H)
    (hs : ∀ i x a H H2 (R : VK), as[i]? = some a → Ex H1 H → Y i H x H2 → (∀ v H5, Ex H H5 → Pd H5 v a → R v H5) → g x (wipe σ vs) H2 fun σ2 H3 => wipe σ2 vs = wipe σ vs ∧ te σ2 H3 R)
    (hg : ∀ x σ2 H2 (R R2 : L2.St → Hp → Prop), (∀ σ3 H3, R σ3 H3 → R2 σ3 H3) → g x σ2 H2 R → g x σ2 H2 R2)
    (hd : ∀ H xs, Ex H1 H → H D = some (.lst xs) → Paired (Pd H) xs as → Qd H) :
    ∃ W : Nat → Nat → Hp → Prop, (∃ m, W 0 m (upd H1 D (.lst []))) ∧ ∀ i m H, W i m H →
      (J.stop i H ∧ Qd H) ∨ (J.go i H ∧ ∃ Nx : Hp → Prop, (∀ H2, Nx H2 → ∃ m2, m2 < m ∧ W (i + 1) m2 H2) ∧ ∀ x H2, J.yld i H x H2 → g x (wipe σ vs) H2 fun σ2 H3 => wipe σ2 vs = wipe σ vs ∧ tYes σ2 H3 fun b H4 =>
        if b = true then te σ2 H4 fun y H5 => ∃ acc, H5 D = some (.lst acc) ∧ acc.length < sizeLine ∧ Nx (upd H5 D (.lst (acc ++ [y]))) else Nx H4) := by
  refine lc_it w (fun i H => Ex H1 H ∧ ∃ xs, H D = some (.lst xs) ∧ Paired (Pd H) xs (as.take i)) ⟨exn hD, [], upd_same, .nil⟩ (fun i H _ p => hG H p.1) (fun i x H H2 hi p y => ?_) (fun H p => ?_)
  · obtain ⟨a, ha⟩ : ∃ a, as[i]? = some a := ⟨_, List.getElem?_eq_getElem (by omega)⟩
    refine hg _ _ _ _ _ (fun σ3 H3 q => ⟨q.1, q.2⟩) (hs i x a H H2 (fun y H5 => ∃ acc, H5 D = some (.lst acc) ∧ acc.length < sizeLine ∧ Ex H1 (upd H5 D (.lst (acc ++ [y]))) ∧ ∃ xs, upd H5 D (.lst (acc ++ [y])) D = some (.lst xs) ∧ Paired (Pd (upd H5 D (.lst (acc ++ [y])))) xs (as.take (i + 1))) ha p.1 y fun v H5 e hv => ?_)
    obtain ⟨p1, xs, p2, p3⟩ := p
    have tp : ∀ c zs, H5 c = some (.tup zs) → upd H5 D (.lst (xs ++ [v])) c = some (.tup zs) := fun c zs z => by
      rw [upd_ne (ne_of z (e _ _ p2) (by intro q; cases q))]
      exact z
    refine ⟨xs, e _ _ p2, ?_, ex_upd (ext p1 e) hD, xs ++ [v], upd_same, ?_⟩
    · rw [Paired.length p3, List.length_take]
      exact Nat.lt_of_le_of_lt (Nat.le_trans (Nat.min_le_right _ _) (by rw [hn]; exact hl)) (by decide)
    · rw [take_more ha]
      refine paired_snoc (mono _ _ _ _ tp hv) (paired_mono (fun v a q => mono _ _ _ _ tp (mono _ _ _ _ (fun c zs z => e _ _ z) q)) p3)
  · obtain ⟨p1, xs, p2, p3⟩ := p
    rw [List.take_of_length_le (by omega)] at p3
    exact hd H xs p1 p2 p3
def PdRow (H : Hp) (x : V) (hs : List Int) : Prop := ∃ r, x = V.ref r ∧ H r = some (.tup (hs.map V.int))
theorem pdrow_mono (H H2 : Hp) (v : V) (a : List Int) (e : ∀ c xs, H c = some (.tup xs) → H2 c = some (.tup xs)) (h : PdRow H v a) : PdRow H2 v a := by
  obtain ⟨r, h1, h2⟩ := h
  exact ⟨r, h1, e _ _ h2⟩

/-- a comprehension of new objects with a test -/
theorem lc_newF {α : Type} (Pd : Hp → V → α → Prop) (mono : ∀ (H H2 : Hp) (v : V) (a : α), (∀ c xs, H c = some (.tup xs) → H2 c = some (.tup xs)) → Pd H v a → Pd H2 v a)
    {J : It} {n : Nat} {G : Hp → Prop} {Y : Nat → Hp → V → Hp → Prop} (w : Walk J n G Y) {g : TG} {tt : TT} {te : TE} {vs : List Nat} {σ : L2.St} {H1 : Hp} {D : Addr} {Qd : Hp → Prop} (as : List α) (c : α → Bool) (hn : as.length = n) (hl : n ≤ 10000000) (hD : H1 D = none)
    (hG : ∀ H, Ex H1 H → G H)
    (hs : ∀ i x a H H2 (R : VK) (S : Hp → Prop), as[i]? = some a → Ex H1 H → Y i H x H2 → (∀ v H5, Ex H H5 → c a = true → Pd H5 v a → R v H5) → (∀ H4, Ex H H4 → c a = false → S H4) → g x (wipe σ vs) H2 fun σ2 H3 => wipe σ2 vs = wipe σ vs ∧ tt σ2 H3 fun b H4 => if b = true then te σ2 H4 R else S H4)
    (hd : ∀ H xs, Ex H1 H → H D = some (.lst xs) → Paired (Pd H) xs (as.filter c) → Qd H) :
    ∃ W : Nat → Nat → Hp → Prop, (∃ m, W 0 m (upd H1 D (.lst []))) ∧ ∀ i m H, W i m H →
      (J.stop i H ∧ Qd H) ∨ (J.go i H ∧ ∃ Nx : Hp → Prop, (∀ H2, Nx H2 → ∃ m2, m2 < m ∧ W (i + 1) m2 H2) ∧ ∀ x H2, J.yld i H x H2 → g x (wipe σ vs) H2 fun σ2 H3 => wipe σ2 vs = wipe σ vs ∧ tt σ2 H3 fun b H4 =>
        if b = true then te σ2 H4 fun y H5 => ∃ acc, H5 D = some (.lst acc) ∧ acc.length < sizeLine ∧ Nx (upd H5 D (.lst (acc ++ [y]))) else Nx H4) := by
  refine lc_it w (fun i H => Ex H1 H ∧ ∃ xs, H D = some (.lst xs) ∧ Paired (Pd H) xs ((as.take i).filter c)) ⟨exn hD, [], upd_same, .nil⟩ (fun i H _ p => hG H p.1) (fun i x H H2 hi p y => ?_) (fun H p => ?_)
  · obtain ⟨a, ha⟩ : ∃ a, as[i]? = some a := ⟨as[i]'(by omega), List.getElem?_eq_getElem (by omega)⟩
    obtain ⟨p1, xs, p2, p3⟩ := p
    refine hs i x a H H2 _ (fun H3 => Ex H1 H3 ∧ ∃ xs, H3 D = some (.lst xs) ∧ Paired (Pd H3) xs ((as.take (i + 1)).filter c)) ha p1 y (fun v H5 e hc hv => ?_) (fun H4 e hc => ?_)
    · have tp : ∀ c zs, H5 c = some (.tup zs) → upd H5 D (.lst (xs ++ [v])) c = some (.tup zs) := fun c zs z => by
        rw [upd_ne (ne_of z (e _ _ p2) (by intro q; cases q))]
        exact z
      refine ⟨xs, e _ _ p2, ?_, ex_upd (ext p1 e) hD, xs ++ [v], upd_same, ?_⟩
      · rw [Paired.length p3]
        refine Nat.lt_of_le_of_lt (Nat.le_trans (List.length_filter_le _ _) ?_) (show 10000000 < sizeLine by decide)
        rw [List.length_take]
        omega
      · rw [take_more ha, List.filter_append, show [a].filter c = [a] by simp [hc]]
        exact paired_snoc (mono _ _ _ _ tp hv) (paired_mono (fun v a q => mono _ _ _ _ tp (mono _ _ _ _ (fun c zs z => e _ _ z) q)) p3)
    · refine ⟨ext p1 e, xs, e _ _ p2, ?_⟩
      rw [take_more ha, List.filter_append, show [a].filter c = [] by simp [hc], List.append_nil]
      exact paired_mono (fun v a q => mono _ _ _ _ (fun c zs z => e _ _ z) q) p3
  · obtain ⟨p1, xs, p2, p3⟩ := p
    rw [List.take_of_length_le (by omega)] at p3
    exact hd H xs p1 p2 p3
/-- .. of new objects of any kind, beside the list itself -/
theorem lc_newG {α : Type} {D : Addr} (Pd : Hp → V → α → Prop) (mono : ∀ (H H2 : Hp) (v : V) (a : α) (ys : List V), H D = some (.lst ys) → (∀ c o, c ≠ D → H c = some o → H2 c = some o) → Pd H v a → Pd H2 v a)
    {J : It} {n : Nat} {G : Hp → Prop} {Y : Nat → Hp → V → Hp → Prop} (w : Walk J n G Y) {g : TG} {tt : TT} {te : TE} {vs : List Nat} {σ : L2.St} {H1 : Hp} {Qd : Hp → Prop} (as : List α) (c : α → Bool) (hn : as.length = n) (hl : n ≤ 10000000) (hD : H1 D = none)
    (hG : ∀ H, Ex H1 H → G H)
    (hs : ∀ i x a H H2 (R : VK) (S : Hp → Prop), as[i]? = some a → Ex H1 H → (∃ ys, H D = some (.lst ys)) → Y i H x H2 → (∀ v H5, Ex H H5 → c a = true → Pd H5 v a → R v H5) → (∀ H4, Ex H H4 → c a = false → S H4) → g x (wipe σ vs) H2 fun σ2 H3 => wipe σ2 vs = wipe σ vs ∧ tt σ2 H3 fun b H4 => if b = true then te σ2 H4 R else S H4)
    (hd : ∀ H xs, Ex H1 H → H D = some (.lst xs) → Paired (Pd H) xs (as.filter c) → Qd H) :
    ∃ W : Nat → Nat → Hp → Prop, (∃ m, W 0 m (upd H1 D (.lst []))) ∧ ∀ i m H, W i m H →
      (J.stop i H ∧ Qd H) ∨ (J.go i H ∧ ∃ Nx : Hp → Prop, (∀ H2, Nx H2 → ∃ m2, m2 < m ∧ W (i + 1) m2 H2) ∧ ∀ x H2, J.yld i H x H2 → g x (wipe σ vs) H2 fun σ2 H3 => wipe σ2 vs = wipe σ vs ∧ tt σ2 H3 fun b H4 =>
        if b = true then te σ2 H4 fun y H5 => ∃ acc, H5 D = some (.lst acc) ∧ acc.length < sizeLine ∧ Nx (upd H5 D (.lst (acc ++ [y]))) else Nx H4) := by
  refine lc_it w (fun i H => Ex H1 H ∧ ∃ xs, H D = some (.lst xs) ∧ Paired (Pd H) xs ((as.take i).filter c)) ⟨exn hD, [], upd_same, .nil⟩ (fun i H _ p => hG H p.1) (fun i x H H2 hi p y => ?_) (fun H p => ?_)
  · obtain ⟨a, ha⟩ : ∃ a, as[i]? = some a := ⟨as[i]'(by omega), List.getElem?_eq_getElem (by omega)⟩
    obtain ⟨p1, xs, p2, p3⟩ := p
    refine hs i x a H H2 _ (fun H3 => Ex H1 H3 ∧ ∃ xs, H3 D = some (.lst xs) ∧ Paired (Pd H3) xs ((as.take (i + 1)).filter c)) ha p1 ⟨xs, p2⟩ y (fun v H5 e hc hv => ?_) (fun H4 e hc => ?_)
    · have tp : ∀ c o, c ≠ D → H5 c = some o → upd H5 D (.lst (xs ++ [v])) c = some o := fun c o n z => by
        rw [upd_ne n]
        exact z
      refine ⟨xs, e _ _ p2, ?_, ex_upd (ext p1 e) hD, xs ++ [v], upd_same, ?_⟩
      · rw [Paired.length p3]
        refine Nat.lt_of_le_of_lt (Nat.le_trans (List.length_filter_le _ _) ?_) (show 10000000 < sizeLine by decide)
        rw [List.length_take]
        omega
      · rw [take_more ha, List.filter_append, show [a].filter c = [a] by simp [hc]]
        exact paired_snoc (mono _ _ _ _ _ (e _ _ p2) tp hv) (paired_mono (fun v a q => mono _ _ _ _ _ (e _ _ p2) tp (mono _ _ _ _ _ p2 (fun c o _ z => e _ _ z) q)) p3)
    · refine ⟨ext p1 e, xs, e _ _ p2, ?_⟩
      rw [take_more ha, List.filter_append, show [a].filter c = [] by simp [hc], List.append_nil]
      exact paired_mono (fun v a q => mono _ _ _ _ _ p2 (fun c o _ z => e _ _ z) q) p3
  · obtain ⟨p1, xs, p2, p3⟩ := p
    rw [List.take_of_length_le (by omega)] at p3
    exact hd H xs p1 p2 p3
/-- a new list of tuples of ints -/
def PdRows (D : Addr) (H : Hp) (v : V) (row : List (List Int)) : Prop := ∃ a, v = V.ref a ∧ a ≠ D ∧ RowsAt H a row
theorem pdrows_mono {D : Addr} (H H2 : Hp) (v : V) (row : List (List Int)) (ys : List V) (hD : H D = some (.lst ys)) (e : ∀ c o, c ≠ D → H c = some o → H2 c = some o) (h : PdRows D H v row) : PdRows D H2 v row := by
  obtain ⟨a, h1, h2, xs, h3, h4⟩ := h
  exact ⟨a, h1, h2, xs, e _ _ h2 h3, paired_mono (fun v hs ⟨r, q1, q2⟩ => ⟨r, q1, e _ _ (ne_of q2 hD (by intro z; cases z)) q2⟩) h4⟩

/-- a witness stands at wt -/
def WitAt (H : Hp) (wt : Addr) (m : Int) (ws : List Int) (r : Int) : Prop := ∃ wa, H wt = some (.tup [.int m, .ref wa, .int r]) ∧ H wa = some (.tup (ws.map V.int))
theorem WitAt.mono {H H2 : Hp} {wt : Addr} {m r : Int} {ws : List Int} (e : Ex H H2) (h : WitAt H wt m ws r) : WitAt H2 wt m ws r := by
  obtain ⟨wa, h1, h2⟩ := h
  exact ⟨wa, e _ _ h1, e _ _ h2⟩
/-! ### any data, read from the heap; B says where its lists may lie -/
mutual
inductive Dq (B : Addr → Prop) (H : Hp) : V → PyData → Prop
  | non : Dq B H .non .none
  | bl (b : Bool) : Dq B H (.bl b) (.bool b)
  | int (i : Int) : Dq B H (.int i) (.int i)
  | str (x : Str) : Dq B H (.str x) (.str x)
  | lst {a : Addr} {xs : List V} {ds : List PyData} : H a = some (.lst xs) → B a → DqAll B H xs ds → Dq B H (.ref a) (.list ds)
  | tup {a : Addr} {xs : List V} {ds : List PyData} : H a = some (.tup xs) → DqAll B H xs ds → Dq B H (.ref a) (.tuple ds)
  | emp {a : Addr} : H a = some (.dK []) → Dq B H (.ref a) (.dict [])
inductive DqAll (B : Addr → Prop) (H : Hp) : List V → List PyData → Prop
  | nil : DqAll B H [] []
  | cons {v : V} {vs : List V} {d : PyData} {ds : List PyData} : Dq B H v d → DqAll B H vs ds → DqAll B H (v :: vs) (d :: ds)
end
mutual
theorem Dq.to {B B2 : Addr → Prop} {H H2 : Hp} (l : ∀ a xs, B a → H a = some (.lst xs) → H2 a = some (.lst xs) ∧ B2 a) (t : ∀ a xs, H a = some (.tup xs) → H2 a = some (.tup xs)) (e0 : ∀ a, H a = some (.dK []) → H2 a = some (.dK [])) : ∀ {d : PyData} {v : V}, Dq B H v d → Dq B2 H2 v d
  | _, _, .non => .non
  | _, _, .bl b => .bl b
  | _, _, .int i => .int i
  | _, _, .str x => .str x
  | _, _, .lst h b hs => .lst (l _ _ b h).1 (l _ _ b h).2 (DqAll.to l t e0 hs)
  | _, _, .tup h hs => .tup (t _ _ h) (DqAll.to l t e0 hs)
  | _, _, .emp h => .emp (e0 _ h)
theorem DqAll.to {B B2 : Addr → Prop} {H H2 : Hp} (l : ∀ a xs, B a → H a = some (.lst xs) → H2 a = some (.lst xs) ∧ B2 a) (t : ∀ a xs, H a = some (.tup xs) → H2 a = some (.tup xs)) (e0 : ∀ a, H a = some (.dK []) → H2 a = some (.dK [])) : ∀ {ds : List PyData} {vs : List V}, DqAll B H vs ds → DqAll B2 H2 vs ds
  | _, _, .nil => .nil
  | _, _, .cons h hs => .cons (Dq.to l t e0 h) (DqAll.to l t e0 hs)
end
theorem Dq.mono {B : Addr → Prop} {H H2 : Hp} (e : Ex H H2) {d : PyData} {v : V} (h : Dq B H v d) : Dq B H2 v d := h.to (fun _ _ b h => ⟨e _ _ h, b⟩) (fun _ _ h => e _ _ h) (fun _ h => e _ _ h)
theorem DqAll.mono {B : Addr → Prop} {H H2 : Hp} (e : Ex H H2) {ds : List PyData} {vs : List V} (h : DqAll B H vs ds) : DqAll B H2 vs ds := h.to (fun _ _ b h => ⟨e _ _ h, b⟩) (fun _ _ h => e _ _ h) (fun _ h => e _ _ h)
mutual
theorem Dq.de {K : PySem.W.Frag} {B : Addr → Prop} {H : Hp} : ∀ {d : PyData} {v : V}, Dq B H v d → CG.De K H v d
  | _, _, .non => .non
  | _, _, .bl b => .bl b
  | _, _, .int i => .int i
  | _, _, .str x => .str x
  | _, _, .lst h _ hs => .lst (SqL.of h) (DqAll.de hs)
  | _, _, .tup h hs => .tup (SqT.of h) (DqAll.de hs)
  | _, _, .emp h => .emp h
theorem DqAll.de {K : PySem.W.Frag} {B : Addr → Prop} {H : Hp} : ∀ {ds : List PyData} {vs : List V}, DqAll B H vs ds → CG.DeAll K H vs ds
  | _, _, .nil => .nil
  | _, _, .cons h hs => .cons (Dq.de h) (DqAll.de hs)
end
theorem DqAll.ints {B : Addr → Prop} {H : Hp} : ∀ (is : List Int), DqAll B H (is.map V.int) (is.map PyData.int)
  | [] => .nil
  | i :: is => .cons (.int i) (DqAll.ints is)
theorem Dq.ints {B : Addr → Prop} {H : Hp} {a : Addr} {is : List Int} (h : H a = some (.tup (is.map V.int))) : Dq B H (.ref a) (iT is) := .tup h (DqAll.ints is)
/-- an int that is no bool -/
def intD : PyData → Option Int
  | .int i => some i
  | _ => none
theorem Dq.isI {K : PySem.W.Frag} {B : Addr → Prop} {H : Hp} {v : V} {d : PyData} (h : Dq B H v d) : IsI K H v (intD d) := by
  cases h with
  | int i => exact rfl
  | non => exact ⟨_, _, _, .base .non, kit_ty (r := false) (by decide +kernel), kit_ty (r := false) (by decide +kernel), rfl⟩
  | bl b => exact ⟨_, _, _, .base (.bl b), kit_ty (r := true) (by decide +kernel), kit_ty (r := true) (by decide +kernel), rfl⟩
  | str x => exact ⟨_, _, _, .base (.str x), kit_ty (r := false) (by decide +kernel), kit_ty (r := false) (by decide +kernel), rfl⟩
  | lst h _ _ => exact ⟨_, _, _, .base (.lst h), kit_ty (r := false) (by decide +kernel), kit_ty (r := false) (by decide +kernel), rfl⟩
  | tup h _ => exact ⟨_, _, _, .base (.tup h), kit_ty (r := false) (by decide +kernel), kit_ty (r := false) (by decide +kernel), rfl⟩
  | emp h => exact ⟨_, _, _, .base (.dK h), kit_ty (r := false) (by decide +kernel), kit_ty (r := false) (by decide +kernel), rfl⟩
/-- what is in a tuple -/
def tupD : PyData → Option (List PyData)
  | .tuple ds => some ds
  | _ => none
theorem Dq.isT {K : PySem.W.Frag} {B : Addr → Prop} {H : Hp} {v : V} {d : PyData} (h : Dq B H v d) : ∃ t, TyX K H v t ∧ PySem.W.kitOne K t (.type "tuple") = some (tupD d).isSome := by
  cases h with
  | int i => exact ⟨_, .base (.int i), kit_ty (r := false) (by decide +kernel)⟩
  | non => exact ⟨_, .base .non, kit_ty (r := false) (by decide +kernel)⟩
  | bl b => exact ⟨_, .base (.bl b), kit_ty (r := false) (by decide +kernel)⟩
  | str x => exact ⟨_, .base (.str x), kit_ty (r := false) (by decide +kernel)⟩
  | lst h _ _ => exact ⟨_, .base (.lst h), kit_ty (r := false) (by decide +kernel)⟩
  | tup h _ => exact ⟨_, .base (.tup h), kit_ty (r := true) (by decide +kernel)⟩
  | emp h => exact ⟨_, .base (.dK h), kit_ty (r := false) (by decide +kernel)⟩
theorem Dq.tupA {B : Addr → Prop} {H : Hp} {v : V} {d : PyData} {ds : List PyData} (h : Dq B H v d) (e : tupD d = some ds) : ∃ a xs, v = .ref a ∧ H a = some (.tup xs) ∧ DqAll B H xs ds := by
  cases h with
  | tup h hs => cases e; exact ⟨_, _, rfl, h, hs⟩
  | _ => cases e
theorem DqAll.len {B : Addr → Prop} {H : Hp} : ∀ {xs : List V} {ds : List PyData}, DqAll B H xs ds → xs.length = ds.length
  | _, _, .nil => rfl
  | _, _, .cons _ t => by rw [List.length_cons, List.length_cons, DqAll.len t]
theorem DqAll.get {B : Addr → Prop} {H : Hp} : ∀ {xs : List V} {ds : List PyData} {j : Nat} {x : V}, DqAll B H xs ds → xs[j]? = some x → ∃ d, ds[j]? = some d ∧ Dq B H x d
  | _, _, _, _, .nil, h => by simp at h
  | _, _, 0, _, .cons h _, e => ⟨_, rfl, by obtain rfl := Option.some.inj e; exact h⟩
  | _, _, j + 1, _, .cons _ t, e => DqAll.get (j := j) t (by simpa using e)
/-- whether data is a witness for the sizes, in the order of the tests -/
def okW3 (ns : List Int) (m : Int) (dw : PyData) : Bool := match tupD dw with
  | some ws => if ws.length = ns.length then (if (ws.map fun w => between (intD w) 0 (m - 1)).all id = true then ((ws.filterMap intD).zip ns).all (fun z => decide (z.1 * z.2 % m = 0)) else false) else false
  | none => false
def okM3 (ns : List Int) (dm dw dr : PyData) : Bool := match intD dm with
  | some m => if 3 ≤ m then (if m % 2 = 0 then false else if between (intD dr) 0 (m - 1) = true then okW3 ns m dw else false) else false
  | none => false
def okB3 (ns : List Int) (d : PyData) : Bool := match tupD d with
  | some [dm, dw, dr] => okM3 ns dm dw dr
  | _ => false
theorem dq_ints {B : Addr → Prop} {H : Hp} : ∀ {xs : List V} {ws : List PyData}, DqAll B H xs ws → (∀ w ∈ ws, ∃ i, intD w = some i) → ∃ is : List Int, ws = is.map PyData.int ∧ xs = is.map V.int
  | _, _, .nil, _ => ⟨[], rfl, rfl⟩
  | _, _, .cons h t, a => by
    obtain ⟨is, e1, e2⟩ := dq_ints t fun w hw => a w (List.mem_cons_of_mem _ hw)
    obtain ⟨i, hi⟩ := a _ List.mem_cons_self
    cases h with
    | int j => exact ⟨j :: is, by rw [e1]; rfl, by rw [e2]; rfl⟩
    | _ => cases hi
theorem ints_of : ∀ {ws : List PyData}, (∀ w ∈ ws, ∃ i, intD w = some i) → ∃ is : List Int, ws = is.map PyData.int
  | [], _ => ⟨[], rfl⟩
  | w :: ws, a => by
    obtain ⟨is, e1⟩ := ints_of fun w hw => a w (List.mem_cons_of_mem _ hw)
    obtain ⟨i, hi⟩ := a _ List.mem_cons_self
    cases w with
    | int j => exact ⟨j :: is, by rw [e1]; rfl⟩
    | _ => cases hi
theorem fm_ints (is : List Int) : (is.map PyData.int).filterMap intD = is := by
  induction is with
  | nil => rfl
  | cons i is ih => rw [List.map_cons, List.filterMap_cons, ih]; rfl
theorem betw_some {o : Option Int} {a b : Int} (h : between o a b = true) : ∃ i, o = some i ∧ a ≤ i ∧ i ≤ b := by
  cases o with
  | none => cases h
  | some i =>
    have h2 : (decide (a ≤ i) && decide (i ≤ b)) = true := h
    rw [Bool.and_eq_true, decide_eq_true_iff, decide_eq_true_iff] at h2
    exact ⟨i, rfl, h2.1, h2.2⟩
theorem all_betw {ws : List PyData} {m : Int} (h : (ws.map fun w => between (intD w) 0 (m - 1)).all id = true) : ∀ w ∈ ws, ∃ i, intD w = some i ∧ 0 ≤ i ∧ i ≤ m - 1 := fun w hw => by
  rw [List.all_map, List.all_eq_true] at h
  exact betw_some (h w hw)
/-- such data is a witness -/
theorem okB3_ok {ns : List Int} {d : PyData} (h : okB3 ns d = true) : ∃ m ws r, d = .tuple [.int m, iT ws, .int r] ∧ WitOk ns m ws r := by
  unfold okB3 at h
  cases d with
  | tuple ds =>
    match ds, h with
    | [dm, dw, dr], h =>
      replace h : okM3 ns dm dw dr = true := h
      unfold okM3 at h
      cases dm with
      | int m =>
        replace h : (if 3 ≤ m then (if m % 2 = 0 then false else if between (intD dr) 0 (m - 1) = true then okW3 ns m dw else false) else false) = true := h
        by_cases c1 : 3 ≤ m
        · rw [if_pos c1] at h
          by_cases c2 : m % 2 = 0
          · rw [if_pos c2] at h
            cases h
          rw [if_neg c2] at h
          by_cases c3 : between (intD dr) 0 (m - 1) = true
          · rw [if_pos c3] at h
            obtain ⟨r, er, r0, r1⟩ := betw_some c3
            cases dr with
            | int r2 =>
              obtain rfl := Option.some.inj er
              unfold okW3 at h
              cases dw with
              | tuple ws =>
                replace h : (if ws.length = ns.length then (if (ws.map fun w => between (intD w) 0 (m - 1)).all id = true then ((ws.filterMap intD).zip ns).all (fun z => decide (z.1 * z.2 % m = 0)) else false) else false) = true := h
                by_cases c4 : ws.length = ns.length
                · rw [if_pos c4] at h
                  by_cases c5 : (ws.map fun w => between (intD w) 0 (m - 1)).all id = true
                  · rw [if_pos c5] at h
                    have ab := all_betw c5
                    obtain ⟨is, rfl⟩ := ints_of fun w hw => by
                      obtain ⟨i, hi, _⟩ := ab w hw
                      exact ⟨i, hi⟩
                    rw [fm_ints] at h
                    rw [List.length_map] at c4
                    refine ⟨m, is, r2, rfl, c1, by omega, r0, by omega, c4, fun x hx => ?_, fun j x n hx hn => ?_⟩
                    · obtain ⟨i, hi, i0, i1⟩ := ab (.int x) (List.mem_map_of_mem hx)
                      obtain rfl := Option.some.inj hi
                      omega
                    · rw [List.all_eq_true] at h
                      exact of_decide_eq_true (h (x, n) (List.mem_iff_getElem?.mpr ⟨j, by rw [List.getElem?_zip_eq_some]; exact ⟨hx, hn⟩⟩))
                  · rw [if_neg c5] at h
                    cases h
                · rw [if_neg c4] at h
                  cases h
              | _ => cases h
            | _ => cases er
          · rw [if_neg c3] at h
            cases h
        · rw [if_neg c1] at h
          cases h
      | _ => cases h
  | _ => cases h

def oT (d : PyData) : Option (List (Option Int)) := (tupD d).map fun es => es.map intD
def intsD (d : PyData) : List Int := ((tupD d).getD []).filterMap intD
/-- no tuple is too long -/
def ShortT (d : PyData) : Prop := ∀ es, tupD d = some es → es.length ≤ 1000
theorem Dq.tA {K : PySem.W.Frag} {B : Addr → Prop} {H : Hp} {v : V} {d : PyData} (h : Dq B H v d) (tb : ShortT d) : TupA K H v (oT d) := by
  have all : ∀ {xs : List V} {ds : List PyData}, DqAll B H xs ds → Paired (IsI K H) xs (ds.map intD) := by
    intro xs ds q
    induction xs generalizing ds with
    | nil => cases q; exact .nil
    | cons x xs ih =>
      cases q with
      | cons a b => exact .cons a.isI (ih b)
  cases h with
  | tup h hs => exact ⟨_, _, rfl, h, by rw [hs.len]; exact tb _ rfl, all hs⟩
  | int i => exact ⟨_, .base (.int i), kit_ty (r := false) (by decide +kernel)⟩
  | non => exact ⟨_, .base .non, kit_ty (r := false) (by decide +kernel)⟩
  | bl b => exact ⟨_, .base (.bl b), kit_ty (r := false) (by decide +kernel)⟩
  | str x => exact ⟨_, .base (.str x), kit_ty (r := false) (by decide +kernel)⟩
  | lst h _ _ => exact ⟨_, .base (.lst h), kit_ty (r := false) (by decide +kernel)⟩
  | emp h => exact ⟨_, .base (.dK h), kit_ty (r := false) (by decide +kernel)⟩
theorem betw_all : ∀ {ns : List Int} {ws : List PyData}, ws.length = ns.length → (List.zipWith (fun o n => between o 0 (n - 1)) (ws.map intD) ns).all id = true → ∃ ps : List Int, ws = ps.map PyData.int ∧ SeatOk ns ps
  | [], [], _, _ => ⟨[], rfl, True.intro⟩
  | n :: ns, w :: ws, l, h => by
    rw [List.map_cons, List.zipWith_cons_cons, List.all_cons, Bool.and_eq_true] at h
    obtain ⟨ps, rfl, sk⟩ := betw_all (ns := ns) (ws := ws) (by simpa using l) h.2
    obtain ⟨i, e, i0, i1⟩ := betw_some (show between (intD w) 0 (n - 1) = true from h.1)
    cases w with
    | int j =>
      cases e
      exact ⟨_ :: ps, rfl, ⟨i0, by omega⟩, sk⟩
    | _ => cases e
theorem seat_ints {ns : List Int} {d : PyData} (h : isSeatO ns (oT d) = true) : ∃ ps, d = iT ps ∧ SeatOk ns ps := by
  cases d with
  | tuple ws =>
    have h : (decide ((ws.map intD).length = ns.length) && (List.zipWith (fun o n => between o 0 (n - 1)) (ws.map intD) ns).all id) = true := h
    rw [Bool.and_eq_true, decide_eq_true_iff, List.length_map] at h
    obtain ⟨ps, rfl, sk⟩ := betw_all h.1 h.2
    exact ⟨ps, rfl, sk⟩
  | _ => cases h
theorem call_ints {ns : List Int} {d : PyData} (h : isCallO ns (oT d) = true) : ∃ cs, d = iT cs ∧ cs.length = ns.length := by
  cases d with
  | tuple ws =>
    have h : (decide ((ws.map intD).length = ns.length) && ((ws.map intD).map Option.isSome).all id) = true := h
    rw [Bool.and_eq_true, decide_eq_true_iff, List.length_map, List.all_eq_true] at h
    obtain ⟨cs, rfl⟩ := ints_of (ws := ws) fun w hw => Option.isSome_iff_exists.mp (h.2 _ (List.mem_map.mpr ⟨_, List.mem_map.mpr ⟨w, hw, rfl⟩, rfl⟩))
    exact ⟨cs, rfl, by rw [← h.1, List.length_map]⟩
  | _ => cases h
/-! ### targets of any kind -/
/-- a value that is no list and no tuple -/
def NoSeq (H : Hp) (x : V) : Prop := x = .non ∨ (∃ b, x = .bl b) ∨ (∃ i, x = .int i) ∨ (∃ z, x = .str z) ∨ ∃ a, x = .ref a ∧ ((∃ kvs, H a = some (.dK kvs)) ∨ ∃ kvs, H a = some (.dT kvs))
theorem NoSeq.ty {K : PySem.W.Frag} {H : Hp} {x : V} (h : NoSeq H x) : ∃ ty, TyX K H x ty ∧ PySem.W.kitAny K ty [.type "list", .type "tuple"] = some false := by
  have no : ∀ {t : String}, PySem.W.kitOne K (.type t) (.type "list") = some false → PySem.W.kitOne K (.type t) (.type "tuple") = some false → PySem.W.kitAny K (.type t) [.type "list", .type "tuple"] = some false := fun {t} h1 h2 => kitAny_cons h1 (fun _ => kitAny_cons h2 (fun _ => rfl) (fun z => nomatch z)) (fun z => nomatch z)
  rcases h with rfl | ⟨b, rfl⟩ | ⟨i, rfl⟩ | ⟨z, rfl⟩ | ⟨a, rfl, ⟨kvs, h⟩ | ⟨kvs, h⟩⟩
  · exact ⟨_, .base .non, no (kit_ty (r := false) (by decide +kernel)) (kit_ty (r := false) (by decide +kernel))⟩
  · exact ⟨_, .base (.bl b), no (kit_ty (r := false) (by decide +kernel)) (kit_ty (r := false) (by decide +kernel))⟩
  · exact ⟨_, .base (.int i), no (kit_ty (r := false) (by decide +kernel)) (kit_ty (r := false) (by decide +kernel))⟩
  · exact ⟨_, .base (.str z), no (kit_ty (r := false) (by decide +kernel)) (kit_ty (r := false) (by decide +kernel))⟩
  · exact ⟨_, .base (.dK h), no (kit_ty (r := false) (by decide +kernel)) (kit_ty (r := false) (by decide +kernel))⟩
  · exact ⟨_, .base (.dT h), no (kit_ty (r := false) (by decide +kernel)) (kit_ty (r := false) (by decide +kernel))⟩
theorem NoSeq.to {H H2 : Hp} {x : V} (k : ∀ a kvs, H a = some (.dK kvs) → H2 a = some (.dK kvs)) (t : ∀ a kvs, H a = some (.dT kvs) → H2 a = some (.dT kvs)) (h : NoSeq H x) : NoSeq H2 x := by
  rcases h with rfl | ⟨b, rfl⟩ | ⟨i, rfl⟩ | ⟨z, rfl⟩ | ⟨a, rfl, ⟨kvs, h⟩ | ⟨kvs, h⟩⟩
  · exact .inl rfl
  · exact .inr (.inl ⟨b, rfl⟩)
  · exact .inr (.inr (.inl ⟨i, rfl⟩))
  · exact .inr (.inr (.inr (.inl ⟨z, rfl⟩)))
  · exact .inr (.inr (.inr (.inr ⟨a, rfl, .inl ⟨kvs, k _ _ h⟩⟩)))
  · exact .inr (.inr (.inr (.inr ⟨a, rfl, .inr ⟨kvs, t _ _ h⟩⟩)))
/-- a value that is no list and no tuple (none), or the entries of one -/
def TgtAt (K : PySem.W.Frag) (B : Addr → Prop) (H : Hp) (x : V) : Option (List PyData) → Prop
  | none => NoSeq H x
  | some ds => ∃ (q : Bool × Addr) (xs : List V), x = .ref q.2 ∧ SqH H q xs ∧ DqAll B H xs ds
def goT (ns : List Int) : List PyData → List (List Int) → Option Int
  | [], _ => none
  | d :: ds, seen => if isSeatO ns (oT d) = true ∧ intsD d ∉ seen then goT ns ds (seen ++ [intsD d]) else some (seen.length : Int)
def tgtDue (ns : List Int) : Option (List PyData) → Option Int
  | none => some (-1)
  | some ds => if ds = [] then some (-1) else goT ns ds []
theorem goT_step {ns : List Int} {ds : List PyData} {d : PyData} {i : Nat} {seen : List (List Int)} (h : ds[i]? = some d) : goT ns (ds.drop i) seen = if isSeatO ns (oT d) = true ∧ intsD d ∉ seen then goT ns (ds.drop (i + 1)) (seen ++ [intsD d]) else some (seen.length : Int) := by
  have il := (List.getElem?_eq_some_iff.mp h).1
  have e : ds.drop i = d :: ds.drop (i + 1) := by
    rw [List.drop_eq_getElem_cons il]
    rw [List.getElem?_eq_getElem il] at h
    rw [Option.some.inj h]
  rw [e]
  rfl
theorem Dq.tgt {K : PySem.W.Frag} {B : Addr → Prop} {H : Hp} {v : V} {d : PyData} (q : Dq B H v d) : TgtAt K B H v (match d with | .list ds => some ds | .tuple ds => some ds | _ => none) := by
  cases q with
  | lst h _ hs => exact ⟨(false, _), _, rfl, h, hs⟩
  | tup h hs => exact ⟨(true, _), _, rfl, h, hs⟩
  | non => exact .inl rfl
  | bl b => exact .inr (.inl ⟨b, rfl⟩)
  | int i => exact .inr (.inr (.inl ⟨i, rfl⟩))
  | str z => exact .inr (.inr (.inr (.inl ⟨z, rfl⟩)))
  | emp h => exact .inr (.inr (.inr (.inr ⟨_, rfl, .inl ⟨_, h⟩⟩)))
theorem TgtAt.mono {K : PySem.W.Frag} {B : Addr → Prop} {H H2 : Hp} {x : V} {od : Option (List PyData)} (e : Ex H H2) (h : TgtAt K B H x od) : TgtAt K B H2 x od := by
  cases od with
  | none =>
    exact NoSeq.to (fun a kvs z => e _ _ z) (fun a kvs z => e _ _ z) h
  | some ds =>
    obtain ⟨q, xs, rfl, h1, h2⟩ := h
    exact ⟨q, xs, rfl, h1.mono e, h2.mono e⟩
theorem intsD_is (ps : List Int) : intsD (iT ps) = ps := fm_ints ps

section
variable {P : Program} {w : World} {K : PySem.W.Frag} {mg : Str → Option Value} {base : Heap}
def sp_is_witness (C : Addr) : Sp := fun vs H Q _ => ∃ (B : Addr → Prop) (a : Addr) (x : V) (ns : List Int) (d : PyData), vs = [.ref a, x] ∧ TabAt C H a ns ∧ ns.length ≤ 4 ∧ (∀ n ∈ ns, n.natAbs < 2 ^ 5000) ∧ Dq B H x d ∧ (∀ dm dw dr m, d = .tuple [dm, dw, dr] → intD dm = some m → m.natAbs < 2 ^ 5000) ∧ ∀ H2, Ex H H2 → Q (.bl (okB3 ns d)) H2
theorem ok_is_witness (T : TX K mg) : FnOk P w K mg base CX0 3 T.f_is_witness T.fd_is_witness ["table", "witness"] (sp_is_witness T.C_Table) := by
  refine T.F_is_witness.ok sc_is_witness (fun vs H Q E h => ?_) (fun cdv A outer s H vs Q E hr h => ?_)
  · obtain ⟨B, a, x, ns, d, rfl, _⟩ := h
    rfl
  · obtain ⟨B, a, x, ns, d, rfl, tab, n4, bn, dq, bm, k⟩ := h
    refine ⟨_, (pss_cons (ps_if (PW.pt (pw_or (pt_not (pt_val (pe_callB call_isi (by rfl) T.z_isinstance (by decide +kernel) (pa_cons (pv 1) (pa_cons (pe_bltn (v := .ty "tuple") rfl T.z_tuple (by decide +kernel) rfl) pa_nil))))) (pw_or1 (pt_cmpR op_ne (pe_callB call_len_seq (by rfl) T.z_len (by decide +kernel) (pa_cons (pv 1) pa_nil)) pe_int (nomark _))))) (pss_one (ps_ret pe_bl)) pss_nil) (pss_cons (ps_asg (pv 1) (pg_tup rfl (pgs_cons (pg_name (i := 2) sc_is_witness.nd rfl (Or.inr rfl)) (pgs_cons (pg_name (i := 3) sc_is_witness.nd rfl (Or.inl rfl)) (pgs_cons (pg_name (i := 4) sc_is_witness.nd rfl (Or.inl rfl)) pgs_nil))))) (pss_cons (ps_if (PW.pt (pw_or (pt_not (pt_val (pe_call (ok_is_at_least T) hr rfl T.m_is_at_least T.F_is_at_least.kp T.b_is_at_least .nil pass0 (pa_cons (pv 2) (pa_cons pe_int pa_nil))))) (pw_or (pt_cmpR op_eq (pe_op op_mod (pv 2) pe_int) pe_int (nomark _)) (pw_or1 (pt_not (pt_val (pe_call (ok_is_between T) hr rfl T.m_is_between T.F_is_between.kp T.b_is_between .nil pass0 (pa_cons (pv 4) (pa_cons pe_int (pa_cons (pe_op op_sub (pv 2) pe_int) pa_nil)))))))))) (pss_one (ps_ret pe_bl)) pss_nil) (pss_cons (ps_if (PW.pt (pw_or (pt_not (pt_val (pe_callB call_isi (by rfl) T.z_isinstance (by decide +kernel) (pa_cons (pv 3) (pa_cons (pe_bltn (v := .ty "tuple") rfl T.z_tuple (by decide +kernel) rfl) pa_nil))))) (pw_or1 (pt_cmpR op_ne (pe_callB call_len_seq (by rfl) T.z_len (by decide +kernel) (pa_cons (pv 3) pa_nil)) (pe_callB call_len_seq (by rfl) T.z_len (by decide +kernel) (pa_cons (pe_meth0 (pv 0) T.cl_Table T.me_Table_sizes (ok_Table_sizes T) (hr.mono (by decide)) T.b_Table_sizes .nil pass0) pa_nil)) (nomark _))))) (pss_one (ps_ret pe_bl)) pss_nil) (pss_cons (ps_if (pt_not (pt_val (pe_callB (cr_all rfl) (by rfl) T.z_all (by decide +kernel) (pa_cons (pe_lc (own := [("weight", 5)]) (g := (gName 5)) rfl sc_is_witness.nd (pi_tup (pv 3)) (blkOk_by (N := N_is_witness) (sc := defScope s_is_witness) (by decide +kernel)) (fun _ _ _ _ _ => (pg_name (i := 5) sc_is_witness.nd rfl (Or.inl rfl))) (fun _ _ _ _ _ => pts_nil) (fun _ _ _ _ _ => (pe_call (ok_is_between T) hr rfl T.m_is_between T.F_is_between.kp T.b_is_between .nil pass0 (pa_cons (pv 5) (pa_cons pe_int (pa_cons (pe_op op_sub (pv 2) pe_int) pa_nil)))))) pa_nil)))) (pss_one (ps_ret pe_bl)) pss_nil) (pss_one (ps_ret (pe_callB (cr_all rfl) (by rfl) T.z_all (by decide +kernel) (pa_cons (pe_lc (own := [("weight", 5), ("size", 6)]) (g := (gTup K 2 (gCons (gName 5) (gCons (gName 6) gNil)))) rfl sc_is_witness.nd (CZ.pi_z2s (fl := [true, true]) rfl (by rfl) T.z_zip (pa_cons (pv 3) (pa_cons (pe_meth0 (pv 0) T.cl_Table T.me_Table_sizes (ok_Table_sizes T) (hr.mono (by decide)) T.b_Table_sizes .nil pass0) pa_nil))) (blkOk_by (N := N_is_witness) (sc := defScope s_is_witness) (by decide +kernel)) (fun _ _ _ _ _ => (pg_tup rfl (pgs_cons (pg_name (i := 5) sc_is_witness.nd rfl (Or.inl rfl)) (pgs_cons (pg_name (i := 6) sc_is_witness.nd rfl (Or.inl rfl)) pgs_nil)))) (fun _ _ _ _ _ => pts_nil) (fun _ _ _ _ _ => (pe_cmpR op_eq (pe_op op_mod (pe_op op_mulI (pv 5) (pv 6)) (pv 2)) pe_int (nomark _)))) pa_nil))))))))), ?_⟩
    obtain ⟨dx, t, g1, g2⟩ := id tab
    obtain ⟨ty, hty, hkit⟩ := dq.isT
    refine ⟨_, rfl, _, _, _, _, _, rfl, .ty _, hty, hkit, _, rfl, ?_⟩
    cases et : tupD d with
    | none =>
      have e : okB3 ns d = false := by unfold okB3; rw [et]
      rw [e] at k
      exact itt rfl (k _ exr)
    | some ds =>
    refine itf rfl ?_
    obtain ⟨xa, xs, rfl, hxa, dall⟩ := dq.tupA et
    have lxs := dall.len
    refine ⟨_, rfl, xa, _, rfl, .inr (SqT.of hxa), rfl, _, rfl, ?_⟩
    by_cases l3 : ds.length = 3
    · obtain ⟨dm, dw, dr, rfl⟩ : ∃ dm dw dr, ds = [dm, dw, dr] := by
        match ds, l3 with
        | [a1, a2, a3], _ => exact ⟨a1, a2, a3, rfl⟩
      obtain ⟨vm, vw, vr, rfl, qm, qw, qr⟩ : ∃ vm vw vr, xs = [vm, vw, vr] ∧ Dq B H vm dm ∧ Dq B H vw dw ∧ Dq B H vr dr := by
        cases dall with
        | cons h1 t1 =>
          cases t1 with
          | cons h2 t2 =>
            cases t2 with
            | cons h3 t3 =>
              cases t3
              exact ⟨_, _, _, rfl, h1, h2, h3⟩
      have ed : d = .tuple [dm, dw, dr] := by
        cases d with
        | tuple ds => exact congrArg PyData.tuple (Option.some.inj et)
        | _ => cases et
      have ew : okB3 ns d = okM3 ns dm dw dr := by rw [ed]; rfl
      rw [ew] at k
      refine itf rfl ?_
      refine ⟨_, rfl, xa, _, rfl, SqT.of hxa, rfl, _, _, rfl, _, _, rfl, _, _, rfl, rfl, ?_⟩
      refine ⟨_, rfl, _, _, 3, rfl, qm.isI, _, rfl, ?_⟩
      cases em : intD dm with
      | none =>
        have e : okM3 ns dm dw dr = false := by unfold okM3; rw [em]
        rw [e] at k
        exact itt rfl (k _ exr)
      | some m =>
      have m5 := bm _ _ _ _ ed em
      have vme : vm = .int m := by
        have := qm.isI (K := K)
        rw [em] at this
        exact this
      subst vme
      have e1 : okM3 ns dm dw dr = if 3 ≤ m then (if m % 2 = 0 then false else if between (intD dr) 0 (m - 1) = true then okW3 ns m dw else false) else false := by unfold okM3; rw [em]
      rw [e1] at k
      by_cases c1 : 3 ≤ m
      rotate_left
      · rw [if_neg c1] at k
        exact itt (by show (!decide (3 ≤ m)) = true; rw [decide_eq_false c1]; rfl) (k _ exr)
      rw [if_pos c1] at k
      refine itf (by show (!decide (3 ≤ m)) = false; rw [decide_eq_true c1]; rfl) ?_
      refine ⟨_, rfl, _, _, rfl, rfl, (by show (0 : Int) < 2; decide), rfl, _, rfl, ?_⟩
      by_cases c2 : m % 2 = 0
      · rw [if_pos c2] at k
        exact itt (by show decide (V.int (m % 2) = V.int 0) = true; rw [c2]; rfl) (k _ exr)
      rw [if_neg c2] at k
      refine itf (by show decide (V.int (m % 2) = V.int 0) = false; rw [dec_int]; exact decide_eq_false c2) ?_
      refine ⟨_, rfl, _, rfl, _, _, rfl, rfl, _, _, 0, m - 1, rfl, qr.isI, _, rfl, ?_⟩
      by_cases c3 : between (intD dr) 0 (m - 1) = true
      rotate_left
      · rw [if_neg c3] at k
        exact itt (by rw [Bool.eq_false_iff.mpr c3]; rfl) (k _ exr)
      rw [if_pos c3] at k
      refine itf (by rw [c3]; rfl) ?_
      obtain ⟨ty2, hty2, hkit2⟩ := qw.isT
      refine ⟨_, rfl, _, _, _, _, _, rfl, .ty _, hty2, hkit2, _, rfl, ?_⟩
      cases ew2 : tupD dw with
      | none =>
        have e : okW3 ns m dw = false := by unfold okW3; rw [ew2]
        rw [e] at k
        exact itt rfl (k _ exr)
      | some ws =>
      refine itf rfl ?_
      obtain ⟨wa, us, rfl, hwa, qall⟩ := qw.tupA ew2
      have lus := qall.len
      have e2 : okW3 ns m dw = if ws.length = ns.length then (if (ws.map fun w => between (intD w) 0 (m - 1)).all id = true then ((ws.filterMap intD).zip ns).all (fun z => decide (z.1 * z.2 % m = 0)) else false) else false := by unfold okW3; rw [ew2]
      rw [e2] at k
      refine ⟨_, rfl, wa, _, rfl, .inr (SqT.of hwa), _, rfl, a, dx, _, rfl, g1, rfl, a, dx, t, rfl, g1, t, _, rfl, .inr (SqT.of g2), rfl, _, rfl, ?_⟩
      by_cases c4 : ws.length = ns.length
      rotate_left
      · rw [if_neg c4] at k
        exact itt (by rw [List.length_map]; simp; omega) (k _ exr)
      rw [if_pos c4] at k
      refine itf (by rw [List.length_map]; simp; omega) ?_
      refine ⟨_, rfl, wa, rfl, ⟨_, SqT.of hwa⟩, fun D hD => ?_⟩
      refine lc_vals (walk_tup (xs := us)) ((ws.map fun w => between (intD w) 0 (m - 1)).map V.bl) (by rw [List.length_map, List.length_map]; omega) (by omega) hD (fun H3 e => SqT.of (e _ _ hwa)) ?_ gmono_name ?_
      · rintro j x _ H1 R hj e1 ⟨rfl, hx⟩ kk
        obtain ⟨dd, hd, qd⟩ := (qall.mono e1).get hx
        refine ⟨rfl, _, rfl, _, rfl, _, _, rfl, rfl, _, _, 0, m - 1, rfl, qd.isI, kk _ _ exr ?_⟩
        rw [List.getElem?_map, List.getElem?_map, hd]
        rfl
      intro H1 e1 hD1
      refine ⟨D, _, rfl, SqL.of hD1, _, rfl, ?_⟩
      by_cases c5 : (ws.map fun w => between (intD w) 0 (m - 1)).all id = true
      rotate_left
      · rw [if_neg c5] at k
        exact itt (by rw [Bool.eq_false_iff.mpr c5]; rfl) (k _ e1)
      rw [if_pos c5] at k
      refine itf (by rw [c5]; rfl) ?_
      have ab := all_betw c5
      obtain ⟨is, rfl, rfl⟩ := dq_ints qall fun w hw => by
        obtain ⟨i, hi, _⟩ := ab w hw
        exact ⟨i, hi⟩
      rw [fm_ints] at k
      rw [List.length_map] at c4
      obtain ⟨dx2, t2, g3, g4⟩ := tab.mono e1
      refine ⟨_, rfl, _, rfl, a, dx2, _, rfl, g3, rfl, a, dx2, t2, rfl, g3, [wa, t2], rfl, rfl, all2 (sqT (e1 _ _ hwa)) (sqT g4), fun D2 hD2 => ?_⟩
      refine lc_vals (CZ.walk_rows (xss := [is.map V.int, ns.map V.int]) (n := ns.length) (lens2 (by rw [List.length_map, c4]) (by rw [List.length_map]))) (((is.zip ns).map fun z => decide (z.1 * z.2 % m = 0)).map V.bl) (by rw [List.length_map, List.length_map, List.length_zip]; omega) (by omega) hD2 (fun H3 e => .cons (sqT (e _ _ (e1 _ _ hwa))) (.cons (sqT (e _ _ g4)) .nil)) ?_ (gmono_tup (gmono_cons gmono_name (gmono_cons gmono_name gmono_nil))) ?_
      · intro j y H2 H3 R hj e yy kk
        obtain ⟨Tb, x, n, rfl, hTb, rfl, hx, hn⟩ := yints2 yy
        obtain ⟨i, hi, x0, x1⟩ := ab (.int x) (List.mem_map_of_mem (List.mem_of_getElem? hx))
        obtain rfl := Option.some.inj hi
        have xb : x.natAbs < 2 ^ 5000 := Nat.lt_of_le_of_lt (by omega) m5
        refine ⟨Tb, _, rfl, SqT.of upd_same, rfl, _, _, rfl, _, _, rfl, rfl, ?_⟩
        refine ⟨rfl, _, rfl, _, rfl, _, _, rfl, rfl, (wide_mul xb (bn n (List.mem_of_getElem? hn)) (by decide) (by decide) (by decide)).ok, _, rfl, _, _, rfl, rfl, (by show (0 : Int) < m; omega), rfl, kk _ _ (exn hTb) ?_⟩
        rw [List.getElem?_map, List.getElem?_map, show (is.zip ns)[j]? = some (x, n) by rw [List.getElem?_zip_eq_some]; exact ⟨hx, hn⟩]
        show some (V.bl (decide (x * n % m = 0))) = some (V.bl (decide (V.int (x * n % m) = V.int 0)))
        exact congrArg (fun b => some (V.bl b)) (decide_eq_decide.mpr ⟨fun z => by rw [z], fun z => by injection z⟩)
      · intro H2 e2 hD3
        refine ⟨D2, _, rfl, SqL.of hD3, ?_⟩
        rw [show ((is.zip ns).map fun z => decide (z.1 * z.2 % m = 0)).all id = (is.zip ns).all fun z => decide (z.1 * z.2 % m = 0) by rw [List.all_map]; rfl]
        exact k _ (ext e1 e2)
    · have e : okB3 ns d = false := by
        unfold okB3
        rw [et]
        match ds, l3 with
        | [], _ => rfl
        | [_], _ => rfl
        | [_, _], _ => rfl
        | [_, _, _], h => exact absurd rfl h
        | _ :: _ :: _ :: _ :: _, _ => rfl
      rw [e] at k
      exact itt (by rw [lxs]; simp; omega) (k _ exr)
end

/-- an exception with one field -/
def sp_exi (C : Addr) (f : Str) : Sp := fun vs H Q _ => ∃ (a : Addr) (x : V), vs = [.ref a, x] ∧ H a = some (exo a C none) ∧ ∀ dx, H dx = none → dx ≠ a → Q .non (upd (upd H dx (exd dx [(f, x)])) a (exo a C (some dx)))
theorem exc_made {H : Hp} {a C : Addr} {f : Str} {x : V} {E E1 : XK} (na : H a = none) (k : ∀ d H2, Ex H H2 → H2 d = some (.xd [(f, x)]) → E (.ref C) (some d) H2) :
    sp_exi C f [.ref a, x] (upd H a (exo a C none)) (fun v H2 => v = .non ∧ ∃ (d : Addr) (fs : List (Str × V)), H2 a = some (exo a C (some d)) ∧ H2 d = some (exd d fs) ∧ H d = none ∧ E (.ref C) (some d) (upd (del H2 a) d (.xd fs))) E1 := by
  refine ⟨a, x, rfl, upd_same, fun dx hd ne => ⟨rfl, dx, _, upd_same, by rw [upd_ne ne, upd_same], by rw [upd_ne ne] at hd; exact hd, k _ _ (fun c o hc => ?_) upd_same⟩⟩
  have ca : c ≠ a := ne_of_none hc na
  have cd : c ≠ dx := ne_of_none hc (by rw [upd_ne ne] at hd; exact hd)
  rw [upd_ne cd, del_ne ca, upd_ne ca, upd_ne cd, upd_ne ca]
  exact hc

section
variable {P : Program} {w : World} {K : PySem.W.Frag} {mg : Str → Option Value} {base : Heap}
theorem ok_InvalidTable_init (T : TX K mg) : FnOk P w K mg base CX0 1 T.f_InvalidTable_init T.fd_InvalidTable_init ["self", "rings"] (sp_exi T.C_InvalidTable "rings") := by
  refine T.F_InvalidTable_init.ok sc_InvalidTable_init (fun vs H Q E h => ?_) (fun cdv A outer s H vs Q E hr h => ?_)
  · obtain ⟨a, x, rfl, _⟩ := h
    rfl
  · obtain ⟨a, x, rfl, ha, k⟩ := h
    refine ⟨_, (pss_one (ps_ost (pv 0) (pv 1))), ?_⟩
    exact ⟨_, rfl, _, rfl, a, _, rfl, T.ox_InvalidTable, T.n_InvalidTable_rings, .inl ⟨ha, fun dx n ne => k dx n ne⟩⟩
end

section
variable {P : Program} {w : World} {K : PySem.W.Frag} {mg : Str → Option Value} {base : Heap}
theorem ok_InvalidTargets_init (T : TX K mg) : FnOk P w K mg base CX0 1 T.f_InvalidTargets_init T.fd_InvalidTargets_init ["self", "index"] (sp_exi T.C_InvalidTargets "index") := by
  refine T.F_InvalidTargets_init.ok sc_InvalidTargets_init (fun vs H Q E h => ?_) (fun cdv A outer s H vs Q E hr h => ?_)
  · obtain ⟨a, x, rfl, _⟩ := h
    rfl
  · obtain ⟨a, x, rfl, ha, k⟩ := h
    refine ⟨_, (pss_one (ps_ost (pv 0) (pv 1))), ?_⟩
    exact ⟨_, rfl, _, rfl, a, _, rfl, T.ox_InvalidTargets, T.n_InvalidTargets_index, .inl ⟨ha, fun dx n ne => k dx n ne⟩⟩
end

section
variable {P : Program} {w : World} {K : PySem.W.Frag} {mg : Str → Option Value} {base : Heap}
theorem ok_InvalidSeat_init (T : TX K mg) : FnOk P w K mg base CX0 1 T.f_InvalidSeat_init T.fd_InvalidSeat_init ["self", "seat"] (sp_exi T.C_InvalidSeat "seat") := by
  refine T.F_InvalidSeat_init.ok sc_InvalidSeat_init (fun vs H Q E h => ?_) (fun cdv A outer s H vs Q E hr h => ?_)
  · obtain ⟨a, x, rfl, _⟩ := h
    rfl
  · obtain ⟨a, x, rfl, ha, k⟩ := h
    refine ⟨_, (pss_one (ps_ost (pv 0) (pv 1))), ?_⟩
    exact ⟨_, rfl, _, rfl, a, _, rfl, T.ox_InvalidSeat, T.n_InvalidSeat_seat, .inl ⟨ha, fun dx n ne => k dx n ne⟩⟩
end

section
variable {P : Program} {w : World} {K : PySem.W.Frag} {mg : Str → Option Value} {base : Heap}
theorem ok_InvalidWitness_init (T : TX K mg) : FnOk P w K mg base CX0 1 T.f_InvalidWitness_init T.fd_InvalidWitness_init ["self", "index"] (sp_exi T.C_InvalidWitness "index") := by
  refine T.F_InvalidWitness_init.ok sc_InvalidWitness_init (fun vs H Q E h => ?_) (fun cdv A outer s H vs Q E hr h => ?_)
  · obtain ⟨a, x, rfl, _⟩ := h
    rfl
  · obtain ⟨a, x, rfl, ha, k⟩ := h
    refine ⟨_, (pss_one (ps_ost (pv 0) (pv 1))), ?_⟩
    exact ⟨_, rfl, _, rfl, a, _, rfl, T.ox_InvalidWitness, T.n_InvalidWitness_index, .inl ⟨ha, fun dx n ne => k dx n ne⟩⟩
end

section
variable {P : Program} {w : World} {K : PySem.W.Frag} {mg : Str → Option Value} {base : Heap}
/-- whether the value is an instance of the class C -/
def InsB (K : PySem.W.Frag) (C : Addr) (H : Hp) (x : V) (b : Bool) : Prop := ∃ ty, TyX K H x ty ∧ PySem.W.kitOne K ty (.ref C) = some b
/-- what a def raises: an exception of the class CE with one field -/
def Rai (E : XK) (H : Hp) (CE : Addr) (f : Str) (v : V) : Prop := ∀ (dd : Addr) (H2 : Hp), Ex H H2 → H2 dd = some (.xd [(f, v)]) → E (.ref CE) (some dd) H2
theorem Rai.mono {E : XK} {H H2 : Hp} {CE : Addr} {f : Str} {v : V} (h : Rai E H CE f v) (e : Ex H H2) : Rai E H2 CE f v := fun dd H3 e3 hd => h dd H3 (ext e e3) hd
def spX_require_table (K : PySem.W.Frag) (C CE : Addr) : Sp := fun vs H Q E => ∃ (x : V) (b : Bool), vs = [x] ∧ InsB K C H x b ∧ (b = true → Q .non H) ∧ (b = false → Rai E H CE "rings" x)
theorem okX_require_table (T : TX K mg) : FnOk P w K mg base (L2.CX P w) 5 T.f_require_table T.fd_require_table ["table"] (spX_require_table K T.C_Table T.C_InvalidTable) := by
  refine T.F_require_table.okX sc_require_table (fun vs H Q E h => ?_) (fun cdv A outer s H vs Q E hr h => ?_)
  · obtain ⟨x, b, rfl, _⟩ := h
    rfl
  · obtain ⟨x, b, rfl, ⟨ty, hty, hk⟩, kQ, kE⟩ := h
    refine ⟨_, (pss_one (ps_if (pt_not (pt_val (pe_callB call_isi (by rfl) T.z_isinstance (by decide +kernel) (pa_cons (pv 0) (pa_cons (pe_glob (v := .ref T.C_Table) rfl T.m_Table rfl) pa_nil))))) (pss_one (ps_raise rfl (takes_of rfl rfl rfl rfl) (pmk_oex T.ox_InvalidTable T.i_InvalidTable T.ti_InvalidTable (ok_InvalidTable_init T) (hr.mono (by decide)) T.b_InvalidTable_init .nil pass0 rfl T.m_InvalidTable (pa_cons (pv 0) pa_nil)))) pss_nil)), ?_⟩
    refine ⟨_, rfl, _, _, _, _, b, rfl, .own _, hty, hk, _, rfl, ?_⟩
    cases b with
    | true => exact itf rfl (kQ rfl)
    | false =>
      refine itt rfl ?_
      refine ⟨_, rfl, by show 1 ≤ 1000; decide, fun ea na => ?_⟩
      exact exc_made na fun dd H4 e4 hd => kE rfl dd H4 e4 hd
def spX_require_seat (K : PySem.W.Frag) (C CE : Addr) : Sp := fun vs H Q E => ∃ (a : Addr) (x : V) (ns : List Int) (ot : Option (List (Option Int))), vs = [.ref a, x] ∧ TabAt C H a ns ∧ ns.length ≤ 4 ∧ TupA K H x ot ∧ (isSeatO ns ot = true → ∀ H2, Ex H H2 → Q .non H2) ∧ (isSeatO ns ot = false → Rai E H CE "seat" x)
theorem okX_require_seat (T : TX K mg) : FnOk P w K mg base (L2.CX P w) 4 T.f_require_seat T.fd_require_seat ["table", "seat"] (spX_require_seat K T.C_Table T.C_InvalidSeat) := by
  refine T.F_require_seat.okX sc_require_seat (fun vs H Q E h => ?_) (fun cdv A outer s H vs Q E hr h => ?_)
  · obtain ⟨a, x, ns, ot, rfl, _⟩ := h
    rfl
  · obtain ⟨a, x, ns, ot, rfl, tab, l4, hx, kQ, kE⟩ := h
    obtain ⟨dx, t, h1, h2⟩ := id tab
    refine ⟨_, (pss_one (ps_if (pt_not (pt_val (pe_meth (pv 0) T.cl_Table T.me_Table_is_seat (ok_Table_is_seat T) hr T.b_Table_is_seat .nil pass0 (pa_cons (pv 1) pa_nil)))) (pss_one (ps_raise rfl (takes_of rfl rfl rfl rfl) (pmk_oex T.ox_InvalidSeat T.i_InvalidSeat T.ti_InvalidSeat (ok_InvalidSeat_init T) (hr.mono (by decide)) T.b_InvalidSeat_init .nil pass0 rfl T.m_InvalidSeat (pa_cons (pv 1) pa_nil)))) pss_nil)), ?_⟩
    refine ⟨_, rfl, a, dx, _, rfl, h1, rfl, _, rfl, a, x, ns, ot, rfl, tab, l4, hx, fun H2 e2 => ?_⟩
    cases is : isSeatO ns ot with
    | true => exact ⟨_, rfl, itf rfl (kQ is H2 e2)⟩
    | false =>
      refine ⟨_, rfl, itt rfl ?_⟩
      refine ⟨_, rfl, by show 1 ≤ 1000; decide, fun ea na => ?_⟩
      exact exc_made na fun dd H4 e4 hd => kE is dd H4 (ext e2 e4) hd
def spX_require_targets (K : PySem.W.Frag) (C CE : Addr) : Sp := fun vs H Q E => ∃ (B : Addr → Prop) (a : Addr) (x : V) (ns : List Int) (od : Option (List PyData)), vs = [.ref a, x] ∧ TabAt C H a ns ∧ ns.length ≤ 4 ∧ TgtAt K B H x od ∧ (∀ ds, od = some ds → ds.length ≤ 1000 ∧ ∀ d ∈ ds, ShortT d) ∧
  (tgtDue ns od = none → ∀ H2, Ex H H2 → Q .non H2) ∧ (∀ i, tgtDue ns od = some i → Rai E H CE "index" (.int i))
theorem okX_require_targets (T : TX K mg) : FnOk P w K mg base (L2.CX P w) 4 T.f_require_targets T.fd_require_targets ["table", "targets"] (spX_require_targets K T.C_Table T.C_InvalidTargets) := by
  refine T.F_require_targets.okX sc_require_targets (fun vs H Q E h => ?_) (fun cdv A outer s H vs Q E hr h => ?_)
  · obtain ⟨B, a, x, ns, od, rfl, _⟩ := h
    rfl
  · obtain ⟨B, a, x, ns, od, rfl, tab, l4, hx, bd, kQ, kE⟩ := h
    refine ⟨_, (pss_cons (ps_if (PW.pt (pw_or (pt_not (pt_val (pe_callB call_isiT (by rfl) T.z_isinstance (by decide +kernel) (pa_cons (pv 1) (pa_cons (pe_tup (pa_cons (pe_bltn (v := .ty "list") rfl T.z_list (by decide +kernel) rfl) (pa_cons (pe_bltn (v := .ty "tuple") rfl T.z_tuple (by decide +kernel) rfl) pa_nil))) pa_nil))))) (pw_or1 (pt_cmpR op_eq (pe_callB call_len_seq (by rfl) T.z_len (by decide +kernel) (pa_cons (pv 1) pa_nil)) pe_int (nomark _))))) (pss_one (ps_raise rfl (takes_of rfl rfl rfl rfl) (pmk_oex T.ox_InvalidTargets T.i_InvalidTargets T.ti_InvalidTargets (ok_InvalidTargets_init T) (hr.mono (by decide)) T.b_InvalidTargets_init .nil pass0 rfl T.m_InvalidTargets (pa_cons (pe_un un_neg pe_int) pa_nil)))) pss_nil) (pss_cons (ps_set (i := 2) sc_require_targets.nd rfl (Or.inl rfl) pe_dnewT) (pss_one (ps_for (passes_of rfl) rfl (CE.pi_e rfl T.z_enumerate (pa_cons (pv 1) pa_nil)) (pg_tup rfl (pgs_cons (pg_name (i := 3) sc_require_targets.nd rfl (Or.inl rfl)) (pgs_cons (pg_name (i := 4) sc_require_targets.nd rfl (Or.inl rfl)) pgs_nil))) (pss_cons (ps_if (PW.pt (pw_or (pt_not (pt_val (pe_meth (pv 0) T.cl_Table T.me_Table_is_seat (ok_Table_is_seat T) hr T.b_Table_is_seat .nil pass0 (pa_cons (pv 4) pa_nil)))) (pw_or1 (pt_cmp (pc_din (hu_of hr) (pv 4) (pv 2)))))) (pss_one (ps_raise rfl (takes_of rfl rfl rfl rfl) (pmk_oex T.ox_InvalidTargets T.i_InvalidTargets T.ti_InvalidTargets (ok_InvalidTargets_init T) (hr.mono (by decide)) T.b_InvalidTargets_init .nil pass0 rfl T.m_InvalidTargets (pa_cons (pv 3) pa_nil)))) pss_nil) (pss_one (ps_dput (hu_of hr) (pv 2) (pv 4) (pv 3) (by rfl)))))))), ?_⟩
    (repeat (first | refine ⟨rfl, ?_⟩ | refine ⟨_, rfl, ?_⟩ | refine ⟨_, _, rfl, rfl, ?_⟩ | refine ⟨_, _, rfl, ?_⟩ | refine ⟨slen rfl, ?_⟩ | refine ⟨⟨by decide, by decide +kernel⟩, ?_⟩ | refine ⟨⟨by decide, by decide, by decide⟩, ?_⟩ | refine ⟨(by show (0 : Int) < _; first | decide | assumption | omega), ?_⟩ | refine ⟨mul_ok (by first | exact .inr (by decide) | exact .inl (by decide)), ?_⟩))
    (intro y ny; generalize hGy : upd _ y _ = H1; have eH1 := exG hGy ny; have hy := atG hGy; clear hGy)
    have hx1 := hx.mono eH1
    cases od with
    | none =>
      obtain ⟨ty, hty, hk⟩ := NoSeq.ty (K := K) hx1
      refine ⟨_, y, _, _, _, false, rfl, hy, .cons (.ty _) (.cons (.ty _) .nil), hty, hk, _, rfl, itt rfl ?_⟩
      refine ⟨_, rfl, by show 1 ≤ 1000; decide, fun ea na => ?_⟩
      exact exc_made na fun dd H4 e4 hd => kE (-1) rfl dd H4 (ext eH1 e4) hd
    | some ds =>
      obtain ⟨lb, sb⟩ := bd ds rfl
      obtain ⟨⟨b, q⟩, xs, rfl, q1, all⟩ := hx1
      have lxs := all.len
      refine ⟨_, y, _, _, _, true, rfl, hy, .cons (.ty _) (.cons (.ty _) .nil), q1.ty, kit_seq b, _, rfl, itf rfl ?_⟩
      refine ⟨_, rfl, q, _, rfl, sq_or q1, rfl, _, rfl, ?_⟩
      by_cases c0 : ds = []
      · refine itt (by rw [dec_int, lxs, c0]; rfl) ?_
        refine ⟨_, rfl, by show 1 ≤ 1000; decide, fun ea na => ?_⟩
        exact exc_made na fun dd H4 e4 hd => kE (-1) (by show (if ds = [] then some (-1) else _) = _; rw [if_pos c0]) dd H4 (ext eH1 e4) hd
      refine itf (by rw [dec_int, lxs]; simp; exact c0) ?_
      have eD : tgtDue ns (some ds) = goT ns ds [] := if_neg c0
      rw [eD] at kQ kE
      dsimp only [tNext]
      (intro d nd; generalize hGd : upd _ d _ = H2; have eH2 := exG hGd nd; have hd := atG hGd; clear hGd)
      have e2 : Ex H H2 := ext eH1 eH2
      have nd0 : H d = none := Evl.fresh_back eH1 nd
      have all2 := all.mono eH2
      have q2 := q1.mono eH2
      dsimp only [gName]
      refine ⟨_, rfl, (b, q), rfl, ⟨_, q2.sq⟩, ?_⟩
      refine for_it (CE.walk_e (xs := xs)) (fun i σ H3 => ∃ (y3 y4 : Option V) (kvs : List (List Key × V)) (seen : List (List Int)), σ = [some (.ref a), some (.ref q), some (.ref d), y3, y4] ∧ Ex H H3 ∧ SqH H3 (b, q) xs ∧ DqAll B H3 xs ds ∧ H3 d = some (.dT kvs) ∧ kvs.length = i ∧ seen.length = i ∧ (∀ ts : List Int, (valV kvs (kI ts)).isSome = decide (ts ∈ seen)) ∧ goT ns ds [] = goT ns (ds.drop i) seen) ⟨_, _, [], [], rfl, e2, q2, all2, hd, rfl, rfl, (fun t => by simp [valV]), rfl⟩ (fun i σ H2 _ ⟨_, _, _, _, _, _, e, _⟩ => e.sq) ?_ ?_
      · rintro i x σ H3 H4 hi ⟨y3, y4, kvs, seen, rfl, e3, sq3, all3, hd3, lk, ls, hv, hgo⟩ ⟨Ta, x1, x2, rfl, hT, rfl, hx1, hx2⟩
        cases hx1
        obtain ⟨e, he, qe0⟩ := all3.get hx2
        rw [goT_step he] at hgo
        generalize hG : upd H3 Ta _ = Hz
        have ez := exG hG hT
        have hTa := atG hG
        clear hG
        have Ez := ext e3 ez
        have qe := qe0.mono ez
        have tabz := tab.mono Ez
        obtain ⟨dx, t, g1, g2⟩ := id tabz
        have me := List.mem_of_getElem? he
        refine ⟨Ta, _, rfl, SqT.of hTa, rfl, _, _, rfl, _, _, rfl, rfl, ?_⟩
        refine ⟨_, rfl, a, dx, _, rfl, g1, rfl, _, rfl, a, _, ns, _, rfl, tabz, l4, qe.tA (sb e me), fun H5 e5 => ?_⟩
        have E5 := ext Ez e5
        have bad : ¬ (isSeatO ns (oT e) = true ∧ intsD e ∉ seen) → ∀ dd H6, Ex H5 H6 → H6 dd = some (.xd [("index", .int (i : Int))]) → E (.ref T.C_InvalidTargets) (some dd) H6 := fun z dd H6 e6 h6 => by
          rw [if_neg z] at hgo
          exact kE _ hgo dd H6 (ext E5 e6) (by rw [ls]; exact h6)
        cases is : isSeatO ns (oT e) with
        | false =>
          refine ⟨_, rfl, itt rfl ?_⟩
          refine ⟨_, rfl, by show 1 ≤ 1000; decide, fun ea na => ?_⟩
          exact exc_made na fun dd H6 e6 h6 => bad (fun z => by rw [is] at z; cases z.1) dd H6 e6 h6
        | true =>
        refine ⟨_, rfl, itf rfl ?_⟩
        obtain ⟨p, rfl, sp⟩ := seat_ints is
        rw [intsD_is] at hgo bad
        obtain ⟨r, xr, rfl, hre, hall⟩ := (qe.mono e5).tupA (ds := p.map PyData.int) rfl
        have hr5 : H5 r = some (.tup ((kI p).map kV)) := by
          obtain ⟨is2, a1, a2⟩ := dq_ints hall fun w hw => by
            obtain ⟨i, _, rfl⟩ := List.mem_map.mp hw
            exact ⟨i, rfl⟩
          have a3 : is2 = p := by
            have := congrArg (List.filterMap intD) a1
            rw [fm_ints, fm_ints] at this
            exact this.symm
          rw [kI_map, hre, a2, a3]
        have hd5 := e5 _ _ (ez _ _ hd3)
        refine ⟨_, rfl, _, rfl, d, _, rfl, DGet.t hd5 hr5, _, rfl, ?_⟩
        by_cases ms : p ∈ seen
        · refine itt (by rw [hv]; exact decide_eq_true ms) ?_
          refine ⟨_, rfl, by show 1 ≤ 1000; decide, fun ea na => ?_⟩
          exact exc_made na fun dd H6 e6 h6 => bad (fun z => z.2 ms) dd H6 e6 h6
        have hno : valV kvs (kI p) = none := by
          have := hv p
          rw [decide_eq_false ms] at this
          exact Option.not_isSome_iff_eq_none.mp (by rw [this]; simp)
        refine itf (by rw [hv]; exact decide_eq_false ms) ?_
        dsimp only [tNext]
        refine ⟨_, rfl, _, rfl, _, rfl, d, _, rfl, DPut.t hd5 hr5 ?_, ?_⟩
        · rw [lk]
          exact Nat.lt_of_lt_of_le (show i < 1000 by have := (List.getElem?_eq_some_iff.mp he).1; omega) (by decide)
        · have hnd : ∀ c o, H5 c = some o → c ≠ d → upd H5 d (.dT (putK kvs (kI p) (.int (i : Nat)))) c = some o := fun c o z n => by
            rw [upd_ne n]
            exact z
          have all5 := (all3.mono ez).mono e5
          refine ⟨_, _, putK kvs (kI p) (.int (i : Nat)), seen ++ [p], rfl, ?_, ?_, all5.to (fun c xs b h => ⟨hnd _ _ h (fun z => by rw [z, hd5] at h; cases h), b⟩) (fun c xs h => hnd _ _ h (fun z => by rw [z, hd5] at h; cases h)) (fun c h => hnd _ _ h (fun z => by rw [z, hd5] at h; cases h)), upd_same, by rw [put_len hno, lk], by rw [List.length_append, ls]; rfl, fun us => ?_, ?_⟩
          · intro c o z
            rw [upd_ne (ne_of_none z nd0)]
            exact e5 c o (Ez c o z)
          · have sq5 := (sq3.mono ez).mono e5
            cases b
            · have sq6 : H5 q = some (.lst xs) := sq5
              exact hnd _ _ sq6 (fun z => by have z2 : q = d := z; rw [z2, hd5] at sq6; cases sq6)
            · have sq6 : H5 q = some (.tup xs) := sq5
              exact hnd _ _ sq6 (fun z => by have z2 : q = d := z; rw [z2, hd5] at sq6; cases sq6)
          · rw [valV_put]
            by_cases e9 : us = p
            · rw [if_pos (by rw [e9])]
              rw [e9]
              simp
            · rw [if_neg (fun z => e9 (kI_inj z)), hv, Bool.eq_iff_iff, decide_eq_true_iff, decide_eq_true_iff, List.mem_append, List.mem_singleton]
              exact ⟨.inl, fun h => h.resolve_right e9⟩
          · rw [hgo, if_pos ⟨is, ms⟩]
      · rintro σ H3 ⟨y3, y4, kvs, seen, rfl, e3, _, _, _, _, _, _, hgo⟩
        refine kQ ?_ _ e3
        rw [hgo, lxs, List.drop_length]
        rfl
end

/-! ### the order of the errors -/
def RTab (K : PySem.W.Frag) (C CT : Addr) (E : XK) (H : Hp) (x : V) (rest : Addr → List Int → Prop) : Prop := (InsB K C H x false ∧ Rai E H CT "rings" x) ∨ ∃ (a : Addr) (ns : List Int), x = .ref a ∧ TabAt C H a ns ∧ SzOk ns ∧ (∀ n ∈ ns, n.natAbs < 2 ^ 5000) ∧ rest a ns
def RTgt (K : PySem.W.Frag) (CG : Addr) (E : XK) (H : Hp) (ns : List Int) (x : V) (rest : Prop) : Prop := ∃ (B : Addr → Prop) (od : Option (List PyData)), TgtAt K B H x od ∧ (∀ ds, od = some ds → ds.length ≤ 1000 ∧ ∀ d ∈ ds, ShortT d) ∧ ((∃ i, tgtDue ns od = some i ∧ Rai E H CG "index" (.int i)) ∨ (tgtDue ns od = none ∧ rest))
def RSeat (K : PySem.W.Frag) (CS : Addr) (E : XK) (H : Hp) (ns : List Int) (x : V) (rest : Prop) : Prop := ∃ ot : Option (List (Option Int)), TupA K H x ot ∧ ((isSeatO ns ot = false ∧ Rai E H CS "seat" x) ∨ (isSeatO ns ot = true ∧ rest))
def RWit (CW : Addr) (E : XK) (H : Hp) (ns : List Int) (x : V) (rest : Prop) : Prop := ∃ (B : Addr → Prop) (d : PyData), Dq B H x d ∧ (∀ dm dw dr m, d = .tuple [dm, dw, dr] → intD dm = some m → m.natAbs < 2 ^ 5000) ∧ ((okB3 ns d = false ∧ Rai E H CW "index" (.int (-1))) ∨ (okB3 ns d = true ∧ rest))
section
variable {K : PySem.W.Frag} {C CT CG CS CW a : Addr} {E : XK} {H : Hp} {Q : VK} {x : V} {ns : List Int}
theorem ins_tab (cl : Cls K C) (h1 : PySem.W.findIn K (.ref C) "__class__" = some (some (.builtin "object.__class__"))) (h2 : PySem.W.specialIn K (.builtin "object.__class__") "__get__" = some (some (.builtin "getset_descriptor.__get__"))) (h3 : PySem.W.takesIn K (.builtin "object.__class__") = some true) (h4 : PySem.W.mroIn K C (.type "object") = some true) (t : TabAt C H a ns) : InsB K C H (.ref a) true := by
  obtain ⟨dx, t, e1, e2⟩ := t
  exact ⟨_, .base (.ins e1 cl h1 h2 h3 h4), kit_self⟩
theorem rtab_use {rest : Addr → List Int → Prop} (h : RTab K C CT E H x rest) (cl : Cls K C) (h1 : PySem.W.findIn K (.ref C) "__class__" = some (some (.builtin "object.__class__"))) (h2 : PySem.W.specialIn K (.builtin "object.__class__") "__get__" = some (some (.builtin "getset_descriptor.__get__"))) (h3 : PySem.W.takesIn K (.builtin "object.__class__") = some true) (h4 : PySem.W.mroIn K C (.type "object") = some true)
    (k : ∀ a ns, x = .ref a → TabAt C H a ns → SzOk ns → (∀ n ∈ ns, n.natAbs < 2 ^ 5000) → rest a ns → Q .non H) : spX_require_table K C CT [x] H Q E := by
  rcases h with ⟨hb, r⟩ | ⟨a, ns, rfl, tab, ok, bn, h⟩
  · exact ⟨x, false, rfl, hb, (fun z => nomatch z), fun _ => r⟩
  · exact ⟨_, true, rfl, ins_tab cl h1 h2 h3 h4 tab, (fun _ => k a ns rfl tab ok bn h), fun z => nomatch z⟩
theorem rtgt_use {rest : Prop} (h : RTgt K CG E H ns x rest) (tab : TabAt C H a ns) (ok : SzOk ns) {H1 : Hp} (e1 : Ex H H1) (k : rest → ∀ H2, Ex H H2 → Q .non H2) : spX_require_targets K C CG [.ref a, x] H1 Q E := by
  obtain ⟨B, od, hx, bd, h⟩ := h
  refine ⟨B, a, x, ns, od, rfl, tab.mono e1, ok.le, hx.mono e1, bd, fun z H2 e2 => ?_, fun i hi => ?_⟩
  · rcases h with ⟨i, hi, _⟩ | ⟨_, r⟩
    · rw [z] at hi
      cases hi
    · exact k r H2 (ext e1 e2)
  · rcases h with ⟨j, hj, r⟩ | ⟨z, _⟩
    · obtain rfl := Option.some.inj (hi.symm.trans hj)
      exact r.mono e1
    · rw [z] at hi
      cases hi
theorem tupa_mono {H1 : Hp} {ot : Option (List (Option Int))} (e : Ex H H1) (h : TupA K H x ot) : TupA K H1 x ot := by
  cases ot with
  | none =>
    obtain ⟨ty, h1, h2⟩ := h
    exact ⟨ty, TyX.mono e h1, h2⟩
  | some os =>
    obtain ⟨v, xs, rfl, h1, h2, h3⟩ := h
    exact ⟨v, xs, rfl, e _ _ h1, h2, paired_mono (fun v a q => IsI.mono e q) h3⟩
theorem rseat_use {rest : Prop} (h : RSeat K CS E H ns x rest) (tab : TabAt C H a ns) (ok : SzOk ns) {H1 : Hp} (e1 : Ex H H1) (k : rest → ∀ H2, Ex H H2 → Q .non H2) : spX_require_seat K C CS [.ref a, x] H1 Q E := by
  obtain ⟨ot, hx, h⟩ := h
  refine ⟨a, x, ns, ot, rfl, tab.mono e1, ok.le, tupa_mono e1 hx, fun z H2 e2 => ?_, fun z => ?_⟩
  · rcases h with ⟨q, _⟩ | ⟨_, r⟩
    · rw [q] at z
      cases z
    · exact k r H2 (ext e1 e2)
  · rcases h with ⟨_, r⟩ | ⟨q, _⟩
    · exact r.mono e1
    · rw [q] at z
      cases z
end
section
variable {P : Program} {w : World} {K : PySem.W.Frag} {mg : Str → Option Value} {base : Heap}
def spX_require_witness (C CX : Addr) : Sp := fun vs H Q E => ∃ (B : Addr → Prop) (a : Addr) (x : V) (ns : List Int) (d : PyData), vs = [.ref a, x] ∧ TabAt C H a ns ∧ ns.length ≤ 4 ∧ (∀ n ∈ ns, n.natAbs < 2 ^ 5000) ∧ Dq B H x d ∧ (∀ dm dw dr m, d = .tuple [dm, dw, dr] → intD dm = some m → m.natAbs < 2 ^ 5000) ∧ (okB3 ns d = true → ∀ H2, Ex H H2 → Q .non H2) ∧ (okB3 ns d = false → Rai E H CX "index" (.int (-1)))
theorem okX_require_witness (T : TX K mg) : FnOk P w K mg base (L2.CX P w) 4 T.f_require_witness T.fd_require_witness ["table", "witness"] (spX_require_witness T.C_Table T.C_InvalidWitness) := by
  refine T.F_require_witness.okX sc_require_witness (fun vs H Q E h => ?_) (fun cdv A outer s H vs Q E hr h => ?_)
  · obtain ⟨B, a, x, ns, d, rfl, _⟩ := h
    rfl
  · obtain ⟨B, a, x, ns, d, rfl, tab, l4, bn, dq, bm, kQ, kE⟩ := h
    refine ⟨_, (pss_one (ps_if (pt_not (pt_val (pe_call (ok_is_witness T) hr rfl T.m_is_witness T.F_is_witness.kp T.b_is_witness .nil pass0 (pa_cons (pv 0) (pa_cons (pv 1) pa_nil))))) (pss_one (ps_raise rfl (takes_of rfl rfl rfl rfl) (pmk_oex T.ox_InvalidWitness T.i_InvalidWitness T.ti_InvalidWitness (ok_InvalidWitness_init T) (hr.mono (by decide)) T.b_InvalidWitness_init .nil pass0 rfl T.m_InvalidWitness (pa_cons (pe_un un_neg pe_int) pa_nil)))) pss_nil)), ?_⟩
    refine ⟨_, rfl, _, rfl, B, a, x, ns, d, rfl, tab, l4, bn, dq, bm, fun H2 e2 => ?_⟩
    cases ok : okB3 ns d with
    | true => exact ⟨_, rfl, itf rfl (kQ ok H2 e2)⟩
    | false =>
      refine ⟨_, rfl, itt rfl ?_⟩
      refine ⟨_, rfl, by show 1 ≤ 1000; decide, fun ea na => ?_⟩
      exact exc_made na fun dd H4 e4 hd => kE ok dd H4 (ext e2 e4) hd
theorem rwit_use {C CW a : Addr} {E : XK} {H : Hp} {Q : VK} {x : V} {ns : List Int} {rest : Prop} (h : RWit CW E H ns x rest) (tab : TabAt C H a ns) (ok : SzOk ns) (bn : ∀ n ∈ ns, n.natAbs < 2 ^ 5000) {H1 : Hp} (e1 : Ex H H1) (k : rest → ∀ H2, Ex H H2 → Q .non H2) : spX_require_witness C CW [.ref a, x] H1 Q E := by
  obtain ⟨B, d, hx, bm, h⟩ := h
  refine ⟨B, a, x, ns, d, rfl, tab.mono e1, ok.le, bn, hx.mono e1, bm, fun z H2 e2 => ?_, fun z => ?_⟩
  · rcases h with ⟨q, _⟩ | ⟨_, r⟩
    · rw [q] at z
      cases z
    · exact k r H2 (ext e1 e2)
  · rcases h with ⟨_, r⟩ | ⟨q, _⟩
    · exact r.mono e1
    · rw [q] at z
      cases z
def spX_coset_count (K : PySem.W.Frag) (C CT CG : Addr) : Sp := fun vs H Q E => ∃ xt xg, vs = [xt, xg] ∧ RTab K C CT E H xt fun a ns => RTgt K CG E H ns xg False
theorem okX_coset_count (T : TX K mg) : FnOk P w K mg base (L2.CX P w) 6 T.f_coset_count T.fd_coset_count ["table", "targets"] (spX_coset_count K T.C_Table T.C_InvalidTable T.C_InvalidTargets) := by
  refine T.F_coset_count.okX sc_coset_count (fun vs H Q E h => ?_) (fun cdv A outer s H vs Q E hr h => ?_)
  · obtain ⟨xt, xg, rfl, _⟩ := h
    rfl
  · obtain ⟨xt, xg, rfl, h⟩ := h
    refine ⟨_, (pss_cons (ps_expr (pe_call (okX_require_table T) hr rfl T.m_require_table T.F_require_table.kp T.b_require_table .nil (passes_call (takes_of rfl rfl rfl rfl) (fun _ _ _ _ h => h)) (pa_cons (pv 0) pa_nil))) (pss_cons (ps_expr (pe_call (okX_require_targets T) (hr.mono (by decide)) rfl T.m_require_targets T.F_require_targets.kp T.b_require_targets .nil (passes_call (takes_of rfl rfl rfl rfl) (fun _ _ _ _ h => h)) (pa_cons (pv 0) (pa_cons (pv 1) pa_nil)))) pss_never)), ?_⟩
    refine ⟨_, rfl, ?_⟩
    dsimp only [tNil, List.append_nil]
    refine rtab_use h T.cl_Table T.ic_Table T.ig_ T.it_ T.im_Table fun a ns hx tab ok bn g => ?_
    subst hx
    refine ⟨_, rfl, _, rfl, ?_⟩
    dsimp only [tNil, List.append_nil]
    exact rtgt_use g tab ok exr fun z => z.elim
def spX_reach (K : PySem.W.Frag) (C CT CG CS : Addr) : Sp := fun vs H Q E => ∃ xt xg xs, vs = [xt, xg, xs] ∧ RTab K C CT E H xt fun a ns => RTgt K CG E H ns xg (RSeat K CS E H ns xs False)
theorem okX_reach (T : TX K mg) : FnOk P w K mg base (L2.CX P w) 6 T.f_reach T.fd_reach ["table", "targets", "seat"] (spX_reach K T.C_Table T.C_InvalidTable T.C_InvalidTargets T.C_InvalidSeat) := by
  refine T.F_reach.okX sc_reach (fun vs H Q E h => ?_) (fun cdv A outer s H vs Q E hr h => ?_)
  · obtain ⟨xt, xg, xs, rfl, _⟩ := h
    rfl
  · obtain ⟨xt, xg, xs, rfl, h⟩ := h
    refine ⟨_, (pss_cons (ps_expr (pe_call (okX_require_table T) hr rfl T.m_require_table T.F_require_table.kp T.b_require_table .nil (passes_call (takes_of rfl rfl rfl rfl) (fun _ _ _ _ h => h)) (pa_cons (pv 0) pa_nil))) (pss_cons (ps_expr (pe_call (okX_require_targets T) (hr.mono (by decide)) rfl T.m_require_targets T.F_require_targets.kp T.b_require_targets .nil (passes_call (takes_of rfl rfl rfl rfl) (fun _ _ _ _ h => h)) (pa_cons (pv 0) (pa_cons (pv 1) pa_nil)))) (pss_cons (ps_expr (pe_call (okX_require_seat T) (hr.mono (by decide)) rfl T.m_require_seat T.F_require_seat.kp T.b_require_seat .nil (passes_call (takes_of rfl rfl rfl rfl) (fun _ _ _ _ h => h)) (pa_cons (pv 0) (pa_cons (pv 2) pa_nil)))) pss_never))), ?_⟩
    refine ⟨_, rfl, ?_⟩
    dsimp only [tNil, List.append_nil]
    refine rtab_use h T.cl_Table T.ic_Table T.ig_ T.it_ T.im_Table fun a ns hx tab ok bn g => ?_
    subst hx
    refine ⟨_, rfl, _, rfl, ?_⟩
    dsimp only [tNil, List.append_nil]
    refine rtgt_use g tab ok exr fun h H2 e2 => ?_
    refine ⟨_, rfl, _, rfl, ?_⟩
    dsimp only [tNil, List.append_nil]
    exact rseat_use h tab ok e2 fun z => z.elim
def spX_check_witness (K : PySem.W.Frag) (C CT CG CS CW : Addr) : Sp := fun vs H Q E => ∃ xt xg xs xw, vs = [xt, xg, xs, xw] ∧ RTab K C CT E H xt fun a ns => RTgt K CG E H ns xg (RSeat K CS E H ns xs (RWit CW E H ns xw False))
theorem okX_check_witness (T : TX K mg) : FnOk P w K mg base (L2.CX P w) 6 T.f_check_witness T.fd_check_witness ["table", "targets", "seat", "witness"] (spX_check_witness K T.C_Table T.C_InvalidTable T.C_InvalidTargets T.C_InvalidSeat T.C_InvalidWitness) := by
  refine T.F_check_witness.okX sc_check_witness (fun vs H Q E h => ?_) (fun cdv A outer s H vs Q E hr h => ?_)
  · obtain ⟨xt, xg, xs, xw, rfl, _⟩ := h
    rfl
  · obtain ⟨xt, xg, xs, xw, rfl, h⟩ := h
    refine ⟨_, (pss_cons (ps_expr (pe_call (okX_require_table T) hr rfl T.m_require_table T.F_require_table.kp T.b_require_table .nil (passes_call (takes_of rfl rfl rfl rfl) (fun _ _ _ _ h => h)) (pa_cons (pv 0) pa_nil))) (pss_cons (ps_expr (pe_call (okX_require_targets T) (hr.mono (by decide)) rfl T.m_require_targets T.F_require_targets.kp T.b_require_targets .nil (passes_call (takes_of rfl rfl rfl rfl) (fun _ _ _ _ h => h)) (pa_cons (pv 0) (pa_cons (pv 1) pa_nil)))) (pss_cons (ps_expr (pe_call (okX_require_seat T) (hr.mono (by decide)) rfl T.m_require_seat T.F_require_seat.kp T.b_require_seat .nil (passes_call (takes_of rfl rfl rfl rfl) (fun _ _ _ _ h => h)) (pa_cons (pv 0) (pa_cons (pv 2) pa_nil)))) (pss_cons (ps_expr (pe_call (okX_require_witness T) (hr.mono (by decide)) rfl T.m_require_witness T.F_require_witness.kp T.b_require_witness .nil (passes_call (takes_of rfl rfl rfl rfl) (fun _ _ _ _ h => h)) (pa_cons (pv 0) (pa_cons (pv 3) pa_nil)))) pss_never)))), ?_⟩
    refine ⟨_, rfl, ?_⟩
    dsimp only [tNil, List.append_nil]
    refine rtab_use h T.cl_Table T.ic_Table T.ig_ T.it_ T.im_Table fun a ns hx tab ok bn g => ?_
    subst hx
    refine ⟨_, rfl, _, rfl, ?_⟩
    dsimp only [tNil, List.append_nil]
    refine rtgt_use g tab ok exr fun h H2 e2 => ?_
    refine ⟨_, rfl, _, rfl, ?_⟩
    dsimp only [tNil, List.append_nil]
    refine rseat_use h tab ok e2 fun h H3 e3 => ?_
    refine ⟨_, rfl, _, rfl, ?_⟩
    dsimp only [tNil, List.append_nil]
    exact rwit_use h tab ok bn e3 fun z => z.elim
def spX_value (K : PySem.W.Frag) (C CT CS CW : Addr) : Sp := fun vs H Q E => ∃ xt xw xs, vs = [xt, xw, xs] ∧ RTab K C CT E H xt fun a ns => RWit CW E H ns xw (RSeat K CS E H ns xs False)
theorem okX_value (T : TX K mg) : FnOk P w K mg base (L2.CX P w) 6 T.f_value T.fd_value ["table", "witness", "seat"] (spX_value K T.C_Table T.C_InvalidTable T.C_InvalidSeat T.C_InvalidWitness) := by
  refine T.F_value.okX sc_value (fun vs H Q E h => ?_) (fun cdv A outer s H vs Q E hr h => ?_)
  · obtain ⟨xt, xw, xs, rfl, _⟩ := h
    rfl
  · obtain ⟨xt, xw, xs, rfl, h⟩ := h
    refine ⟨_, (pss_cons (ps_expr (pe_call (okX_require_table T) hr rfl T.m_require_table T.F_require_table.kp T.b_require_table .nil (passes_call (takes_of rfl rfl rfl rfl) (fun _ _ _ _ h => h)) (pa_cons (pv 0) pa_nil))) (pss_cons (ps_expr (pe_call (okX_require_witness T) (hr.mono (by decide)) rfl T.m_require_witness T.F_require_witness.kp T.b_require_witness .nil (passes_call (takes_of rfl rfl rfl rfl) (fun _ _ _ _ h => h)) (pa_cons (pv 0) (pa_cons (pv 1) pa_nil)))) (pss_cons (ps_expr (pe_call (okX_require_seat T) (hr.mono (by decide)) rfl T.m_require_seat T.F_require_seat.kp T.b_require_seat .nil (passes_call (takes_of rfl rfl rfl rfl) (fun _ _ _ _ h => h)) (pa_cons (pv 0) (pa_cons (pv 2) pa_nil)))) pss_never))), ?_⟩
    refine ⟨_, rfl, ?_⟩
    dsimp only [tNil, List.append_nil]
    refine rtab_use h T.cl_Table T.ic_Table T.ig_ T.it_ T.im_Table fun a ns hx tab ok bn g => ?_
    subst hx
    refine ⟨_, rfl, _, rfl, ?_⟩
    dsimp only [tNil, List.append_nil]
    refine rwit_use g tab ok bn exr fun h H2 e2 => ?_
    refine ⟨_, rfl, _, rfl, ?_⟩
    dsimp only [tNil, List.append_nil]
    exact rseat_use h tab ok e2 fun z => z.elim
end

/-! ### what is raised, as data -/
/-- data that repr shows, and that stands -/
structure ShA (K : PySem.W.Frag) (H : Hp) (x : V) (d : PyData) : Prop where
  de : CG.De K H x d
  sh : d.showable = true
  len : d.shown.length ≤ sizeLine
  dep : d.depth ≤ 60
/-- the pair that tells an error -/
def TwoS (G : Hp) (r : Addr) (w : Str) (v : V) : Prop := G r = some (.tup [.str w, v])
def ErrW (K : PySem.W.Frag) (CT CG CS CW : Addr) (Q : VK) : XK := fun cls d G => ∃ (dd : Addr) (f : Str) (x : V), d = some dd ∧ G dd = some (.xd [(f, x)]) ∧
  ((cls = .ref CT ∧ f = "rings" ∧ ∃ e, (∀ G2, Ex G G2 → ShA K G2 x e) ∧ ∀ G2 r, Ex G G2 → TwoS G2 r "table" (.str e.shown) → Q (.ref r) G2) ∨
   (cls = .ref CG ∧ f = "index" ∧ ∃ i, x = .int i ∧ ∀ G2 r, Ex G G2 → TwoS G2 r "targets" (.int i) → Q (.ref r) G2) ∨
   (cls = .ref CS ∧ f = "seat" ∧ ∃ e, (∀ G2, Ex G G2 → ShA K G2 x e) ∧ ∀ G2 r, Ex G G2 → TwoS G2 r "seat" (.str e.shown) → Q (.ref r) G2) ∨
   (cls = .ref CW ∧ f = "index" ∧ ∃ i, x = .int i ∧ ∀ G2 r, Ex G G2 → TwoS G2 r "witness" (.int i) → Q (.ref r) G2))
/-- nothing is raised: ("none", "") -/
def NoneT (Q : VK) : VK := fun _ H1 => [V.str "none", V.str ""].length ≤ sizeLine ∧ ∀ p, H1 p = none → Q (.ref p) (upd H1 p (.tup [V.str "none", V.str ""]))
def TTerr (K : PySem.W.Frag) (CT CG CS CW : Addr) : (XK → Hp → VK → Prop) → Hp → VK → Prop := fun tl H Q => tl (ErrW K CT CG CS CW Q) H (NoneT Q)

section
variable {P : Program} {w : World} {K : PySem.W.Frag} {mg : Str → Option Value} {base : Heap}
theorem gives_law_raised (T : TX K mg) (L : TL T base) (k : Nat) : CG.Gives P w K mg base k N_law_raised "_law_raised" "_law_attempt" s_law_raised T.f_law_raised (TTerr K T.C_InvalidTable T.C_InvalidTargets T.C_InvalidSeat T.C_InvalidWitness) := by
  intro A outer cdg f s H Q Rd tl gd hr act here h
  refine ⟨_, (pss_cons (ps_try_as1 (i := 1) rfl rfl sc_law_raised.nd rfl rfl ⟨rfl, by decide, Or.inl T.m_SeatError⟩ (fun W pn xe tk _ => pss_one (ps_expr (by exact (act W pn xe _ _ tk)))) (fun a oe cls d pn hz hf => (pss_cons (ps_set (i := 2) sc_law_raised.nd rfl (Or.inl rfl) (pe_lst (pa_cons (pe_callB (r := CG.rIsEG K cls d a) (CG.call_isEG hz hf) (by rfl) T.z_isinstance (by decide +kernel) (pa_cons (pv 1) (pa_cons (pe_glob (v := .ref T.C_InvalidTable) rfl T.m_InvalidTable rfl) pa_nil))) (pa_cons (pe_callB (r := CG.rIsEG K cls d a) (CG.call_isEG hz hf) (by rfl) T.z_isinstance (by decide +kernel) (pa_cons (pv 1) (pa_cons (pe_glob (v := .ref T.C_InvalidTargets) rfl T.m_InvalidTargets rfl) pa_nil))) (pa_cons (pe_callB (r := CG.rIsEG K cls d a) (CG.call_isEG hz hf) (by rfl) T.z_isinstance (by decide +kernel) (pa_cons (pv 1) (pa_cons (pe_glob (v := .ref T.C_InvalidSeat) rfl T.m_InvalidSeat rfl) pa_nil))) pa_nil))))) (pss_cons (ps_set (i := 2) sc_law_raised.nd rfl (Or.inl rfl) (pe_op (r := rCatR K) op_catR (pv 2) (pe_lst (pa_cons (pe_callB (r := CG.rIsEG K cls d a) (CG.call_isEG hz hf) (by rfl) T.z_isinstance (by decide +kernel) (pa_cons (pv 1) (pa_cons (pe_glob (v := .ref T.C_InvalidWitness) rfl T.m_InvalidWitness rfl) pa_nil))) (pa_cons (pe_callB (r := CG.rIsEG K cls d a) (CG.call_isEG hz hf) (by rfl) T.z_isinstance (by decide +kernel) (pa_cons (pv 1) (pa_cons (pe_glob (v := .ref T.C_InvalidCall) rfl T.m_InvalidCall rfl) pa_nil))) pa_nil))))) (pss_cons (ps_if (PW.pt (pw_or (pt_cmpR op_ne (show PE _ _ (tBM K "list" (CG.rCntB K) _ _) from (pe_bm PySem.F.plainAttrs_list PySem.F.slot_list_count PySem.F.type_list_count CG.mt_lcountB (pv 2) (pa_cons pe_bl pa_nil))) pe_int (nomark _)) (pw_or (pt_val (pe_ix (r := rIxL K) ix_list (pv 2) pe_int (fun _ _ => rfl))) (pw_or1 (pt_not (pt_val (pe_callB (r := CG.rIsEG K cls d a) (CG.call_isEG hz hf) (by rfl) T.z_isinstance (by decide +kernel) (pa_cons (pv 1) (pa_cons (pe_bltn (v := .ty "ValueError") rfl T.z_ValueError (by decide +kernel) rfl) pa_nil))))))))) (pss_one (ps_ret (pe_tup (pa_cons pe_str (pa_cons pe_str pa_nil))))) pss_nil) (pss_cons (ps_if (pt_val (pe_ix (r := rIxL K) ix_list (pv 2) pe_int (fun _ _ => rfl))) (pss_one (ps_ret (pe_tup (pa_cons pe_str (pa_cons (pe_callB (r := CG.rReprA K) (CG.cr_reprA L.sysb gd (have z := u65 hr; z)) (by rfl) T.z_repr (by decide +kernel) (pa_cons (pe_xf T.xf_InvalidTable T.n_InvalidTable_rings hz hf (pv 1)) pa_nil)) pa_nil))))) pss_nil) (pss_cons (ps_if (pt_val (pe_ix (r := rIxL K) ix_list (pv 2) pe_int (fun _ _ => rfl))) (pss_one (ps_ret (pe_tup (pa_cons pe_str (pa_cons (pe_xf T.xf_InvalidTargets T.n_InvalidTargets_index hz hf (pv 1)) pa_nil))))) pss_nil) (pss_one (ps_ret (pe_ifExp (pt_val (pe_ix (r := rIxL K) ix_list (pv 2) pe_int (fun _ _ => rfl))) (pe_tup (pa_cons pe_str (pa_cons (pe_callB (r := CG.rReprA K) (CG.cr_reprA L.sysb gd (have z := u65 hr; z)) (by rfl) T.z_repr (by decide +kernel) (pa_cons (pe_xf T.xf_InvalidSeat T.n_InvalidSeat_seat hz hf (pv 1)) pa_nil)) pa_nil))) (pe_tup (pa_cons pe_str (pa_cons (pe_xf T.xf_InvalidWitness T.n_InvalidWitness_index hz hf (pv 1)) pa_nil))))))))))))) (pss_one (ps_ret (pe_tup (pa_cons pe_str (pa_cons pe_str pa_nil)))))), ?_⟩
  refine ⟨rfl, here, _, ?_, h⟩
  rintro cls d G ⟨dd, fl, x, rfl, hdd, h⟩
  rcases h with ⟨rfl, rfl, e, sh, kq⟩ | ⟨rfl, rfl, i, rfl, kq⟩ | ⟨rfl, rfl, e, sh, kq⟩ | ⟨rfl, rfl, i, rfl, kq⟩
  · refine ⟨T.em_InvalidTable_SeatError, fun a na => ?_⟩
    refine ⟨_, rfl, T.C_InvalidTable, _, _, true, rfl, rfl, T.xi_InvalidTable, ⟨dd, _, rfl, hdd⟩, CG.rel_cls, kit_self, _, rfl, T.C_InvalidTable, _, _, false, rfl, rfl, T.xi_InvalidTable, ⟨dd, _, rfl, hdd⟩, CG.rel_cls, CG.kit1 T.ki_InvalidTable_InvalidTargets, _, rfl, T.C_InvalidTable, _, _, false, rfl, rfl, T.xi_InvalidTable, ⟨dd, _, rfl, hdd⟩, CG.rel_cls, CG.kit1 T.ki_InvalidTable_InvalidSeat, slen rfl, ?_⟩
    (intro l1 nl1; generalize hGl1 : upd _ l1 _ = G1; have eG1 := exG hGl1 nl1; have hl1 := atG hGl1; clear hGl1)
    dsimp only [gName]
    refine ⟨_, rfl, _, rfl, T.C_InvalidTable, _, _, false, rfl, rfl, T.xi_InvalidTable, ⟨dd, _, rfl, eG1 _ _ hdd⟩, CG.rel_cls, CG.kit1 T.ki_InvalidTable_InvalidWitness, _, rfl, T.C_InvalidTable, _, _, false, rfl, rfl, T.xi_InvalidTable, ⟨dd, _, rfl, eG1 _ _ hdd⟩, CG.rel_cls, CG.kit1 T.ki_InvalidTable_InvalidCall, slen rfl, ?_⟩
    (intro l2 nl2; generalize hGl2 : upd _ l2 _ = G2; have eG2 := exG hGl2 nl2; have hl2 := atG hGl2; clear hGl2)
    refine ⟨l1, l2, _, _, rfl, rfl, SqL.of (eG2 _ _ hl1), SqL.of hl2, by decide, ?_⟩
    (intro l3 nl3; generalize hGl3 : upd _ l3 _ = G3; have eG3 := exG hGl3 nl3; have hl3 := atG hGl3; clear hGl3)
    have hl3b : G3 l3 = some (.lst (([true, false, false, false, false] : List Bool).map V.bl)) := hl3
    have E3 := ext eG1 (ext eG2 eG3)
    have hdd3 := E3 _ _ hdd
    dsimp only [gName]
    refine ⟨_, rfl, .inl ⟨rfl, _, SqL.of hl3⟩, l3, [true, false, false, false, false], rfl, rfl, SqL.of hl3b, rfl, _, rfl, itf (by decide) ?_⟩
    refine ⟨_, rfl, l3, _, _, _, rfl, rfl, SqL.of hl3, (L2.atI_nat (j := 4) rfl), _, rfl, itf rfl ?_⟩
    refine ⟨_, rfl, T.C_InvalidTable, _, _, true, rfl, rfl, T.xi_InvalidTable, ⟨dd, _, rfl, hdd3⟩, CG.rel_ty, CG.kit1 T.ki_InvalidTable_ValueError, _, rfl, itf rfl ?_⟩
    dsimp only [tNext]
    refine ⟨_, rfl, l3, _, _, _, rfl, rfl, SqL.of hl3, (L2.atI_nat (j := 0) rfl), _, rfl, itt rfl ?_⟩
    refine ⟨_, rfl, rfl, rfl, dd, _, _, rfl, hdd3, rfl, _, e, rfl, (sh _ E3).de, (sh _ E3).sh, (sh _ E3).len, (sh _ E3).dep, slen rfl, ?_⟩
    (intro r nr; generalize hGr : upd _ r _ = G4; have eG4 := exG hGr nr; have hr := atG hGr; clear hGr)
    exact kq G4 r (ext E3 eG4) hr
  · refine ⟨T.em_InvalidTargets_SeatError, fun a na => ?_⟩
    refine ⟨_, rfl, T.C_InvalidTargets, _, _, false, rfl, rfl, T.xi_InvalidTargets, ⟨dd, _, rfl, hdd⟩, CG.rel_cls, CG.kit1 T.ki_InvalidTargets_InvalidTable, _, rfl, T.C_InvalidTargets, _, _, true, rfl, rfl, T.xi_InvalidTargets, ⟨dd, _, rfl, hdd⟩, CG.rel_cls, kit_self, _, rfl, T.C_InvalidTargets, _, _, false, rfl, rfl, T.xi_InvalidTargets, ⟨dd, _, rfl, hdd⟩, CG.rel_cls, CG.kit1 T.ki_InvalidTargets_InvalidSeat, slen rfl, ?_⟩
    (intro l1 nl1; generalize hGl1 : upd _ l1 _ = G1; have eG1 := exG hGl1 nl1; have hl1 := atG hGl1; clear hGl1)
    dsimp only [gName]
    refine ⟨_, rfl, _, rfl, T.C_InvalidTargets, _, _, false, rfl, rfl, T.xi_InvalidTargets, ⟨dd, _, rfl, eG1 _ _ hdd⟩, CG.rel_cls, CG.kit1 T.ki_InvalidTargets_InvalidWitness, _, rfl, T.C_InvalidTargets, _, _, false, rfl, rfl, T.xi_InvalidTargets, ⟨dd, _, rfl, eG1 _ _ hdd⟩, CG.rel_cls, CG.kit1 T.ki_InvalidTargets_InvalidCall, slen rfl, ?_⟩
    (intro l2 nl2; generalize hGl2 : upd _ l2 _ = G2; have eG2 := exG hGl2 nl2; have hl2 := atG hGl2; clear hGl2)
    refine ⟨l1, l2, _, _, rfl, rfl, SqL.of (eG2 _ _ hl1), SqL.of hl2, by decide, ?_⟩
    (intro l3 nl3; generalize hGl3 : upd _ l3 _ = G3; have eG3 := exG hGl3 nl3; have hl3 := atG hGl3; clear hGl3)
    have hl3b : G3 l3 = some (.lst (([false, true, false, false, false] : List Bool).map V.bl)) := hl3
    have E3 := ext eG1 (ext eG2 eG3)
    have hdd3 := E3 _ _ hdd
    dsimp only [gName]
    refine ⟨_, rfl, .inl ⟨rfl, _, SqL.of hl3⟩, l3, [false, true, false, false, false], rfl, rfl, SqL.of hl3b, rfl, _, rfl, itf (by decide) ?_⟩
    refine ⟨_, rfl, l3, _, _, _, rfl, rfl, SqL.of hl3, (L2.atI_nat (j := 4) rfl), _, rfl, itf rfl ?_⟩
    refine ⟨_, rfl, T.C_InvalidTargets, _, _, true, rfl, rfl, T.xi_InvalidTargets, ⟨dd, _, rfl, hdd3⟩, CG.rel_ty, CG.kit1 T.ki_InvalidTargets_ValueError, _, rfl, itf rfl ?_⟩
    dsimp only [tNext]
    refine ⟨_, rfl, l3, _, _, _, rfl, rfl, SqL.of hl3, (L2.atI_nat (j := 0) rfl), _, rfl, itf rfl ?_⟩
    dsimp only [tNext]
    refine ⟨_, rfl, l3, _, _, _, rfl, rfl, SqL.of hl3, (L2.atI_nat (j := 1) rfl), _, rfl, itt rfl ?_⟩
    refine ⟨_, rfl, rfl, rfl, dd, _, _, rfl, hdd3, rfl, slen rfl, ?_⟩
    (intro r nr; generalize hGr : upd _ r _ = G4; have eG4 := exG hGr nr; have hr := atG hGr; clear hGr)
    exact kq G4 r (ext E3 eG4) hr
  · refine ⟨T.em_InvalidSeat_SeatError, fun a na => ?_⟩
    refine ⟨_, rfl, T.C_InvalidSeat, _, _, false, rfl, rfl, T.xi_InvalidSeat, ⟨dd, _, rfl, hdd⟩, CG.rel_cls, CG.kit1 T.ki_InvalidSeat_InvalidTable, _, rfl, T.C_InvalidSeat, _, _, false, rfl, rfl, T.xi_InvalidSeat, ⟨dd, _, rfl, hdd⟩, CG.rel_cls, CG.kit1 T.ki_InvalidSeat_InvalidTargets, _, rfl, T.C_InvalidSeat, _, _, true, rfl, rfl, T.xi_InvalidSeat, ⟨dd, _, rfl, hdd⟩, CG.rel_cls, kit_self, slen rfl, ?_⟩
    (intro l1 nl1; generalize hGl1 : upd _ l1 _ = G1; have eG1 := exG hGl1 nl1; have hl1 := atG hGl1; clear hGl1)
    dsimp only [gName]
    refine ⟨_, rfl, _, rfl, T.C_InvalidSeat, _, _, false, rfl, rfl, T.xi_InvalidSeat, ⟨dd, _, rfl, eG1 _ _ hdd⟩, CG.rel_cls, CG.kit1 T.ki_InvalidSeat_InvalidWitness, _, rfl, T.C_InvalidSeat, _, _, false, rfl, rfl, T.xi_InvalidSeat, ⟨dd, _, rfl, eG1 _ _ hdd⟩, CG.rel_cls, CG.kit1 T.ki_InvalidSeat_InvalidCall, slen rfl, ?_⟩
    (intro l2 nl2; generalize hGl2 : upd _ l2 _ = G2; have eG2 := exG hGl2 nl2; have hl2 := atG hGl2; clear hGl2)
    refine ⟨l1, l2, _, _, rfl, rfl, SqL.of (eG2 _ _ hl1), SqL.of hl2, by decide, ?_⟩
    (intro l3 nl3; generalize hGl3 : upd _ l3 _ = G3; have eG3 := exG hGl3 nl3; have hl3 := atG hGl3; clear hGl3)
    have hl3b : G3 l3 = some (.lst (([false, false, true, false, false] : List Bool).map V.bl)) := hl3
    have E3 := ext eG1 (ext eG2 eG3)
    have hdd3 := E3 _ _ hdd
    dsimp only [gName]
    refine ⟨_, rfl, .inl ⟨rfl, _, SqL.of hl3⟩, l3, [false, false, true, false, false], rfl, rfl, SqL.of hl3b, rfl, _, rfl, itf (by decide) ?_⟩
    refine ⟨_, rfl, l3, _, _, _, rfl, rfl, SqL.of hl3, (L2.atI_nat (j := 4) rfl), _, rfl, itf rfl ?_⟩
    refine ⟨_, rfl, T.C_InvalidSeat, _, _, true, rfl, rfl, T.xi_InvalidSeat, ⟨dd, _, rfl, hdd3⟩, CG.rel_ty, CG.kit1 T.ki_InvalidSeat_ValueError, _, rfl, itf rfl ?_⟩
    dsimp only [tNext]
    refine ⟨_, rfl, l3, _, _, _, rfl, rfl, SqL.of hl3, (L2.atI_nat (j := 0) rfl), _, rfl, itf rfl ?_⟩
    dsimp only [tNext]
    refine ⟨_, rfl, l3, _, _, _, rfl, rfl, SqL.of hl3, (L2.atI_nat (j := 1) rfl), _, rfl, itf rfl ?_⟩
    dsimp only [tNext]
    refine ⟨_, rfl, l3, _, _, _, rfl, rfl, SqL.of hl3, (L2.atI_nat (j := 2) rfl), _, rfl, itt rfl ?_⟩
    refine ⟨_, rfl, rfl, rfl, dd, _, _, rfl, hdd3, rfl, _, e, rfl, (sh _ E3).de, (sh _ E3).sh, (sh _ E3).len, (sh _ E3).dep, slen rfl, ?_⟩
    (intro r nr; generalize hGr : upd _ r _ = G4; have eG4 := exG hGr nr; have hr := atG hGr; clear hGr)
    exact kq G4 r (ext E3 eG4) hr
  · refine ⟨T.em_InvalidWitness_SeatError, fun a na => ?_⟩
    refine ⟨_, rfl, T.C_InvalidWitness, _, _, false, rfl, rfl, T.xi_InvalidWitness, ⟨dd, _, rfl, hdd⟩, CG.rel_cls, CG.kit1 T.ki_InvalidWitness_InvalidTable, _, rfl, T.C_InvalidWitness, _, _, false, rfl, rfl, T.xi_InvalidWitness, ⟨dd, _, rfl, hdd⟩, CG.rel_cls, CG.kit1 T.ki_InvalidWitness_InvalidTargets, _, rfl, T.C_InvalidWitness, _, _, false, rfl, rfl, T.xi_InvalidWitness, ⟨dd, _, rfl, hdd⟩, CG.rel_cls, CG.kit1 T.ki_InvalidWitness_InvalidSeat, slen rfl, ?_⟩
    (intro l1 nl1; generalize hGl1 : upd _ l1 _ = G1; have eG1 := exG hGl1 nl1; have hl1 := atG hGl1; clear hGl1)
    dsimp only [gName]
    refine ⟨_, rfl, _, rfl, T.C_InvalidWitness, _, _, true, rfl, rfl, T.xi_InvalidWitness, ⟨dd, _, rfl, eG1 _ _ hdd⟩, CG.rel_cls, kit_self, _, rfl, T.C_InvalidWitness, _, _, false, rfl, rfl, T.xi_InvalidWitness, ⟨dd, _, rfl, eG1 _ _ hdd⟩, CG.rel_cls, CG.kit1 T.ki_InvalidWitness_InvalidCall, slen rfl, ?_⟩
    (intro l2 nl2; generalize hGl2 : upd _ l2 _ = G2; have eG2 := exG hGl2 nl2; have hl2 := atG hGl2; clear hGl2)
    refine ⟨l1, l2, _, _, rfl, rfl, SqL.of (eG2 _ _ hl1), SqL.of hl2, by decide, ?_⟩
    (intro l3 nl3; generalize hGl3 : upd _ l3 _ = G3; have eG3 := exG hGl3 nl3; have hl3 := atG hGl3; clear hGl3)
    have hl3b : G3 l3 = some (.lst (([false, false, false, true, false] : List Bool).map V.bl)) := hl3
    have E3 := ext eG1 (ext eG2 eG3)
    have hdd3 := E3 _ _ hdd
    dsimp only [gName]
    refine ⟨_, rfl, .inl ⟨rfl, _, SqL.of hl3⟩, l3, [false, false, false, true, false], rfl, rfl, SqL.of hl3b, rfl, _, rfl, itf (by decide) ?_⟩
    refine ⟨_, rfl, l3, _, _, _, rfl, rfl, SqL.of hl3, (L2.atI_nat (j := 4) rfl), _, rfl, itf rfl ?_⟩
    refine ⟨_, rfl, T.C_InvalidWitness, _, _, true, rfl, rfl, T.xi_InvalidWitness, ⟨dd, _, rfl, hdd3⟩, CG.rel_ty, CG.kit1 T.ki_InvalidWitness_ValueError, _, rfl, itf rfl ?_⟩
    dsimp only [tNext]
    refine ⟨_, rfl, l3, _, _, _, rfl, rfl, SqL.of hl3, (L2.atI_nat (j := 0) rfl), _, rfl, itf rfl ?_⟩
    dsimp only [tNext]
    refine ⟨_, rfl, l3, _, _, _, rfl, rfl, SqL.of hl3, (L2.atI_nat (j := 1) rfl), _, rfl, itf rfl ?_⟩
    dsimp only [tNext]
    refine ⟨_, rfl, l3, _, _, _, rfl, rfl, SqL.of hl3, (L2.atI_nat (j := 2) rfl), _, rfl, itf rfl ?_⟩
    refine ⟨_, rfl, rfl, rfl, dd, _, _, rfl, hdd3, rfl, slen rfl, ?_⟩
    (intro r nr; generalize hGr : upd _ r _ = G4; have eG4 := exG hGr nr; have hr := atG hGr; clear hGr)
    exact kq G4 r (ext E3 eG4) hr
end

/-! ### data that repr shows, empty dicts among them -/
structure Sx (n c : Nat) (d : PyData) : Prop where
  sh : d.showable = true
  len : d.shown.length ≤ c
  dep : d.depth ≤ n
theorem Sx.up {n m c e : Nat} {d : PyData} (h : Sx n c d) (a : n ≤ m) (b : c ≤ e) : Sx m e d := ⟨h.sh, Nat.le_trans h.len b, Nat.le_trans h.dep a⟩
theorem sx_int {i : Int} (h : i.natAbs < 2 ^ 300) : Sx 0 2000 (.int i) := by
  have hl : i.natAbs.log2 < 1920 := by
    by_cases z : i.natAbs = 0
    · rw [z]
      decide
    · exact (Nat.log2_lt z).mpr (Nat.lt_of_lt_of_le h (Nat.pow_le_pow_right (by decide) (by decide)))
  exact ⟨decide_eq_true hl, Nat.le_trans (int_text_len_1921 hl) (by decide), by simp only [PyData.depth]; omega⟩
theorem sx_none : Sx 0 2000 .none := ⟨rfl, by decide +kernel, by decide⟩
theorem sx_bool (b : Bool) : Sx 0 2000 (.bool b) := ⟨rfl, by cases b <;> decide +kernel, by simp only [PyData.depth]; omega⟩
theorem sx_one : Sx 0 2000 (.str "1") := ⟨rfl, by rw [PyData.shown_str]; decide +kernel, by simp only [PyData.depth]; omega⟩
theorem sx_emp : Sx 1 2000 (.dict []) := ⟨rfl, by simp only [PyData.shown, PyData.shownKv]; decide +kernel, by simp only [PyData.depth, PyData.depthKv]; omega⟩
theorem sx_all {n c : Nat} : ∀ {ds : List PyData}, (∀ d ∈ ds, Sx n c d) → PyData.showableAll ds = true ∧ PyData.depthAll ds ≤ n ∧ ((PyData.shownAll ds).map (·.length)).sum ≤ ds.length * c ∧ (PyData.shownAll ds).length = ds.length
  | [], _ => ⟨rfl, by simp only [PyData.depthAll]; omega, by simp [PyData.shownAll], rfl⟩
  | d :: ds, h => by
    obtain ⟨a, e, b⟩ := h d List.mem_cons_self
    obtain ⟨a2, b2, e2, l2⟩ := sx_all fun x hx => h x (List.mem_cons_of_mem _ hx)
    refine ⟨by simp only [PyData.showableAll, a, a2, Bool.and_true], by simp only [PyData.depthAll]; omega, ?_, by simp only [PyData.shownAll, List.length_cons, l2]⟩
    simp only [PyData.shownAll, List.map_cons, List.sum_cons, List.length_cons, Nat.succ_mul]
    omega
theorem sx_tuple {n c : Nat} {ds : List PyData} (h : ∀ d ∈ ds, Sx n c d) : Sx (n + 1) (ds.length * (c + 2) + 3) (.tuple ds) := by
  obtain ⟨a, b, e, l⟩ := sx_all h
  refine ⟨by simpa only [PyData.showable] using a, ?_, by simp only [PyData.depth]; omega⟩
  have := tupleText_len_le (PyData.shownAll ds)
  simp only [PyData.shown, Nat.mul_add] at *
  omega
theorem sx_list {n c : Nat} {ds : List PyData} (h : ∀ d ∈ ds, Sx n c d) : Sx (n + 1) (ds.length * (c + 2) + 3) (.list ds) := by
  obtain ⟨a, b, e, l⟩ := sx_all h
  refine ⟨by simpa only [PyData.showable] using a, ?_, by simp only [PyData.depth]; omega⟩
  have := listText_len_le (PyData.shownAll ds)
  simp only [PyData.shown, Nat.mul_add] at *
  omega
theorem big300 {i : Int} (h : i.natAbs ≤ 10 ^ 62) : i.natAbs < 2 ^ 300 := Nat.lt_of_le_of_lt h (by decide)
/-- a part of a witness -/
structure Pd (d : PyData) : Prop where
  sx : Sx 3 9000 d
  tb : ∀ es, tupD d = some es → es.length ≤ 1000
  bm : ∀ m, intD d = some m → m.natAbs < 2 ^ 5000
theorem pd_int {i : Int} (h : i.natAbs ≤ 10 ^ 62) : Pd (.int i) := ⟨(sx_int (big300 h)).up (by decide) (by decide), (fun _ e => by cases e), fun m e => by cases e; exact Nat.lt_of_lt_of_le (big300 h) (Nat.pow_le_pow_right (by decide) (by decide))⟩
theorem pd_tuple {ds : List PyData} (l : ds.length ≤ 4) (h : ∀ d ∈ ds, Sx 2 2100 d) : Pd (.tuple ds) := ⟨(sx_tuple h).up (by decide) (by have := Nat.mul_le_mul_right 2102 l; omega), (fun _ e => by cases e; omega), (fun _ e => by cases e)⟩
theorem pd_list {ds : List PyData} (l : ds.length ≤ 4) (h : ∀ d ∈ ds, Sx 2 2100 d) : Pd (.list ds) := ⟨(sx_list h).up (by decide) (by have := Nat.mul_le_mul_right 2102 l; omega), (fun _ e => by cases e), (fun _ e => by cases e)⟩
theorem pd_sx {d : PyData} (h : Sx 2 2100 d) (t : tupD d = none) (i : intD d = none) : Pd d := ⟨h.up (by decide) (by decide), (fun _ e => by rw [t] at e; cases e), (fun _ e => by rw [i] at e; cases e)⟩
theorem sx_i {i : Int} (h : i.natAbs ≤ 10 ^ 62) : Sx 2 2100 (.int i) := (sx_int (big300 h)).up (by decide) (by decide)
/-- a witness or what is handed for one -/
structure Good11 (d : PyData) : Prop where
  sx : Sx 4 30000 d
  tb : ∀ ds, d = .tuple ds → ∀ e ∈ ds, ∀ es, tupD e = some es → es.length ≤ 1000
  bm : ∀ dm dw dr m, d = .tuple [dm, dw, dr] → intD dm = some m → m.natAbs < 2 ^ 5000
theorem good11_tuple {ds : List PyData} (l : ds.length ≤ 3) (h : ∀ d ∈ ds, Pd d) : Good11 (.tuple ds) := by
  refine ⟨(sx_tuple (c := 9000) fun d hd => (h d hd).sx).up (by decide) (by have := Nat.mul_le_mul_right 9002 l; omega), fun es e d hd => ?_, fun dm dw dr m e hm => ?_⟩
  · cases e
    exact (h d hd).tb
  · cases e
    exact (h dm List.mem_cons_self).bm m hm
theorem good11_list {ds : List PyData} (l : ds.length ≤ 3) (h : ∀ d ∈ ds, Pd d) : Good11 (.list ds) :=
  ⟨(sx_list (c := 9000) fun d hd => (h d hd).sx).up (by decide) (by have := Nat.mul_le_mul_right 9002 l; omega), (fun _ e => by cases e), (fun _ _ _ _ e => by cases e)⟩
theorem good11_any {d : PyData} (h : Sx 2 2100 d) (t : ∀ ds, d ≠ .tuple ds) : Good11 d := ⟨h.up (by decide) (by decide), fun ds e => absurd e (t ds), fun _ _ _ _ e => absurd e (t _)⟩
theorem DqAll.app {B : Addr → Prop} {H : Hp} : ∀ {xs ys : List V} {ds es : List PyData}, DqAll B H xs ds → DqAll B H ys es → DqAll B H (xs ++ ys) (ds ++ es)
  | _, _, _, _, .nil, h => h
  | _, _, _, _, .cons q t, h => .cons q (DqAll.app t h)
theorem cat_tup {K : PySem.W.Frag} {H : Hp} {Q : VK} {a b : Addr} {xs ys : List V} (ha : H a = some (.tup xs)) (hb : H b = some (.tup ys)) (l : xs.length + ys.length ≤ 2000) (h : ∀ v H5, Ex H H5 → H5 v = some (.tup (xs ++ ys)) → Q (.ref v) H5) : rCatA K (.ref a) (.ref b) H Q := by
  refine ⟨a, b, _, _, rfl, rfl, SqT.of ha, SqT.of hb, Nat.le_trans l (by decide), fun e => ?_, fun _ e => ?_, fun _ _ p hp => ?_⟩
  · refine h b H exr ?_
    rw [e]
    exact hb
  · refine h a H exr ?_
    rw [e, List.append_nil]
    exact ha
  · exact h p _ (exn hp) upd_same
theorem sl_ints {K : PySem.W.Frag} {H : Hp} {Q : VK} {a : Addr} {xs : List V} {lo hi : Option Int} (ha : H a = some (.tup xs)) (h : ∀ v H5, Ex H H5 → H5 v = some (.tup (cutV xs lo hi)) → Q (.ref v) H5) : rSlA K (.ref a) lo hi H Q :=
  ⟨a, _, rfl, SqT.of ha, fun hw => h a H exr (by rw [cut_whole hw]; exact ha), fun _ p hp => h p _ (exn hp) upd_same⟩

theorem Dq.xb {s : Addr} {H H2 : Hp} {v : V} {d : PyData} (src : Src H s) (x : XB s H H2) (q : Dq (· ≠ s) H v d) : Dq (· ≠ s) H2 v d := q.to (fun a xs b h => ⟨x _ _ b h, b⟩) (fun a xs h => tup_xb src h x) (fun a h => x _ _ (fun z => by
  obtain ⟨_, _, _, e⟩ := src
  rw [z, e] at h
  cases h) h)
theorem DqAll.xb {s : Addr} {H H2 : Hp} {vs : List V} {ds : List PyData} (src : Src H s) (x : XB s H H2) (q : DqAll (· ≠ s) H vs ds) : DqAll (· ≠ s) H2 vs ds := q.to (fun a xs b h => ⟨x _ _ b h, b⟩) (fun a xs h => tup_xb src h x) (fun a h => x _ _ (fun z => by
  obtain ⟨_, _, _, e⟩ := src
  rw [z, e] at h
  cases h) h)
theorem atI_nn {α : Type} {xs : List α} {k : Nat} {v : α} (h : xs[k]? = some v) : atI xs (k : Int) = some v := by
  unfold atI
  rw [Evl.ixN_nat (List.getElem?_eq_some_iff.mp h).1]
  exact h
theorem DqAll.at {B : Addr → Prop} {H : Hp} {xs : List V} {ds : List PyData} {r : Int} (h : DqAll B H xs ds) (r0 : 0 ≤ r) (r1 : r < xs.length) : ∃ (k : Nat) (v : V) (d : PyData), r = (k : Int) ∧ xs[k]? = some v ∧ atI xs r = some v ∧ ds[k]? = some d ∧ d ∈ ds ∧ Dq B H v d := by
  obtain ⟨k, rfl⟩ := Int.eq_ofNat_of_zero_le r0
  have hk : k < xs.length := by omega
  have hv := List.getElem?_eq_getElem hk
  obtain ⟨d, hd, q⟩ := h.get hv
  exact ⟨k, _, d, rfl, hv, atI_nn hv, hd, List.mem_of_getElem? hd, q⟩
theorem NoSeq.xb {s : Addr} {H H2 : Hp} {v : V} (src : Src H s) (x : XB s H H2) (h : NoSeq H v) : NoSeq H2 v := h.to (fun a kvs e => x _ _ (fun z => by
  obtain ⟨_, _, _, q⟩ := src
  rw [z, q] at e
  cases e) e) (fun a kvs e => x _ _ (fun z => by
  obtain ⟨_, _, _, q⟩ := src
  rw [z, q] at e
  cases e) e)
/-- targets with the index of their fault -/
structure BadG (s : Addr) (ns : List Int) (H : Hp) (x : V) (i : Int) (od : Option (List PyData)) : Prop where
  here : match od with
    | none => NoSeq H x
    | some ds => ∃ (q : Bool × Addr) (xs : List V), x = .ref q.2 ∧ (q.1 = false → q.2 ≠ s) ∧ SqH H q xs ∧ DqAll (· ≠ s) H xs ds
  bd : ∀ ds, od = some ds → ds.length ≤ 1000 ∧ ∀ d ∈ ds, ShortT d
  due : tgtDue ns od = some i
theorem BadG.tgt {K : PySem.W.Frag} {s : Addr} {ns : List Int} {H : Hp} {x : V} {i : Int} {od : Option (List PyData)} (h : BadG s ns H x i od) : TgtAt K (· ≠ s) H x od := by
  cases od with
  | none => exact h.here
  | some ds =>
    obtain ⟨q, xs, e, _, a, b⟩ := h.here
    exact ⟨q, xs, e, a, b⟩
theorem BadG.mono {s : Addr} {ns : List Int} {H H2 : Hp} {x : V} {i : Int} {od : Option (List PyData)} (e : Ex H H2) (h : BadG s ns H x i od) : BadG s ns H2 x i od := by
  refine ⟨?_, h.bd, h.due⟩
  have g := h.here
  cases od with
  | none => exact NoSeq.to (fun a kvs z => e _ _ z) (fun a kvs z => e _ _ z) g
  | some ds =>
    obtain ⟨q, xs, rfl, n, a, b⟩ := g
    exact ⟨q, xs, rfl, n, a.mono e, b.mono e⟩
theorem BadG.xb {s : Addr} {ns : List Int} {H H2 : Hp} {x : V} {i : Int} {od : Option (List PyData)} (src : Src H s) (xb : XB s H H2) (h : BadG s ns H x i od) : BadG s ns H2 x i od := by
  refine ⟨?_, h.bd, h.due⟩
  have g := h.here
  cases od with
  | none => exact NoSeq.xb src xb g
  | some ds =>
    obtain ⟨q, xs, rfl, n, a, b⟩ := g
    refine ⟨q, xs, rfl, n, ?_, b.xb src xb⟩
    obtain ⟨b2, q⟩ := q
    cases b2
    · exact xb _ _ (n rfl) a
    · exact tup_xb src (show H q = some (.tup xs) from a) xb
/-- the pair of both -/
def PairG (s : Addr) (ns : List Int) (H : Hp) (v : V) : Prop := ∃ (r : Addr) (x : V) (i : Int) (od : Option (List PyData)), v = .ref r ∧ r ≠ s ∧ H r = some (.lst [x, .int i]) ∧ BadG s ns H x i od
theorem PairG.mono {s : Addr} {ns : List Int} {H H2 : Hp} {v : V} (e : Ex H H2) (h : PairG s ns H v) : PairG s ns H2 v := by
  obtain ⟨r, x, i, od, rfl, n, h1, h2⟩ := h
  exact ⟨r, x, i, od, rfl, n, e _ _ h1, h2.mono e⟩
theorem PairG.xb {s : Addr} {ns : List Int} {H H2 : Hp} {v : V} (src : Src H s) (xb : XB s H H2) (h : PairG s ns H v) : PairG s ns H2 v := by
  obtain ⟨r, x, i, od, rfl, n, h1, h2⟩ := h
  exact ⟨r, x, i, od, rfl, n, xb _ _ n h1, h2.xb src xb⟩
theorem badg_no {s : Addr} {ns : List Int} {H : Hp} {x : V} (h : NoSeq H x) : BadG s ns H x (-1) none := ⟨h, (fun ds e => by cases e), rfl⟩
theorem badg_nil {s : Addr} {ns : List Int} {H : Hp} {q : Bool × Addr} (n : q.1 = false → q.2 ≠ s) (h : SqH H q []) : BadG s ns H (.ref q.2) (-1) (some []) := ⟨⟨q, [], rfl, n, h, .nil⟩, (fun ds e => by cases e; exact ⟨Nat.zero_le _, fun d hd => nomatch hd⟩), rfl⟩
theorem badg_go {s : Addr} {ns : List Int} {H : Hp} {q : Bool × Addr} {xs : List V} {ds : List PyData} {i : Int} (n : q.1 = false → q.2 ≠ s) (h : SqH H q xs) (a : DqAll (· ≠ s) H xs ds) (l : ds.length ≤ 1000) (sh : ∀ d ∈ ds, ShortT d) (ne : ds ≠ []) (g : goT ns ds [] = some i) : BadG s ns H (.ref q.2) i (some ds) :=
  ⟨⟨q, xs, rfl, n, h, a⟩, (fun es e => by cases e; exact ⟨l, sh⟩), (if_neg ne).trans g⟩
theorem go_bad {ns : List Int} {d : PyData} {ds : List PyData} (h : isSeatO ns (oT d) = false) : goT ns (d :: ds) [] = some 0 := by
  show (if isSeatO ns (oT d) = true ∧ intsD d ∉ [] then _ else _) = _
  rw [if_neg (fun z => by rw [h] at z; cases z.1)]
  rfl
theorem oT_ints (ps : List Int) : oT (iT ps) = some (ps.map some) := by
  show some ((ps.map PyData.int).map intD) = _
  rw [List.map_map]
  rfl
theorem go_good {ns p : List Int} {d : PyData} {ds : List PyData} (sp : SeatOk ns p) (h : isSeatO ns (oT d) = false ∨ d = iT p) : goT ns (iT p :: d :: ds) [] = some 1 := by
  have is : isSeatO ns (oT (iT p)) = true := by rw [oT_ints]; exact isSeat_ok sp
  show (if isSeatO ns (oT (iT p)) = true ∧ intsD (iT p) ∉ [] then goT ns (d :: ds) ([] ++ [intsD (iT p)]) else _) = _
  rw [if_pos ⟨is, by simp⟩, intsD_is]
  show (if isSeatO ns (oT d) = true ∧ intsD d ∉ [] ++ [p] then _ else _) = _
  rw [if_neg]
  · rfl
  · rintro ⟨a, b⟩
    rcases h with h | rfl
    · rw [h] at a
      cases a
    · exact b (by rw [intsD_is]; simp)
theorem not_seat_len {ns : List Int} {ds : List PyData} (h : ds.length ≠ ns.length) : isSeatO ns (oT (.tuple ds)) = false := by
  show (decide ((ds.map intD).length = ns.length) && _) = false
  rw [List.length_map, decide_eq_false h, Bool.false_and]
theorem it_inj {a b : List Int} (h : iT a = iT b) : a = b := by
  injection h with h
  have := congrArg (List.filterMap intD) h
  rwa [fm_ints, fm_ints] at this
theorem not_seat_odd {ns : List Int} {ds : List PyData} {e : PyData} (he : e ∈ ds) (n : intD e = none) : isSeatO ns (oT (.tuple ds)) = false := by
  cases h : isSeatO ns (oT (.tuple ds)) with
  | false => rfl
  | true =>
    obtain ⟨ps, e1, _⟩ := seat_ints h
    injection e1 with e1
    rw [e1] at he
    obtain ⟨i, _, rfl⟩ := List.mem_map.mp he
    cases n
theorem not_seat_sizes {ns : List Int} (ne : ns ≠ []) : isSeatO ns (oT (iT ns)) = false := by
  cases h : isSeatO ns (oT (iT ns)) with
  | false => rfl
  | true =>
    obtain ⟨ps, e1, sp⟩ := seat_ints h
    obtain rfl := it_inj e1
    cases ns with
    | nil => exact absurd rfl ne
    | cons n r =>
      have := sp.1.2
      omega
theorem last_seat : ∀ {ns : List Int}, (∀ n ∈ ns, 1 ≤ n) → SeatOk ns (ns.map fun n => n - 1)
  | [], _ => True.intro
  | n :: ns, o => ⟨⟨by have := o n List.mem_cons_self; show 0 ≤ n - 1; omega, by show n - 1 < n; omega⟩, last_seat fun m hm => o m (List.mem_cons_of_mem _ hm)⟩
theorem short_tup {ds : List PyData} (l : ds.length ≤ 1000) : ShortT (.tuple ds) := fun es e => by cases e; exact l
theorem short_no {d : PyData} (h : tupD d = none) : ShortT d := fun es e => by rw [h] at e; cases e

section
variable {P : Program} {w : World} {K : PySem.W.Frag} {mg : Str → Option Value} {base : Heap}
def sp_law_bad_goals : Sp := fun vs H Q _ => ∃ (s l : Addr) (ns : List Int), vs = [.ref s, .ref l] ∧ Src H s ∧ H l = some (.lst (ns.map V.int)) ∧ l ≠ s ∧ SzOk ns ∧
  ∀ v H2, PairG s ns H2 v → XB s H H2 → Src H2 s → Q v H2
theorem ok_law_bad_goals (T : TX K mg) : FnOk P w K mg base CX0 3 T.f_law_bad_goals T.fd_law_bad_goals ["_law_source_here", "_law_sizes"] sp_law_bad_goals := by
  refine T.F_law_bad_goals.ok sc_law_bad_goals (fun vs H Q E h => ?_) (fun cdv A outer s H vs Q E hr h => ?_)
  · obtain ⟨s, l, ns, rfl, _⟩ := h
    rfl
  · obtain ⟨s, l, ns, rfl, src, hl, nls, ok, k⟩ := h
    refine ⟨_, (pss_cons (ps_par (i := 2) (j := 3) rfl sc_law_bad_goals.nd rfl rfl (by decide) rfl rfl (pa_cons (pe_op (r := rRepA K) op_repA (pe_tup (pa_cons pe_int pa_nil)) (pe_callB call_len_seq (by rfl) T.z_len (by decide +kernel) (pa_cons (pv 1) pa_nil))) (pa_cons (pe_callTy call_tuple_of (by rfl) T.z_tuple (by decide +kernel) (pa_cons (pe_lc (own := [("_law_size", 8)]) (g := (gName 8)) rfl sc_law_bad_goals.nd (pi_list (pv 1)) (blkOk_by (N := N_law_bad_goals) (sc := defScope s_law_bad_goals) (by decide +kernel)) (fun _ _ _ _ _ => (pg_name (i := 8) sc_law_bad_goals.nd rfl (Or.inl rfl))) (fun _ _ _ _ _ => pts_nil) (fun _ _ _ _ _ => (pe_op op_sub (pv 8) pe_int))) pa_nil)) pa_nil)) (by rfl)) (pss_cons (ps_set (i := 4) sc_law_bad_goals.nd rfl (Or.inl rfl) (pe_lst (pa_cons (pe_lst (pa_cons pe_non (pa_cons (pe_un un_neg pe_int) pa_nil))) (pa_cons (pe_lst (pa_cons pe_dnewK (pa_cons (pe_un un_neg pe_int) pa_nil))) (pa_cons (pe_lst (pa_cons pe_str (pa_cons (pe_un un_neg pe_int) pa_nil))) (pa_cons (pe_lst (pa_cons (pe_lst pa_nil) (pa_cons (pe_un un_neg pe_int) pa_nil))) (pa_cons (pe_lst (pa_cons (pe_tup pa_nil) (pa_cons (pe_un un_neg pe_int) pa_nil))) (pa_cons (pe_lst (pa_cons pe_int (pa_cons (pe_un un_neg pe_int) pa_nil))) (pa_cons (pe_lst (pa_cons (CG.pe_dispT1 (u65 hr) (pv 2) pe_int) (pa_cons (pe_un un_neg pe_int) pa_nil))) pa_nil))))))))) (pss_cons (ps_set (i := 5) sc_law_bad_goals.nd rfl (Or.inl rfl) (pe_lst (pa_cons pe_non (pa_cons pe_int (pa_cons (pe_callTy call_list_of (by rfl) T.z_list (by decide +kernel) (pa_cons (pv 2) pa_nil)) (pa_cons (pe_op (r := rCatA K) op_catA (pv 2) (pe_tup (pa_cons pe_int pa_nil))) (pa_cons (pe_tup pa_nil) (pa_cons (pe_callTy call_tuple_of (by rfl) T.z_tuple (by decide +kernel) (pa_cons (pv 1) pa_nil)) (pa_cons (pe_op (r := rCatA K) op_catA (pe_slice sl_tupA (pv 2) (po_some pe_int) po_none) (pe_tup (pa_cons pe_bl pa_nil))) (pa_cons (pe_op (r := rCatA K) op_catA (pe_slice sl_tupA (pv 2) (po_some pe_int) po_none) (pe_tup (pa_cons (pe_lst (pa_cons pe_int pa_nil)) pa_nil))) (pa_cons pe_str (pa_cons pe_dnewK pa_nil)))))))))))) (pss_cons (ps_set (i := 6) sc_law_bad_goals.nd rfl (Or.inl rfl) (pe_ix ix_list (pv 5) (pe_call (ok_law_take T) hr rfl T.m_law_take T.F_law_take.kp T.b_law_take .nil pass0 (pa_cons (pv 0) (pa_cons pe_int pa_nil))) (fun _ _ => rfl))) (pss_cons (ps_set (i := 7) sc_law_bad_goals.nd rfl (Or.inl rfl) (pe_lst (pa_cons (pe_lst (pa_cons (pe_lst (pa_cons (pv 6) pa_nil)) (pa_cons pe_int pa_nil))) (pa_cons (pe_lst (pa_cons (pe_lst (pa_cons (pv 3) (pa_cons (pv 6) (pa_cons (pv 6) pa_nil)))) (pa_cons pe_int pa_nil))) (pa_cons (pe_lst (pa_cons (pe_tup (pa_cons (pv 3) (pa_cons (pv 3) pa_nil))) (pa_cons pe_int pa_nil))) (pa_cons (pe_lst (pa_cons (pe_lst (pa_cons (pv 3) (pa_cons (pv 6) pa_nil))) (pa_cons pe_int pa_nil))) (pa_cons (pe_lst (pa_cons (pe_lst (pa_cons (pv 6) (pa_cons (pv 3) pa_nil))) (pa_cons pe_int pa_nil))) pa_nil))))))) (pss_one (ps_ret (pe_ix ix_list (pe_op (r := rCatR K) op_catR (pv 4) (pe_op op_rep (pv 7) pe_int)) (pe_call (ok_law_take T) hr rfl T.m_law_take T.F_law_take.kp T.b_law_take .nil pass0 (pa_cons (pv 0) (pa_cons pe_int pa_nil))) (fun _ _ => rfl))))))))), ?_⟩
    have l4 := ok.le
    have lp : 1 ≤ ns.length := by
      have := List.length_pos_iff.mpr ok.pos
      omega
    refine ⟨slen rfl, ?_⟩
    (intro z1 nz1; generalize hGz1 : upd _ z1 _ = H1; have eH1 := exG hGz1 nz1; have hz1 := atG hGz1; clear hGz1)
    refine ⟨_, rfl, l, _, rfl, .inl (SqL.of (eH1 _ _ hl)), rep_ints hz1 (by rw [List.length_map]; omega) (by rw [List.length_map]; omega) fun z H2 e2 hz => ?_⟩
    rw [List.length_map, show ((ns.length : Nat) : Int).toNat = ns.length from rfl] at hz
    have E2 := ext eH1 e2
    refine ⟨_, rfl, l, rfl, ⟨_, SqL.of (E2 _ _ hl)⟩, fun D hD => ?_⟩
    refine lc_vals (walk_list (xs := ns.map V.int)) ((ns.map fun n => n - 1).map V.int) (by rw [List.length_map, List.length_map, List.length_map]) (by rw [List.length_map]; omega) hD (fun Hx e => SqL.of ((ext E2 e) _ _ hl)) ?_ gmono_name ?_
    · rintro i x Ha Hb R hi e ⟨rfl, hx⟩ kk
      obtain ⟨m, hm, rfl⟩ := map_get hx
      refine ⟨rfl, _, rfl, _, _, rfl, rfl, kk _ _ exr ?_⟩
      rw [List.getElem?_map, List.getElem?_map, hm]
      rfl
    intro HD eD hDD
    refine ⟨D, _, rfl, .inl ⟨SqL.of hDD, ?_⟩⟩
    (intro la nla; generalize hGla : upd _ la _ = H3; have eH3 := exG hGla nla; have hla := atG hGla; clear hGla)
    refine ⟨_, _, rfl, ?_⟩
    have E3 := ext E2 (ext eD eH3)
    have hz3 := (ext eD eH3) _ _ hz
    have hl3 := E3 _ _ hl
    clear hDD hD eD eH3 hz hz1 eH1 e2 E2
    show tSeq _ _ _ [_, _, _, _, _, _, _, _, _] _
    refine ⟨_, rfl, slen rfl, ?_⟩
    (intro w1 nw1; generalize hGw1 : upd _ w1 _ = G1; have eG1 := exG hGw1 nw1; have hw1 := atG hGw1; clear hGw1)
    have e1 := eG1
    refine fun d1 nd1 => ?_
    generalize hG : upd G1 d1 _ = G2
    have eG2 := exG hG nd1
    have hd1 := atG hG
    clear hG
    refine ⟨_, rfl, slen rfl, ?_⟩
    (intro w2 nw2; generalize hGw2 : upd _ w2 _ = G3; have eG3 := exG hGw2 nw2; have hw2 := atG hGw2; clear hGw2)
    refine ⟨_, rfl, slen rfl, ?_⟩
    (intro w3 nw3; generalize hGw3 : upd _ w3 _ = G4; have eG4 := exG hGw3 nw3; have hw3 := atG hGw3; clear hGw3)
    refine ⟨slen rfl, ?_⟩
    (intro x4 nx4; generalize hGx4 : upd _ x4 _ = G5; have eG5 := exG hGx4 nx4; have hx4 := atG hGx4; clear hGx4)
    refine ⟨_, rfl, slen rfl, ?_⟩
    (intro w4 nw4; generalize hGw4 : upd _ w4 _ = G6; have eG6 := exG hGw4 nw4; have hw4 := atG hGw4; clear hGw4)
    refine ⟨slen rfl, ?_⟩
    (intro x5 nx5; generalize hGx5 : upd _ x5 _ = G7; have eG7 := exG hGx5 nx5; have hx5 := atG hGx5; clear hGx5)
    refine ⟨_, rfl, slen rfl, ?_⟩
    (intro w5 nw5; generalize hGw5 : upd _ w5 _ = G8; have eG8 := exG hGw5 nw5; have hw5 := atG hGw5; clear hGw5)
    refine ⟨_, rfl, slen rfl, ?_⟩
    (intro w6 nw6; generalize hGw6 : upd _ w6 _ = G9; have eG9 := exG hGw6 nw6; have hw6 := atG hGw6; clear hGw6)
    refine fun d7 nd7 => ?_
    have nz : z ≠ d7 := fun q => by
      have z0 := (ext eG1 (ext eG2 (ext eG3 (ext eG4 (ext eG5 (ext eG6 (ext eG7 (ext eG8 eG9)))))))) _ _ hz3
      rw [q, nd7] at z0
      cases z0
    refine ⟨_, rfl, upd_same, kI (List.replicate ns.length 0), z, rfl, ?_, ?_⟩
    · rw [kI_map, upd_ne nz]
      exact (ext eG1 (ext eG2 (ext eG3 (ext eG4 (ext eG5 (ext eG6 (ext eG7 (ext eG8 eG9)))))))) _ _ hz3
    generalize hG : upd (upd G9 d7 (.dT [])) d7 _ = GA
    have eGA : Ex G9 GA := fun c o q => by
      rw [← hG, upd_ne (ne_of_none q nd7), upd_ne (ne_of_none q nd7)]
      exact q
    have hd7 := atG hG
    clear hG
    refine ⟨_, rfl, slen rfl, ?_⟩
    (intro w7 nw7; generalize hGw7 : upd _ w7 _ = GB; have eGB := exG hGw7 nw7; have hw7 := atG hGw7; clear hGw7)
    refine ⟨slen rfl, ?_⟩
    (intro wl nwl; generalize hGwl : upd _ wl _ = GC; have eGC := exG hGwl nwl; have hwl := atG hGwl; clear hGwl)
    have s1 := src.mono E3
    have t2 := ext eG1 eG2
    have t3 := ext t2 eG3
    have t4 := ext t3 eG4
    have t5 := ext t4 eG5
    have t6 := ext t5 eG6
    have t7 := ext t6 eG7
    have t8 := ext t7 eG8
    have t9 := ext t8 eG9
    have tA := ext t9 eGA
    have tB := ext tA eGB
    have tC := ext tB eGC
    have uB := ext eGB eGC
    have uA := ext eGA uB
    have u9 := ext eG9 uA
    have u8 := ext eG8 u9
    have u7 := ext eG7 u8
    have u6 := ext eG6 u7
    have u5 := ext eG5 u6
    have u4 := ext eG4 u5
    have u3 := ext eG3 u4
    have sC := s1.mono tC
    have nw1 := s1.ne nw1
    have nw2 := (s1.mono t2).ne nw2
    have nw3 := (s1.mono t3).ne nw3
    have nx4 := (s1.mono t4).ne nx4
    have nw4 := (s1.mono t5).ne nw4
    have nw5 := (s1.mono t7).ne nw5
    have nw6 := (s1.mono t8).ne nw6
    have nw7 := (s1.mono tA).ne nw7
    have nwl := (s1.mono tB).ne nwl
    have pw : ∀ v ∈ [V.ref w1, .ref w2, .ref w3, .ref w4, .ref w5, .ref w6, .ref w7], PairG s ns GC v := fun v hv => by
      simp only [List.mem_cons, List.not_mem_nil, or_false] at hv
      rcases hv with rfl | rfl | rfl | rfl | rfl | rfl | rfl
      · exact ⟨_, _, _, _, rfl, nw1, (ext eG2 u3) _ _ hw1, badg_no (.inl rfl)⟩
      · exact ⟨_, _, _, _, rfl, nw2, u4 _ _ hw2, badg_no (.inr (.inr (.inr (.inr ⟨_, rfl, .inl ⟨_, u3 _ _ hd1⟩⟩))))⟩
      · exact ⟨_, _, _, _, rfl, nw3, u5 _ _ hw3, badg_no (.inr (.inr (.inr (.inl ⟨_, rfl⟩))))⟩
      · exact ⟨_, _, _, _, rfl, nw4, u7 _ _ hw4, badg_nil (q := (false, x4)) (fun _ => nx4) (u6 _ _ hx4)⟩
      · exact ⟨_, _, _, _, rfl, nw5, u9 _ _ hw5, badg_nil (q := (true, x5)) (fun z => nomatch z) (u8 _ _ hx5)⟩
      · exact ⟨_, _, _, _, rfl, nw6, uA _ _ hw6, badg_no (.inr (.inr (.inl ⟨_, rfl⟩)))⟩
      · exact ⟨_, _, _, _, rfl, nw7, eGC _ _ hw7, badg_no (.inr (.inr (.inr (.inr ⟨_, rfl, .inr ⟨_, uB _ _ hd7⟩⟩))))⟩
    have lpw : ([V.ref w1, .ref w2, .ref w3, .ref w4, .ref w5, .ref w6, .ref w7]).length = 7 := rfl
    generalize [V.ref w1, .ref w2, .ref w3, .ref w4, .ref w5, .ref w6, .ref w7] = pwl at pw lpw hwl
    have hzC := tC _ _ hz3
    have hlaC := (ext tC exr) _ _ hla
    have hlC := tC _ _ hl3
    have XC := XB.of (s := s) (ext E3 tC)
    clear hw1 hw2 hw3 hw4 hw5 hw6 hw7 hx4 hx5 hd1 hd7 t2 t3 t4 t5 t6 t7 t8 t9 tA tB tC uB uA u9 u8 u7 u6 u5 u4 u3 eG1 eG2 eG3 eG4 eG5 eG6 eG7 eG8 eG9 eGA eGB eGC e1 hz3 hla hl3 E3 hl
    dsimp only [gName]
    show tSeq _ _ _ [_, _, _, _, _, _, _, _, _] _
    have lz : ((List.replicate ns.length (0 : Int)).map V.int).length = ns.length := by rw [List.length_map, List.length_replicate]
    refine ⟨_, rfl, z, _, rfl, .inr (SqT.of hzC), ?_⟩
    (intro o3 no3; generalize hGo3 : upd _ o3 _ = G1; have eG1 := exG hGo3 no3; have ho3 := atG hGo3; clear hGo3)
    refine ⟨_, rfl, slen rfl, ?_⟩
    (intro y4 ny4; generalize hGy4 : upd _ y4 _ = G2; have eG2 := exG hGy4 ny4; have hy4 := atG hGy4; clear hGy4)
    have t2 := ext eG1 eG2
    refine cat_tup (t2 _ _ hzC) hy4 (by rw [lz]; simp; omega) fun o4 G3 e3 ho4 => ⟨slen rfl, ?_⟩
    (intro o5 no5; generalize hGo5 : upd _ o5 _ = G4; have eG4 := exG hGo5 no5; have ho5 := atG hGo5; clear hGo5)
    have t4 := ext t2 (ext e3 eG4)
    refine ⟨_, rfl, l, _, rfl, .inl ⟨SqL.of (t4 _ _ hlC), ?_⟩⟩
    (intro o6 no6; generalize hGo6 : upd _ o6 _ = G5; have eG5 := exG hGo6 no6; have ho6 := atG hGo6; clear hGo6)
    have t5 := ext t4 eG5
    refine ⟨_, rfl, _, rfl, ?_⟩
    unfold tNoPart
    refine sl_ints (t5 _ _ hzC) fun y7 G6 e6 hy7 => ⟨slen rfl, ?_⟩
    rw [show cutV ((List.replicate ns.length (0 : Int)).map V.int) (some 1) none = ((List.replicate ns.length (0 : Int)).map V.int).drop 1 from cut_from _ 1] at hy7
    (intro y8 ny8; generalize hGy8 : upd _ y8 _ = G7; have eG7 := exG hGy8 ny8; have hy8 := atG hGy8; clear hGy8)
    refine cat_tup (eG7 _ _ hy7) hy8 (by rw [List.length_drop, lz]; simp; omega) fun o7 G8 e8 ho7 => ?_
    have t8 := ext t5 (ext e6 (ext eG7 e8))
    refine ⟨_, rfl, _, rfl, ?_⟩
    refine sl_ints (t8 _ _ hzC) fun y9 G9 e9 hy9 => ⟨slen rfl, ?_⟩
    rw [show cutV ((List.replicate ns.length (0 : Int)).map V.int) (some 1) none = ((List.replicate ns.length (0 : Int)).map V.int).drop 1 from cut_from _ 1] at hy9
    (intro yA nyA; generalize hGyA : upd _ yA _ = GA; have eGA := exG hGyA nyA; have hyA := atG hGyA; clear hGyA)
    refine ⟨slen rfl, ?_⟩
    (intro yB nyB; generalize hGyB : upd _ yB _ = GB; have eGB := exG hGyB nyB; have hyB := atG hGyB; clear hGyB)
    refine cat_tup ((ext eGA eGB) _ _ hy9) hyB (by rw [List.length_drop, lz]; simp; omega) fun o8 GC2 eC ho8 => ?_
    have t9 := ext t8 (ext e9 (ext eGA (ext eGB eC)))
    refine fun oA noA => ?_
    generalize hG : upd GC2 oA _ = GD
    have eGD := exG hG noA
    have hoA := atG hG
    clear hG
    refine ⟨slen rfl, ?_⟩
    (intro ol nol; generalize hGol : upd _ ol _ = GE1; have eGE1 := exG hGol nol; have hol := atG hGol; clear hGol)
    have tE := ext t9 (ext eGD eGE1)
    have no3 := sC.ne no3
    have nyA := (sC.mono (ext t8 e9)).ne nyA
    have nol := (sC.mono (ext t9 eGD)).ne nol
    have uC := ext eGD eGE1
    have u8 := ext e9 (ext eGA (ext eGB (ext eC uC)))
    have u7 := ext e8 u8
    have u5 := ext e6 (ext eG7 u7)
    have odq : DqAll (· ≠ s) GE1 [V.non, .int 0, .ref o3, .ref o4, .ref o5, .ref o6, .ref o7, .ref o8, .str "0", .ref oA] [.none, .int 0, .list ((List.replicate ns.length (0 : Int)).map PyData.int), .tuple ((List.replicate ns.length (0 : Int)).map PyData.int ++ [.int 0]), .tuple [], iT ns, .tuple (((List.replicate ns.length (0 : Int)).map PyData.int).drop 1 ++ [.bool true]), .tuple (((List.replicate ns.length (0 : Int)).map PyData.int).drop 1 ++ [.list [.int 0]]), .str "0", .dict []] := by
      have zi := DqAll.ints (B := (· ≠ s)) (H := GE1) (List.replicate ns.length (0 : Int))
      have zd : DqAll (· ≠ s) GE1 (((List.replicate ns.length (0 : Int)).map V.int).drop 1) (((List.replicate ns.length (0 : Int)).map PyData.int).drop 1) := by
        rw [← List.map_drop, ← List.map_drop]
        exact DqAll.ints _
      exact .cons .non (.cons (.int 0) (.cons (.lst ((ext eG2 (ext e3 (ext eG4 (ext eG5 u5)))) _ _ ho3) no3 zi) (.cons (.tup ((ext eG4 (ext eG5 u5)) _ _ ho4) (zi.app (.cons (.int 0) .nil))) (.cons (.tup ((ext eG5 u5) _ _ ho5) .nil) (.cons (.tup (u5 _ _ ho6) (DqAll.ints ns)) (.cons (.tup (u8 _ _ ho7) (zd.app (.cons (.bl true) .nil))) (.cons (.tup (uC _ _ ho8) (zd.app (.cons (.lst ((ext eGB (ext eC uC)) _ _ hyA) nyA (.cons (.int 0) .nil)) .nil))) (.cons (.str _) (.cons (.emp (eGE1 _ _ hoA)) .nil)))))))))
    have obad : ∀ d ∈ [PyData.none, .int 0, .list ((List.replicate ns.length (0 : Int)).map PyData.int), .tuple ((List.replicate ns.length (0 : Int)).map PyData.int ++ [.int 0]), .tuple [], iT ns, .tuple (((List.replicate ns.length (0 : Int)).map PyData.int).drop 1 ++ [.bool true]), .tuple (((List.replicate ns.length (0 : Int)).map PyData.int).drop 1 ++ [.list [.int 0]]), .str "0", .dict []], isSeatO ns (oT d) = false ∧ ShortT d := fun d hd => by
      simp only [List.mem_cons, List.not_mem_nil, or_false] at hd
      rcases hd with rfl | rfl | rfl | rfl | rfl | rfl | rfl | rfl | rfl | rfl
      · exact ⟨rfl, short_no rfl⟩
      · exact ⟨rfl, short_no rfl⟩
      · exact ⟨rfl, short_no rfl⟩
      · exact ⟨not_seat_len (by rw [List.length_append, List.length_map, List.length_replicate]; simp), short_tup (by rw [List.length_append, List.length_map, List.length_replicate]; simp; omega)⟩
      · exact ⟨not_seat_len (by simp; omega), short_tup (by simp)⟩
      · exact ⟨not_seat_sizes ok.pos, short_tup (by rw [List.length_map]; omega)⟩
      · exact ⟨not_seat_odd (e := .bool true) (by simp) rfl, short_tup (by rw [List.length_append, List.length_drop, List.length_map, List.length_replicate]; simp; omega)⟩
      · exact ⟨not_seat_odd (e := .list [.int 0]) (by simp) rfl, short_tup (by rw [List.length_append, List.length_drop, List.length_map, List.length_replicate]; simp; omega)⟩
      · exact ⟨rfl, short_no rfl⟩
      · exact ⟨rfl, short_no rfl⟩
    generalize [PyData.none, .int 0, .list ((List.replicate ns.length (0 : Int)).map PyData.int), .tuple ((List.replicate ns.length (0 : Int)).map PyData.int ++ [.int 0]), .tuple [], iT ns, .tuple (((List.replicate ns.length (0 : Int)).map PyData.int).drop 1 ++ [.bool true]), .tuple (((List.replicate ns.length (0 : Int)).map PyData.int).drop 1 ++ [.list [.int 0]]), .str "0", .dict []] = ods at odq obad
    have lol : ([V.non, .int 0, .ref o3, .ref o4, .ref o5, .ref o6, .ref o7, .ref o8, .str "0", .ref oA]).length = 10 := rfl
    generalize [V.non, .int 0, .ref o3, .ref o4, .ref o5, .ref o6, .ref o7, .ref o8, .str "0", .ref oA] = ovs at odq hol lol
    have pwE : ∀ v ∈ pwl, PairG s ns GE1 v := fun v hv => (pw v hv).mono tE
    have hwlE := tE _ _ hwl
    have hlaE := tE _ _ hlaC
    have srcE := sC.mono tE
    have XE := XC.trans (XB.of tE)
    clear ho3 ho4 ho5 ho6 ho7 ho8 hoA hy4 hy7 hy8 hy9 hyA hyB t2 t4 t5 t8 t9 uC u8 u7 u5 eG1 eG2 e3 eG4 eG5 e6 eG7 e8 e9 eGA eGB eC eGD eGE1 tE pw hwl hlaC sC XC hzC hlC lz
    dsimp only [gName]
    show tSeq _ _ _ [_, _, _, _, _, _, _, _, _] _
    refine ⟨_, rfl, _, rfl, s, 10, rfl, srcE, by decide, by decide +kernel, fun r G1 r0 r1 xb1 src1 => ?_⟩
    obtain ⟨_, wv, wd, _, _, gv, _, md, qd0⟩ := odq.at r0 (by rw [lol]; omega)
    have qd := qd0.xb srcE xb1
    obtain ⟨wbad, wsh⟩ := obad wd md
    refine ⟨ol, _, _, _, rfl, rfl, SqL.of (xb1 _ _ nol hol), gv, ?_⟩
    have pw1 : ∀ v ∈ pwl, PairG s ns G1 v := fun v hv => (pwE v hv).xb srcE xb1
    have hwl1 := xb1 _ _ nwl hwlE
    have hla1 := tup_xb srcE hlaE xb1
    have X1 := XE.trans xb1
    clear odq obad qd0 pwE hwlE hlaE XE xb1 hol gv md
    dsimp only [gName]
    show tSeq _ _ _ [_, _, _, _, _, _, _, _, _] _
    refine ⟨_, rfl, slen rfl, ?_⟩
    (intro a1 na1; generalize hGa1 : upd _ a1 _ = G2; have eG2 := exG hGa1 na1; have ha1 := atG hGa1; clear hGa1)
    refine ⟨slen rfl, ?_⟩
    (intro p1 np1; generalize hGp1 : upd _ p1 _ = G3; have eG3 := exG hGp1 np1; have hp1 := atG hGp1; clear hGp1)
    refine ⟨_, rfl, _, rfl, _, rfl, slen rfl, ?_⟩
    (intro a2 na2; generalize hGa2 : upd _ a2 _ = G4; have eG4 := exG hGa2 na2; have ha2 := atG hGa2; clear hGa2)
    refine ⟨slen rfl, ?_⟩
    (intro p2 np2; generalize hGp2 : upd _ p2 _ = G5; have eG5 := exG hGp2 np2; have hp2 := atG hGp2; clear hGp2)
    refine ⟨_, rfl, _, rfl, slen rfl, ?_⟩
    (intro a3 na3; generalize hGa3 : upd _ a3 _ = G6; have eG6 := exG hGa3 na3; have ha3 := atG hGa3; clear hGa3)
    refine ⟨slen rfl, ?_⟩
    (intro p3 np3; generalize hGp3 : upd _ p3 _ = G7; have eG7 := exG hGp3 np3; have hp3 := atG hGp3; clear hGp3)
    refine ⟨_, rfl, _, rfl, slen rfl, ?_⟩
    (intro a4 na4; generalize hGa4 : upd _ a4 _ = G8; have eG8 := exG hGa4 na4; have ha4 := atG hGa4; clear hGa4)
    refine ⟨slen rfl, ?_⟩
    (intro p4 np4; generalize hGp4 : upd _ p4 _ = G9; have eG9 := exG hGp4 np4; have hp4 := atG hGp4; clear hGp4)
    refine ⟨_, rfl, _, rfl, slen rfl, ?_⟩
    (intro a5 na5; generalize hGa5 : upd _ a5 _ = GA; have eGA := exG hGa5 na5; have ha5 := atG hGa5; clear hGa5)
    refine ⟨slen rfl, ?_⟩
    (intro p5 np5; generalize hGp5 : upd _ p5 _ = GB; have eGB := exG hGp5 np5; have hp5 := atG hGp5; clear hGp5)
    refine ⟨slen rfl, ?_⟩
    (intro pl npl; generalize hGpl : upd _ pl _ = GC; have eGC := exG hGpl npl; have hpl := atG hGpl; clear hGpl)
    have t3 := ext eG2 eG3
    have t5 := ext t3 (ext eG4 eG5)
    have t7 := ext t5 (ext eG6 eG7)
    have t9 := ext t7 (ext eG8 eG9)
    have tB := ext t9 (ext eGA eGB)
    have tC := ext tB eGC
    have u9 := ext (ext eGA eGB) eGC
    have u7 := ext (ext eG8 eG9) u9
    have u5 := ext (ext eG6 eG7) u7
    have u3 := ext (ext eG4 eG5) u5
    have na1 := src1.ne na1
    have np1 := (src1.mono eG2).ne np1
    have na2 := (src1.mono t3).ne na2
    have np2 := (src1.mono (ext t3 eG4)).ne np2
    have np3 := (src1.mono (ext t5 eG6)).ne np3
    have na4 := (src1.mono t7).ne na4
    have np4 := (src1.mono (ext t7 eG8)).ne np4
    have na5 := (src1.mono t9).ne na5
    have np5 := (src1.mono (ext t9 eGA)).ne np5
    have npl := (src1.mono tB).ne npl
    have skl := last_seat (ns := ns) ok.one
    have dl : Dq (· ≠ s) GC (.ref la) (iT (ns.map fun n => n - 1)) := Dq.ints (tC _ _ hla1)
    have dw := qd.mono tC
    have lsh : ShortT (iT (ns.map fun n => n - 1)) := short_tup (by rw [List.length_map, List.length_map]; omega)
    have pp : ∀ v ∈ [V.ref p1, .ref p2, .ref p3, .ref p4, .ref p5], PairG s ns GC v := fun v hv => by
      simp only [List.mem_cons, List.not_mem_nil, or_false] at hv
      have two : ∀ a b : PyData, ShortT a → ShortT b → ∀ d ∈ [a, b], ShortT d := fun a b ha hb d hd => by
        simp only [List.mem_cons, List.not_mem_nil, or_false] at hd
        rcases hd with rfl | rfl
        · exact ha
        · exact hb
      rcases hv with rfl | rfl | rfl | rfl | rfl
      · exact ⟨_, _, _, _, rfl, np1, u3 _ _ hp1, badg_go (q := (false, a1)) (fun _ => na1) ((ext eG3 u3) _ _ ha1) (.cons dw .nil) (by simp) (fun d hd => by rw [List.mem_singleton.mp hd]; exact wsh) (by simp) (go_bad wbad)⟩
      · refine ⟨_, _, _, _, rfl, np2, u5 _ _ hp2, badg_go (q := (false, a2)) (fun _ => na2) ((ext eG5 u5) _ _ ha2) (.cons dl (.cons dw (.cons dw .nil))) (by simp) (fun d hd => ?_) (by simp) (go_good skl (.inl wbad))⟩
        simp only [List.mem_cons, List.not_mem_nil, or_false, or_self] at hd
        rcases hd with rfl | rfl
        · exact lsh
        · exact wsh
      · exact ⟨_, _, _, _, rfl, np3, u7 _ _ hp3, badg_go (q := (true, a3)) (fun z => nomatch z) ((ext eG7 u7) _ _ ha3) (.cons dl (.cons dl .nil)) (by simp) (two _ _ lsh lsh) (by simp) (go_good skl (.inr rfl))⟩
      · exact ⟨_, _, _, _, rfl, np4, u9 _ _ hp4, badg_go (q := (false, a4)) (fun _ => na4) ((ext eG9 u9) _ _ ha4) (.cons dl (.cons dw .nil)) (by simp) (two _ _ lsh wsh) (by simp) (go_good skl (.inl wbad))⟩
      · exact ⟨_, _, _, _, rfl, np5, eGC _ _ hp5, badg_go (q := (false, a5)) (fun _ => na5) ((ext eGB eGC) _ _ ha5) (.cons dw (.cons dl .nil)) (by simp) (two _ _ wsh lsh) (by simp) (go_bad wbad)⟩
    have lpp : ([V.ref p1, .ref p2, .ref p3, .ref p4, .ref p5]).length = 5 := rfl
    generalize [V.ref p1, .ref p2, .ref p3, .ref p4, .ref p5] = ppl at pp lpp hpl
    have pwC : ∀ v ∈ pwl, PairG s ns GC v := fun v hv => (pw1 v hv).mono tC
    have hwlC := tC _ _ hwl1
    have srcC := src1.mono tC
    have XC2 := X1.trans (XB.of tC)
    clear ha1 ha2 ha3 ha4 ha5 hp1 hp2 hp3 hp4 hp5 t3 t5 t7 t9 tB tC u9 u7 u5 u3 eG2 eG3 eG4 eG5 eG6 eG7 eG8 eG9 eGA eGB eGC pw1 hwl1 hla1 X1 dl dw
    dsimp only [gName]
    refine ⟨_, rfl, _, rfl, pl, 3, _, rfl, rfl, hpl, by decide, by decide, by rw [lpp]; decide, ?_⟩
    (intro q3 nq3; generalize hGq3 : upd _ q3 _ = G2; have eG2 := exG hGq3 nq3; have hq3 := atG hGq3; clear hGq3)
    rw [show (List.replicate (3 : Int).toNat ppl).flatten = ppl ++ (ppl ++ ppl) from by show ppl ++ (ppl ++ (ppl ++ [])) = _; rw [List.append_nil]] at hq3
    refine ⟨wl, q3, _, _, rfl, rfl, SqL.of (eG2 _ _ hwlC), SqL.of hq3, by simp only [List.length_append, lpp, lpw]; decide, ?_⟩
    (intro al nal; generalize hGal : upd _ al _ = G3; have eG3 := exG hGal nal; have hal := atG hGal; clear hGal)
    have e3 := ext eG2 eG3
    have nal := (srcC.mono eG2).ne nal
    have srcD := srcC.mono e3
    have pall : ∀ v ∈ pwl ++ (ppl ++ (ppl ++ ppl)), PairG s ns G3 v := fun v hv => by
      simp only [List.mem_append, or_self] at hv
      rcases hv with h | h
      · exact (pwC v h).mono e3
      · exact (pp v h).mono e3
    have lal : (pwl ++ (ppl ++ (ppl ++ ppl))).length = 22 := by simp only [List.length_append, lpp, lpw]
    generalize pwl ++ (ppl ++ (ppl ++ ppl)) = vs at pall lal hal
    refine ⟨_, rfl, s, 22, rfl, srcD, by decide, by decide +kernel, fun r2 G4 r20 r21 xb4 src4 => ?_⟩
    obtain ⟨j, rfl⟩ := Int.eq_ofNat_of_zero_le r20
    have jl : j < vs.length := by omega
    have hj := List.getElem?_eq_getElem jl
    exact ⟨al, _, _, _, rfl, rfl, SqL.of (xb4 _ _ nal hal), atI_nn hj, k _ _ ((pall _ (List.getElem_mem jl)).xb srcD xb4) (XC2.trans ((XB.of e3).trans xb4)) src4⟩
end

/-! ### all but the source and the tables of code objects stays -/
def XN (s : Addr) (H H2 : Hp) : Prop := ∀ c o, c ≠ s → (∀ ps, o ≠ HO.tbl ps) → H c = some o → H2 c = some o
theorem XN.refl {s : Addr} {H : Hp} : XN s H H := fun _ _ _ _ h => h
theorem XN.trans {s : Addr} {H H1 H2 : Hp} (a : XN s H H1) (b : XN s H1 H2) : XN s H H2 := fun c o n t h => b c o n t (a c o n t h)
theorem XN.xb {s : Addr} {H H2 : Hp} (x : XB s H H2) : XN s H H2 := fun c o n _ h => x c o n h
theorem XN.of {s : Addr} {H H2 : Hp} (e : Ex H H2) : XN s H H2 := fun c o _ _ h => e c o h
theorem XN.en {s : Addr} {H H2 : Hp} (e : LamX.ExtN H H2) : XN s H H2 := fun c o _ t h => e c o h t
theorem XN.lst {s q : Addr} {H H2 : Hp} {xs : List V} (x : XN s H H2) (n : q ≠ s) (h : H q = some (.lst xs)) : H2 q = some (.lst xs) := x _ _ n (fun _ z => nomatch z) h
theorem XN.tup {s q : Addr} {H H2 : Hp} {xs : List V} (x : XN s H H2) (src : Src H s) (h : H q = some (.tup xs)) : H2 q = some (.tup xs) := x _ _ (fun z => by
  obtain ⟨_, _, _, e⟩ := src
  rw [z, e] at h
  cases h) (fun _ z => nomatch z) h
theorem XN.tab {C s q : Addr} {H H2 : Hp} {ns : List Int} (x : XN s H H2) (src : Src H s) (h : TabAt C H q ns) : TabAt C H2 q ns := by
  obtain ⟨dx, t, h1, h2⟩ := h
  exact ⟨dx, t, x _ _ (fun z => by
    obtain ⟨_, _, _, e⟩ := src
    rw [z, e] at h1
    cases h1) (fun _ z => nomatch z) h1, x.tup src h2⟩
theorem XN.rows {s q : Addr} {H H2 : Hp} {tss : List (List Int)} (x : XN s H H2) (src : Src H s) (n : q ≠ s) (h : RowsAt H q tss) : RowsAt H2 q tss := by
  obtain ⟨xs, h1, h2⟩ := h
  exact ⟨xs, x.lst n h1, h2.monoT fun _ _ z => x.tup src z⟩
theorem Src.en {s : Addr} {H H2 : Hp} (h : Src H s) (e : LamX.ExtN H H2) : Src H2 s := by
  obtain ⟨a, b, c, h⟩ := h
  exact ⟨a, b, c, e _ _ h (fun _ z => nomatch z)⟩
theorem Tabs.xb {s : Addr} {T : List (Addr × Str)} {H H2 : Hp} (t : LamX.Tabs T H) (src : Src H s) (x : XB s H H2) : LamX.Tabs T H2 := fun p hp => by
  obtain ⟨ps, h1, h2, h3⟩ := t p hp
  obtain ⟨_, _, _, hs⟩ := src
  refine ⟨ps, x _ _ (fun z => by rw [z, hs] at h1; cases h1) h1, h2, fun pos cv hc => ?_⟩
  obtain ⟨c, e1, e2⟩ := h3 pos cv hc
  exact ⟨c, e1, x _ _ (fun z => by rw [z, hs] at e2; exact nomatch (show HO.lst _ = HO.ext _ from Option.some.inj e2)) e2⟩

/-! ### shown texts are texts -/
def Sk (x : Str) : Prop := ∀ c ∈ x.cps.toList, c < 0x110000
theorem sk_ok {x : Str} (h : Sk x) : (PyData.str x).canLay0 = true := by
  simp only [PyData.canLay0, PyData.strOk]
  rw [Array.all_eq_true_iff_forall_mem]
  intro c hc
  exact decide_eq_true (h c (Array.mem_toList_iff.mpr hc))
theorem sk_of (s : String) : Sk (Str.ofString s) := fun c hc => by
  rw [Str.ofString_eq_toList] at hc
  have hc : c ∈ s.toList.map Char.toNat := hc
  obtain ⟨ch, _, rfl⟩ := List.mem_map.mp hc
  have := ch.valid
  show ch.val.toNat < 0x110000
  rcases this with h | ⟨_, h⟩
  · exact Nat.lt_trans h (by decide)
  · exact h
theorem sk_app {a b : Str} (ha : Sk a) (hb : Sk b) : Sk (a ++ b) := fun c hc => by
  have hc : c ∈ (a.cps ++ b.cps).toList := hc
  rw [Array.toList_append, List.mem_append] at hc
  exact hc.elim (ha c) (hb c)
theorem sk_empty : Sk Str.empty := fun c hc => nomatch (show c ∈ ([] : List Nat) from hc)
theorem sk_join {sep : Str} (hs : Sk sep) : ∀ {l : List Str}, (∀ x ∈ l, Sk x) → Sk (Str.join sep l)
  | [], _ => sk_empty
  | [x], h => h x List.mem_cons_self
  | x :: y :: r, h => sk_app (sk_app (h x List.mem_cons_self) hs) (sk_join hs fun z hz => h z (List.mem_cons_of_mem _ hz))
theorem sk_from : ∀ {l : List Str} {k : Nat} {acc : Str}, Sk acc → (∀ x ∈ l, Sk x) → Sk (textFrom k acc l)
  | [], _, _, ha, _ => ha
  | x :: l, k, acc, ha, h => sk_from (l := l) (sk_app (sk_app ha (by split <;> exact sk_of _)) (h x List.mem_cons_self)) fun z hz => h z (List.mem_cons_of_mem _ hz)
theorem sk_all : ∀ {ds : List PyData}, (∀ d ∈ ds, Sk d.shown) → ∀ x ∈ PyData.shownAll ds, Sk x
  | [], _, x, hx => nomatch hx
  | d :: ds, h, x, hx => by
    rcases List.mem_cons.mp (show x ∈ d.shown :: PyData.shownAll ds from hx) with rfl | hx
    · exact h d List.mem_cons_self
    · exact sk_all (fun e he => h e (List.mem_cons_of_mem _ he)) x hx
theorem sk_list {ds : List PyData} (h : ∀ d ∈ ds, Sk d.shown) : Sk (PyData.list ds).shown := by
  simp only [PyData.shown, listText]
  exact sk_app (sk_from (sk_of _) (sk_all h)) (sk_of _)
theorem sk_tuple {ds : List PyData} (h : ∀ d ∈ ds, Sk d.shown) : Sk (PyData.tuple ds).shown := by
  simp only [PyData.shown, tupleText]
  exact sk_app (sk_app (sk_of _) (sk_join (sk_of _) (sk_all h))) (by split <;> exact sk_of _)
theorem sk_none : Sk PyData.none.shown := sk_of _
theorem sk_bool (b : Bool) : Sk (PyData.bool b).shown := by cases b <;> exact sk_of _
theorem sk_int (i : Int) : Sk (PyData.int i).shown := sk_of _
theorem sk_emp : Sk (PyData.dict []).shown := by
  have h : ((PyData.dict []).shown.cps.toList.all fun c => decide (c < 0x110000)) = true := by
    simp only [PyData.shown, PyData.shownKv]
    decide +kernel
  intro c hc
  exact of_decide_eq_true (List.all_eq_true.mp h c hc)
theorem sk_word {x : Str} (h : ((reprText x).cps.toList.all fun c => decide (c < 0x110000)) = true) : Sk (PyData.str x).shown := by
  rw [PyData.shown_str]
  intro c hc
  exact of_decide_eq_true (List.all_eq_true.mp h c hc)
theorem sk_ints (ps : List Int) : Sk (iT ps).shown := sk_tuple fun d hd => by
  obtain ⟨i, _, rfl⟩ := List.mem_map.mp hd
  exact sk_int i
theorem sk_lit (s : String) : Sh 3 (.str (Str.ofString s)) := ⟨sk_ok (sk_of s), by simp only [PyData.depth]; omega⟩

section
variable {K : PySem.W.Frag} {CT CG CS CW : Addr} {Q : VK} {H : Hp}
theorem rai_tab {x : V} {e : PyData} (sh : ∀ G, Ex H G → ShA K G x e) (k : ∀ G r, Ex H G → TwoS G r "table" (.str e.shown) → Q (.ref r) G) : Rai (ErrW K CT CG CS CW Q) H CT "rings" x := fun dd H2 e2 hd =>
  ⟨dd, _, _, rfl, hd, .inl ⟨rfl, rfl, e, fun G2 e3 => sh _ (ext e2 e3), fun G2 r e3 t => k _ r (ext e2 e3) t⟩⟩
theorem rai_tgt {i : Int} (k : ∀ G r, Ex H G → TwoS G r "targets" (.int i) → Q (.ref r) G) : Rai (ErrW K CT CG CS CW Q) H CG "index" (.int i) := fun dd H2 e2 hd =>
  ⟨dd, _, _, rfl, hd, .inr (.inl ⟨rfl, rfl, i, rfl, fun G2 r e3 t => k _ r (ext e2 e3) t⟩)⟩
theorem rai_seat {x : V} {e : PyData} (sh : ∀ G, Ex H G → ShA K G x e) (k : ∀ G r, Ex H G → TwoS G r "seat" (.str e.shown) → Q (.ref r) G) : Rai (ErrW K CT CG CS CW Q) H CS "seat" x := fun dd H2 e2 hd =>
  ⟨dd, _, _, rfl, hd, .inr (.inr (.inl ⟨rfl, rfl, e, fun G2 e3 => sh _ (ext e2 e3), fun G2 r e3 t => k _ r (ext e2 e3) t⟩))⟩
theorem rai_wit {i : Int} (k : ∀ G r, Ex H G → TwoS G r "witness" (.int i) → Q (.ref r) G) : Rai (ErrW K CT CG CS CW Q) H CW "index" (.int i) := fun dd H2 e2 hd =>
  ⟨dd, _, _, rfl, hd, .inr (.inr (.inr ⟨rfl, rfl, i, rfl, fun G2 r e3 t => k _ r (ext e2 e3) t⟩))⟩
end
/-- a pair that tells an error, as data -/
def Pd2 (H : Hp) (v : V) (d : PyData) : Prop := ∃ (r : Addr) (w : Str) (y : V) (yd : PyData), v = .ref r ∧ TwoS H r w y ∧ d = .tuple [.str w, yd] ∧ Sk w ∧ ((∃ z, y = .str z ∧ yd = .str z ∧ Sk z) ∨ ∃ i, y = .int i ∧ yd = .int i)
theorem pd2_mono (H H2 : Hp) (v : V) (a : PyData) (e : ∀ c xs, H c = some (.tup xs) → H2 c = some (.tup xs)) (h : Pd2 H v a) : Pd2 H2 v a := by
  obtain ⟨r, w, y, yd, h1, h2, h3⟩ := h
  exact ⟨r, w, y, yd, h1, e _ _ h2, h3⟩
theorem pd2_dp {K : PySem.W.Frag} {H : Hp} {v : V} {d : PyData} (h : Pd2 H v d) : Dp K H v d ∧ Sh 3 d := by
  obtain ⟨r, w, y, yd, rfl, h2, rfl, hw, h⟩ := h
  rcases h with ⟨z, rfl, rfl, hz⟩ | ⟨i, rfl, rfl⟩
  · refine ⟨.tup (SqT.of h2) (.cons (.str _) (.cons (.str _) .nil)), (sh_tuple (n := 2) fun d hd => ?_)⟩
    simp only [List.mem_cons, List.not_mem_nil, or_false] at hd
    rcases hd with rfl | rfl
    · exact ⟨sk_ok hw, by simp only [PyData.depth]; omega⟩
    · exact ⟨sk_ok hz, by simp only [PyData.depth]; omega⟩
  · refine ⟨.tup (SqT.of h2) (.cons (.str _) (.cons (.int _) .nil)), (sh_tuple (n := 2) fun d hd => ?_)⟩
    simp only [List.mem_cons, List.not_mem_nil, or_false] at hd
    rcases hd with rfl | rfl
    · exact ⟨sk_ok hw, by simp only [PyData.depth]; omega⟩
    · exact sh_int i
theorem pd2_all {K : PySem.W.Frag} {H : Hp} : ∀ {vs : List V} {ds : List PyData}, Paired (Pd2 H) vs ds → DpAll K H vs ds ∧ ∀ d ∈ ds, Sh 3 d
  | _, _, .nil => ⟨.nil, fun d hd => nomatch hd⟩
  | _, _, .cons h t => by
    obtain ⟨a, b⟩ := pd2_dp (K := K) h
    obtain ⟨c, e⟩ := pd2_all (K := K) t
    refine ⟨.cons a c, fun d hd => ?_⟩
    rcases List.mem_cons.mp hd with rfl | hd
    · exact b
    · exact e d hd
/-- data that is no table -/
theorem Dq.noTab {K : PySem.W.Frag} {B : Addr → Prop} {H : Hp} {C : Addr} {v : V} {d : PyData} (q : Dq B H v d) (h : ∀ t ∈ ["NoneType", "bool", "int", "str", "list", "tuple", "dict"], PySem.W.kitOne K (.type t) (.ref C) = some false) : InsB K C H v false := by
  cases q with
  | non => exact ⟨_, .base .non, h _ (by simp)⟩
  | bl b => exact ⟨_, .base (.bl b), h _ (by simp)⟩
  | int i => exact ⟨_, .base (.int i), h _ (by simp)⟩
  | str x => exact ⟨_, .base (.str x), h _ (by simp)⟩
  | lst h1 _ _ => exact ⟨_, .base (.lst h1), h _ (by simp)⟩
  | tup h1 _ => exact ⟨_, .base (.tup h1), h _ (by simp)⟩
  | emp h1 => exact ⟨_, .base (.dK h1), h _ (by simp)⟩
theorem Dq.shA {K : PySem.W.Frag} {B : Addr → Prop} {H : Hp} {v : V} {d : PyData} {n c : Nat} (q : Dq B H v d) (s : Sx n c d) (hn : n ≤ 60) (hc : c ≤ 100000) : ∀ G, Ex H G → ShA K G v d := fun G e =>
  ⟨(q.mono e).de, s.sh, Nat.le_trans s.len (Nat.le_trans hc (by decide)), Nat.le_trans s.dep hn⟩

/-- the tables of the law -/
structure Five (ns : List Int) : Prop where
  ok : SzOk ns
  bn : ∀ n ∈ ns, n.natAbs < 2 ^ 300
  wit : okB3 ns (.tuple [.int 3, iT (List.replicate ns.length 0), .int 0]) = true
  one : tgtDue ns (some [iT (List.replicate ns.length 0)]) = none
  two : tgtDue ns (some [iT (List.replicate ns.length 0), iT (ns.map fun n => n - 1)]) = none
theorem five_of {ns : List Int} (h : ns ∈ [[9], [3, 6], [2, 15, 2], [3 ^ 30, 10], [1, 1, 1, 21]]) : Five ns := by
  simp only [List.mem_cons, List.not_mem_nil, or_false] at h
  rcases h with rfl | rfl | rfl | rfl | rfl
  · exact ⟨⟨by decide, by decide, by decide⟩, by decide +kernel, by decide +kernel, by decide +kernel, by decide +kernel⟩
  · exact ⟨⟨by decide, by decide, by decide⟩, by decide +kernel, by decide +kernel, by decide +kernel, by decide +kernel⟩
  · exact ⟨⟨by decide, by decide, by decide⟩, by decide +kernel, by decide +kernel, by decide +kernel, by decide +kernel⟩
  · exact ⟨⟨by decide, by decide, by decide +kernel⟩, by decide +kernel, by decide +kernel, by decide +kernel, by decide +kernel⟩
  · exact ⟨⟨by decide, by decide, by decide⟩, by decide +kernel, by decide +kernel, by decide +kernel, by decide +kernel⟩
/-- data that is shown in a text -/
def Shn (d : PyData) : Prop := Sx 4 30000 d ∧ Sk d.shown
theorem shn_tup {ds : List PyData} (l : ds.length ≤ 10) (h : ∀ d ∈ ds, Sx 1 2000 d ∧ Sk d.shown) : Shn (.tuple ds) := ⟨(sx_tuple fun d hd => (h d hd).1).up (by decide) (by have := Nat.mul_le_mul_right 2002 l; omega), sk_tuple fun d hd => (h d hd).2⟩
theorem shn_list {ds : List PyData} (l : ds.length ≤ 10) (h : ∀ d ∈ ds, Sx 1 2000 d ∧ Sk d.shown) : Shn (.list ds) := ⟨(sx_list fun d hd => (h d hd).1).up (by decide) (by have := Nat.mul_le_mul_right 2002 l; omega), sk_list fun d hd => (h d hd).2⟩
theorem s_int {i : Int} (h : i.natAbs < 2 ^ 300) : Sx 1 2000 (.int i) ∧ Sk (PyData.int i).shown := ⟨(sx_int h).up (by decide) (Nat.le_refl _), sk_int i⟩
theorem s_bool (b : Bool) : Sx 1 2000 (.bool b) ∧ Sk (PyData.bool b).shown := ⟨(sx_bool b).up (by decide) (Nat.le_refl _), sk_bool b⟩
theorem shn_of {d : PyData} (h : Sx 1 2000 d ∧ Sk d.shown) : Shn d := ⟨h.1.up (by decide) (by decide), h.2⟩
theorem shn_emp : Shn (.dict []) := shn_of ⟨sx_emp.up (by decide) (by decide), sk_emp⟩
theorem shn_none : Shn .none := shn_of ⟨sx_none.up (by decide) (by decide), sk_none⟩
theorem s_ints {ps : List Int} (h : ∀ x ∈ ps, x.natAbs < 2 ^ 300) : ∀ d ∈ ps.map PyData.int, Sx 1 2000 d ∧ Sk d.shown := fun d hd => by
  obtain ⟨i, hi, rfl⟩ := List.mem_map.mp hd
  exact s_int (h i hi)
theorem s_zeros {n : Nat} : ∀ d ∈ (List.replicate n (0 : Int)).map PyData.int, Sx 1 2000 d ∧ Sk d.shown := s_ints fun x hx => by rw [List.eq_of_mem_replicate hx]; decide
theorem s_snoc {ds : List PyData} {e : PyData} (h : ∀ d ∈ ds, Sx 1 2000 d ∧ Sk d.shown) (he : Sx 1 2000 e ∧ Sk e.shown) : ∀ d ∈ ds ++ [e], Sx 1 2000 d ∧ Sk d.shown := fun d hd => by
  rcases List.mem_append.mp hd with h2 | h2
  · exact h d h2
  · rw [List.mem_singleton.mp h2]
    exact he
theorem shn_word {x : Str} (h : ((reprText x).cps.toList.all fun c => decide (c < 0x110000)) = true) (l : (reprText x).length ≤ 2000) : Shn (.str x) := shn_of ⟨⟨rfl, by rw [PyData.shown_str]; exact l, by simp only [PyData.depth]; omega⟩, sk_word h⟩
/-- no witness of it -/
structure NoWit (ns : List Int) (d : PyData) : Prop where
  no : okB3 ns d = false
  bm : ∀ dm dw dr m, d = .tuple [dm, dw, dr] → intD dm = some m → m.natAbs < 2 ^ 5000
theorem nowit_any {ns : List Int} {d : PyData} (h : okB3 ns d = false) (t : ∀ a b c, d ≠ .tuple [a, b, c]) : NoWit ns d := ⟨h, fun a b c m e => absurd e (t a b c)⟩
theorem nowit_three {ns : List Int} {a b c : PyData} (h : okB3 ns (.tuple [a, b, c]) = false) (t : ∀ m, intD a = some m → m.natAbs < 2 ^ 5000) : NoWit ns (.tuple [a, b, c]) := ⟨h, fun dm dw dr m e hm => by
  injection e with e
  injection e with e1 e
  subst e1
  exact t m hm⟩
theorem short_one {a : PyData} (ha : ShortT a) : ∀ ds, some [a] = some ds → ds.length ≤ 1000 ∧ ∀ d ∈ ds, ShortT d := fun ds e => by
  obtain rfl := Option.some.inj e
  exact ⟨by simp, fun d hd => by rw [List.mem_singleton.mp hd]; exact ha⟩
theorem short_two {a b : PyData} (ha : ShortT a) (hb : ShortT b) : ∀ ds, some [a, b] = some ds → ds.length ≤ 1000 ∧ ∀ d ∈ ds, ShortT d := fun ds e => by
  obtain rfl := Option.some.inj e
  refine ⟨by simp, fun d hd => ?_⟩
  simp only [List.mem_cons, List.not_mem_nil, or_false] at hd
  rcases hd with rfl | rfl
  · exact ha
  · exact hb
theorem bm3 {x : PyData} {y : PyData} : ∀ dm dw dr m, PyData.tuple [.int 3, x, y] = .tuple [dm, dw, dr] → intD dm = some m → m.natAbs < 2 ^ 5000 := fun dm dw dr m e hm => by
  injection e with e
  injection e with e1 e
  subst e1
  obtain rfl := Option.some.inj hm
  exact Nat.lt_of_lt_of_le (show (3 : Int).natAbs < 2 ^ 2 by decide) (Nat.pow_le_pow_right (by decide) (by decide))

theorem lam_updl {X : Cx} {k : Nat} {H : Hp} {f l : Addr} {xs ys : List V} {tb : XK → TE} (hl : H l = some (.lst xs)) (h : CG.LamAt X k H f tb) : CG.LamAt X k (upd H l (.lst ys)) f tb := by
  obtain ⟨pa, bo, sc, c', a1, a2, a3⟩ := h
  refine ⟨pa, bo, sc, c', ?_, ?_, a3⟩
  · rw [upd_ne (fun z => by rw [z, hl] at a1; exact nomatch (show HO.lst _ = HO.ext _ from Option.some.inj a1))]
    exact a1
  · rw [upd_ne (fun z => by rw [z, hl] at a2; exact nomatch (show HO.lst _ = HO.ext _ from Option.some.inj a2))]
    exact a2
theorem lam_mono {X : Cx} {k : Nat} {H G : Hp} {f : Addr} {tb : XK → TE} (e : Ex H G) (h : CG.LamAt X k H f tb) : CG.LamAt X k G f tb := h.ext (LamX.ExtN.of e)
theorem tabs_updl {T : List (Addr × Str)} {H : Hp} {l : Addr} {xs ys : List V} (hl : H l = some (.lst xs)) (t : LamX.Tabs T H) : LamX.Tabs T (upd H l (.lst ys)) := fun p hp => by
  obtain ⟨ps, h1, h2, h3⟩ := t p hp
  refine ⟨ps, ?_, h2, fun pos cv hc => ?_⟩
  · rw [upd_ne (fun z => by rw [z, hl] at h1; cases h1)]
    exact h1
  · obtain ⟨c, e1, e2⟩ := h3 pos cv hc
    refine ⟨c, e1, ?_⟩
    rw [upd_ne (fun z => by rw [z, hl] at e2; exact nomatch (show HO.lst _ = HO.ext _ from Option.some.inj e2))]
    exact e2
theorem en_updl {H G : Hp} {l : Addr} {o : HO} (e : LamX.ExtN H G) (n : H l = none) : LamX.ExtN H (upd G l o) := fun c u q nt => by
  rw [upd_ne (ne_of_none q n)]
  exact e c u q nt
/-- all but the tables stays, and a is new -/
def EA (a : Addr) (H G : Hp) : Prop := ∀ c o, (∀ ps, o ≠ HO.tbl ps) → H c = some o → G c = some o ∧ c ≠ a
theorem EA.start {a : Addr} {H G G2 : Hp} (e : LamX.ExtN H G) (n : G a = none) (x : Ex G G2) : EA a H G2 := fun c o nt h => ⟨x _ _ (e c o h nt), ne_of_none (e c o h nt) n⟩
theorem EA.ext {a : Addr} {H G G2 : Hp} (h : EA a H G) (e : LamX.ExtN G G2) : EA a H G2 := fun c o nt q => ⟨e _ _ (h c o nt q).1 nt, (h c o nt q).2⟩
theorem EA.upd {a : Addr} {H G : Hp} {o : HO} (h : EA a H G) : EA a H (upd G a o) := fun c u nt q => ⟨by rw [upd_ne (h c u nt q).2]; exact (h c u nt q).1, (h c u nt q).2⟩
theorem EA.xn {a s : Addr} {H G : Hp} (h : EA a H G) : XN s H G := fun c o _ nt q => (h c o nt q).1
theorem EA.src {a s : Addr} {H G : Hp} (h : EA a H G) (src : Src H s) : Src G s := by
  obtain ⟨x, y, z, e⟩ := src
  exact ⟨x, y, z, (h _ _ (by intro _ q; cases q) e).1⟩
theorem Dq.xn {s : Addr} {H H2 : Hp} {v : V} {d : PyData} (src : Src H s) (x : XN s H H2) (q : Dq (· ≠ s) H v d) : Dq (· ≠ s) H2 v d := q.to (fun a xs b h => ⟨x.lst b h, b⟩) (fun a xs h => x.tup src h) (fun a h => x _ _ (fun z => by
  obtain ⟨_, _, _, e⟩ := src
  rw [z, e] at h
  cases h) (fun _ z => nomatch z) h)
theorem NoSeq.xn {s : Addr} {H H2 : Hp} {v : V} (src : Src H s) (x : XN s H H2) (h : NoSeq H v) : NoSeq H2 v := h.to (fun a kvs e => x _ _ (fun z => by
  obtain ⟨_, _, _, q⟩ := src
  rw [z, q] at e
  cases e) (fun _ z => nomatch z) e) (fun a kvs e => x _ _ (fun z => by
  obtain ⟨_, _, _, q⟩ := src
  rw [z, q] at e
  cases e) (fun _ z => nomatch z) e)
theorem DqAll.xn {s : Addr} {H H2 : Hp} {vs : List V} {ds : List PyData} (src : Src H s) (x : XN s H H2) (q : DqAll (· ≠ s) H vs ds) : DqAll (· ≠ s) H2 vs ds := q.to (fun a xs b h => ⟨x.lst b h, b⟩) (fun a xs h => x.tup src h) (fun a h => x _ _ (fun z => by
  obtain ⟨_, _, _, e⟩ := src
  rw [z, e] at h
  cases h) (fun _ z => nomatch z) h)
theorem BadG.xn {s : Addr} {ns : List Int} {H H2 : Hp} {x : V} {i : Int} {od : Option (List PyData)} (src : Src H s) (xb : XN s H H2) (h : BadG s ns H x i od) : BadG s ns H2 x i od := by
  refine ⟨?_, h.bd, h.due⟩
  have g := h.here
  cases od with
  | none => exact NoSeq.xn src xb g
  | some ds =>
    obtain ⟨q, xs, rfl, n, a, b⟩ := g
    refine ⟨q, xs, rfl, n, ?_, b.xn src xb⟩
    obtain ⟨b2, q⟩ := q
    cases b2
    · exact xb.lst (n rfl) a
    · exact xb.tup src (show H q = some (.tup xs) from a)

section
variable {P : Program} {w : World} {K : PySem.W.Frag} {mg : Str → Option Value} {base : Heap}
def lamQ : Str := "_law_check.<locals>.<lambda>"
def sp_law_check (PT : Addr) : Sp := fun vs H Q _ => ∃ (s : Addr), vs = [.ref s] ∧ Src H s ∧ LamX.Tabs [(PT, lamQ)] H ∧ ∀ H2, XN s H H2 → Src H2 s → LamX.Tabs [(PT, lamQ)] H2 → Q (.bl true) H2
theorem ok_law_check (T : TX K mg) (L : TL T base) : CG.FnOkG P w K mg base 9 T.f_law_check T.fd_law_check ["_law_source_here"] (sp_law_check L.p_law_check) := by
  refine CG.okGT T.F_law_check L.at_law_check sc_law_check (fun vs H Q E h => ?_) (fun A outer s0 H0 vs Q E gd hr h => ?_)
  · obtain ⟨s, rfl, _⟩ := h
    rfl
  · obtain ⟨s, rfl, src, tabs, k⟩ := h
    refine ⟨_, (pss_cons (ps_set (i := 1) sc_law_check.nd rfl (Or.inl rfl) (pe_ix ix_list (pe_lst (pa_cons (pe_lst (pa_cons pe_int pa_nil)) (pa_cons (pe_lst (pa_cons pe_int (pa_cons pe_int pa_nil))) (pa_cons (pe_lst (pa_cons pe_int (pa_cons pe_int (pa_cons pe_int pa_nil)))) (pa_cons (pe_lst (pa_cons (pe_op op_pow pe_int pe_int) (pa_cons pe_int pa_nil))) (pa_cons (pe_lst (pa_cons pe_int (pa_cons pe_int (pa_cons pe_int (pa_cons pe_int pa_nil))))) pa_nil)))))) (pe_call (ok_law_take T) (hr.mono (by decide)) rfl T.m_law_take T.F_law_take.kp T.b_law_take .nil pass0 (pa_cons (pv 0) (pa_cons pe_int pa_nil))) (fun _ _ => rfl))) (pss_cons (ps_asg (pe_tup (pa_cons (pe_make T.M_Table (ok_Table_init T) (hr.mono (by decide)) rfl T.m_Table T.b_Table_init .nil pass0 (pa_cons (pv 1) pa_nil)) (pa_cons (pe_op (r := rRepA K) op_repA (pe_tup (pa_cons pe_int pa_nil)) (pe_callB call_len_seq (by rfl) T.z_len (by decide +kernel) (pa_cons (pv 1) pa_nil))) pa_nil))) (pg_tup rfl (pgs_cons (pg_name (i := 2) sc_law_check.nd rfl (Or.inr rfl)) (pgs_cons (pg_name (i := 3) sc_law_check.nd rfl (Or.inr rfl)) pgs_nil)))) (pss_cons (ps_set (i := 4) sc_law_check.nd rfl (Or.inr rfl) (pe_callTy call_tuple_of (by rfl) T.z_tuple (by decide +kernel) (pa_cons (pe_lc (own := [("_law_size", 12)]) (g := (gName 12)) rfl sc_law_check.nd (pi_list (pv 1)) (blkOk_by (N := N_law_check) (sc := defScope s_law_check) (by decide +kernel)) (fun _ _ _ _ _ => (pg_name (i := 12) sc_law_check.nd rfl (Or.inl rfl))) (fun _ _ _ _ _ => pts_nil) (fun _ _ _ _ _ => (pe_op op_sub (pv 12) pe_int))) pa_nil))) (pss_cons (ps_set (i := 5) sc_law_check.nd rfl (Or.inr rfl) (pe_ix ix_list (pe_lst (pa_cons pe_non (pa_cons pe_int (pa_cons (pe_callTy call_tuple_of (by rfl) T.z_tuple (by decide +kernel) (pa_cons (pv 1) pa_nil)) (pa_cons (pe_lst (pa_cons pe_int pa_nil)) (pa_cons pe_str (pa_cons pe_dnewK pa_nil))))))) (pe_call (ok_law_take T) (hr.mono (by decide)) rfl T.m_law_take T.F_law_take.kp T.b_law_take .nil pass0 (pa_cons (pv 0) (pa_cons pe_int pa_nil))) (fun _ _ => rfl))) (pss_cons (ps_asg (pe_call (ok_law_bad_goals T) (hr.mono (by decide)) rfl T.m_law_bad_goals T.F_law_bad_goals.kp T.b_law_bad_goals .nil pass0 (pa_cons (pv 0) (pa_cons (pv 1) pa_nil))) (pg_lst rfl (pgs_cons (pg_name (i := 6) sc_law_check.nd rfl (Or.inr rfl)) (pgs_cons (pg_name (i := 7) sc_law_check.nd rfl (Or.inl rfl)) pgs_nil)))) (pss_cons (ps_set (i := 8) sc_law_check.nd rfl (Or.inr rfl) (pe_ix ix_list (pe_lst (pa_cons pe_non (pa_cons (pe_callTy call_list_of (by rfl) T.z_list (by decide +kernel) (pa_cons (pv 3) pa_nil)) (pa_cons (pe_callTy call_tuple_of (by rfl) T.z_tuple (by decide +kernel) (pa_cons (pv 1) pa_nil)) (pa_cons (pe_op (r := rCatA K) op_catA (pv 3) (pe_tup (pa_cons pe_int pa_nil))) (pa_cons (pe_slice sl_tupA (pv 3) (po_some pe_int) po_none) (pa_cons pe_int (pa_cons pe_dnewK (pa_cons (pe_op (r := rCatA K) op_catA (pe_slice sl_tupA (pv 3) (po_some pe_int) po_none) (pe_tup (pa_cons pe_bl pa_nil))) pa_nil))))))))) (pe_call (ok_law_take T) (hr.mono (by decide)) rfl T.m_law_take T.F_law_take.kp T.b_law_take .nil pass0 (pa_cons (pv 0) (pa_cons pe_int pa_nil))) (fun _ _ => rfl))) (pss_cons (ps_set (i := 9) sc_law_check.nd rfl (Or.inl rfl) (pe_lst (pa_cons pe_non (pa_cons (pe_tup (pa_cons pe_int pa_nil)) (pa_cons (pe_tup (pa_cons pe_int (pa_cons (pv 3) (pa_cons pe_int pa_nil)))) (pa_cons (pe_lst (pa_cons pe_int (pa_cons (pv 3) (pa_cons pe_int pa_nil)))) (pa_cons (pe_tup (pa_cons pe_int (pa_cons (pv 3) (pa_cons pe_int pa_nil)))) (pa_cons (pe_tup (pa_cons pe_int (pa_cons (pe_callTy call_list_of (by rfl) T.z_list (by decide +kernel) (pa_cons (pv 3) pa_nil)) (pa_cons pe_int pa_nil)))) (pa_cons (pe_tup (pa_cons pe_bl (pa_cons (pv 3) (pa_cons pe_int pa_nil)))) pa_nil))))))))) (pss_cons (ps_set (i := 10) sc_law_check.nd rfl (Or.inr rfl) (pe_ix ix_list (pv 9) (pe_call (ok_law_take T) (hr.mono (by decide)) rfl T.m_law_take T.F_law_take.kp T.b_law_take .nil pass0 (pa_cons (pv 0) (pa_cons pe_int pa_nil))) (fun _ _ => rfl))) (pss_cons (ps_set (i := 11) sc_law_check.nd rfl (Or.inl rfl) (pe_lst (pa_cons (CG.pe_lamK (k := 6) L.tb_law_check rfl (fun A outer s H E f c hr => (pe_call (okX_coset_count T) (hr.mono (by decide)) rfl T.m_coset_count T.F_coset_count.kp T.b_coset_count .nil (passes_call (takes_of rfl rfl rfl rfl) (fun _ _ _ _ h => h)) (pa_cons (pv 5) (pa_cons (pv 6) pa_nil)))) (show LamX.LamS (defScope s_law_check) _ from LamX.lamS_by (by decide +kernel))) pa_nil))) (pss_cons (ps_expr (pe_bm PySem.F.plainAttrs_list PySem.F.slot_list_append PySem.F.type_list_append mt_append (pv 11) (pa_cons (CG.pe_lamK (k := 6) L.tb_law_check rfl (fun A outer s H E f c hr => (pe_call (okX_reach T) (hr.mono (by decide)) rfl T.m_reach T.F_reach.kp T.b_reach .nil (passes_call (takes_of rfl rfl rfl rfl) (fun _ _ _ _ h => h)) (pa_cons (pv 5) (pa_cons (pv 6) (pa_cons (pv 8) pa_nil))))) (show LamX.LamS (defScope s_law_check) _ from LamX.lamS_by (by decide +kernel))) pa_nil))) (pss_cons (ps_expr (pe_bm PySem.F.plainAttrs_list PySem.F.slot_list_append PySem.F.type_list_append mt_append (pv 11) (pa_cons (CG.pe_lamK (k := 6) L.tb_law_check rfl (fun A outer s H E f c hr => (pe_call (okX_check_witness T) (hr.mono (by decide)) rfl T.m_check_witness T.F_check_witness.kp T.b_check_witness .nil (passes_call (takes_of rfl rfl rfl rfl) (fun _ _ _ _ h => h)) (pa_cons (pv 5) (pa_cons (pv 6) (pa_cons (pv 8) (pa_cons (pv 10) pa_nil)))))) (show LamX.LamS (defScope s_law_check) _ from LamX.lamS_by (by decide +kernel))) pa_nil))) (pss_cons (ps_expr (pe_bm PySem.F.plainAttrs_list PySem.F.slot_list_append PySem.F.type_list_append mt_append (pv 11) (pa_cons (CG.pe_lamK (k := 6) L.tb_law_check rfl (fun A outer s H E f c hr => (pe_call (okX_value T) (hr.mono (by decide)) rfl T.m_value T.F_value.kp T.b_value .nil (passes_call (takes_of rfl rfl rfl rfl) (fun _ _ _ _ h => h)) (pa_cons (pv 5) (pa_cons (pv 10) (pa_cons (pv 8) pa_nil))))) (show LamX.LamS (defScope s_law_check) _ from LamX.lamS_by (by decide +kernel))) pa_nil))) (pss_cons (ps_if (pt_cmpR (r := rNeD K) (op_neD hr.units) (CG.pe_lcM (own := [("_law_attempt", 13)]) (g := (gName 13)) rfl sc_law_check.nd (pi_list (pv 11)) (blkOk_by (N := N_law_check) (sc := defScope s_law_check) (by decide +kernel)) (fun _ _ _ _ _ => (pg_name (i := 13) sc_law_check.nd rfl (Or.inl rfl))) (CG.said_elt T.F_law_raised T.b_law_raised sc_law_raised (fun _ _ _ _ _ => rfl) T.m_law_raised rfl (by exact Or.inl rfl) (gives_law_raised T L 6) gd hr (fun _ _ _ _ _ => (pv 13)))) (pe_op op_rep (pe_lst (pa_cons (pe_tup (pa_cons pe_str (pa_cons (pe_callB (r := CG.rReprA K) (CG.cr_reprA L.sysb gd (have z := u65 hr; z)) (by rfl) T.z_repr (by decide +kernel) (pa_cons (pv 5) pa_nil)) pa_nil))) pa_nil)) pe_int) (nomark _)) (pss_one (ps_ret pe_bl)) pss_nil) (pss_cons (ps_set (i := 11) sc_law_check.nd rfl (Or.inl rfl) (pe_lst (pa_cons (CG.pe_lamK (k := 6) L.tb_law_check rfl (fun A outer s H E f c hr => (pe_call (okX_coset_count T) (hr.mono (by decide)) rfl T.m_coset_count T.F_coset_count.kp T.b_coset_count .nil (passes_call (takes_of rfl rfl rfl rfl) (fun _ _ _ _ h => h)) (pa_cons (pv 2) (pa_cons (pv 6) pa_nil)))) (show LamX.LamS (defScope s_law_check) _ from LamX.lamS_by (by decide +kernel))) pa_nil))) (pss_cons (ps_expr (pe_bm PySem.F.plainAttrs_list PySem.F.slot_list_append PySem.F.type_list_append mt_append (pv 11) (pa_cons (CG.pe_lamK (k := 6) L.tb_law_check rfl (fun A outer s H E f c hr => (pe_call (okX_reach T) (hr.mono (by decide)) rfl T.m_reach T.F_reach.kp T.b_reach .nil (passes_call (takes_of rfl rfl rfl rfl) (fun _ _ _ _ h => h)) (pa_cons (pv 2) (pa_cons (pv 6) (pa_cons (pv 8) pa_nil))))) (show LamX.LamS (defScope s_law_check) _ from LamX.lamS_by (by decide +kernel))) pa_nil))) (pss_cons (ps_expr (pe_bm PySem.F.plainAttrs_list PySem.F.slot_list_append PySem.F.type_list_append mt_append (pv 11) (pa_cons (CG.pe_lamK (k := 6) L.tb_law_check rfl (fun A outer s H E f c hr => (pe_call (okX_check_witness T) (hr.mono (by decide)) rfl T.m_check_witness T.F_check_witness.kp T.b_check_witness .nil (passes_call (takes_of rfl rfl rfl rfl) (fun _ _ _ _ h => h)) (pa_cons (pv 2) (pa_cons (pv 6) (pa_cons (pv 8) (pa_cons (pv 10) pa_nil)))))) (show LamX.LamS (defScope s_law_check) _ from LamX.lamS_by (by decide +kernel))) pa_nil))) (pss_cons (ps_if (pt_cmpR (r := rNeD K) (op_neD hr.units) (CG.pe_lcM (own := [("_law_attempt", 13)]) (g := (gName 13)) rfl sc_law_check.nd (pi_list (pv 11)) (blkOk_by (N := N_law_check) (sc := defScope s_law_check) (by decide +kernel)) (fun _ _ _ _ _ => (pg_name (i := 13) sc_law_check.nd rfl (Or.inl rfl))) (CG.said_elt T.F_law_raised T.b_law_raised sc_law_raised (fun _ _ _ _ _ => rfl) T.m_law_raised rfl (by exact Or.inl rfl) (gives_law_raised T L 6) gd hr (fun _ _ _ _ _ => (pv 13)))) (pe_op op_rep (pe_lst (pa_cons (pe_tup (pa_cons pe_str (pa_cons (pv 7) pa_nil))) pa_nil)) pe_int) (nomark _)) (pss_one (ps_ret pe_bl)) pss_nil) (pss_cons (ps_set (i := 11) sc_law_check.nd rfl (Or.inl rfl) (pe_lst (pa_cons (CG.pe_lamK (k := 6) L.tb_law_check rfl (fun A outer s H E f c hr => (pe_call (okX_reach T) (hr.mono (by decide)) rfl T.m_reach T.F_reach.kp T.b_reach .nil (passes_call (takes_of rfl rfl rfl rfl) (fun _ _ _ _ h => h)) (pa_cons (pv 2) (pa_cons (pe_lst (pa_cons (pv 3) pa_nil)) (pa_cons (pv 8) pa_nil))))) (show LamX.LamS (defScope s_law_check) _ from LamX.lamS_by (by decide +kernel))) pa_nil))) (pss_cons (ps_expr (pe_bm PySem.F.plainAttrs_list PySem.F.slot_list_append PySem.F.type_list_append mt_append (pv 11) (pa_cons (CG.pe_lamK (k := 6) L.tb_law_check rfl (fun A outer s H E f c hr => (pe_call (okX_check_witness T) (hr.mono (by decide)) rfl T.m_check_witness T.F_check_witness.kp T.b_check_witness .nil (passes_call (takes_of rfl rfl rfl rfl) (fun _ _ _ _ h => h)) (pa_cons (pv 2) (pa_cons (pe_tup (pa_cons (pv 3) (pa_cons (pv 4) pa_nil))) (pa_cons (pv 8) (pa_cons (pv 10) pa_nil)))))) (show LamX.LamS (defScope s_law_check) _ from LamX.lamS_by (by decide +kernel))) pa_nil))) (pss_cons (ps_expr (pe_bm PySem.F.plainAttrs_list PySem.F.slot_list_append PySem.F.type_list_append mt_append (pv 11) (pa_cons (CG.pe_lamK (k := 6) L.tb_law_check rfl (fun A outer s H E f c hr => (pe_call (okX_value T) (hr.mono (by decide)) rfl T.m_value T.F_value.kp T.b_value .nil (passes_call (takes_of rfl rfl rfl rfl) (fun _ _ _ _ h => h)) (pa_cons (pv 2) (pa_cons (pe_tup (pa_cons pe_int (pa_cons (pv 3) (pa_cons pe_int pa_nil)))) (pa_cons (pv 8) pa_nil))))) (show LamX.LamS (defScope s_law_check) _ from LamX.lamS_by (by decide +kernel))) pa_nil))) (pss_cons (ps_if (pt_cmpR (r := rNeD K) (op_neD hr.units) (CG.pe_lcM (own := [("_law_attempt", 13)]) (g := (gName 13)) rfl sc_law_check.nd (pi_list (pv 11)) (blkOk_by (N := N_law_check) (sc := defScope s_law_check) (by decide +kernel)) (fun _ _ _ _ _ => (pg_name (i := 13) sc_law_check.nd rfl (Or.inl rfl))) (CG.said_elt T.F_law_raised T.b_law_raised sc_law_raised (fun _ _ _ _ _ => rfl) T.m_law_raised rfl (by exact Or.inl rfl) (gives_law_raised T L 6) gd hr (fun _ _ _ _ _ => (pv 13)))) (pe_op op_rep (pe_lst (pa_cons (pe_tup (pa_cons pe_str (pa_cons (pe_callB (r := CG.rReprA K) (CG.cr_reprA L.sysb gd (have z := u65 hr; z)) (by rfl) T.z_repr (by decide +kernel) (pa_cons (pv 8) pa_nil)) pa_nil))) pa_nil)) pe_int) (nomark _)) (pss_one (ps_ret pe_bl)) pss_nil) (pss_cons (ps_set (i := 11) sc_law_check.nd rfl (Or.inl rfl) (pe_lst (pa_cons (CG.pe_lamK (k := 6) L.tb_law_check rfl (fun A outer s H E f c hr => (pe_call (okX_check_witness T) (hr.mono (by decide)) rfl T.m_check_witness T.F_check_witness.kp T.b_check_witness .nil (passes_call (takes_of rfl rfl rfl rfl) (fun _ _ _ _ h => h)) (pa_cons (pv 2) (pa_cons (pe_lst (pa_cons (pv 3) pa_nil)) (pa_cons (pv 4) (pa_cons (pv 10) pa_nil)))))) (show LamX.LamS (defScope s_law_check) _ from LamX.lamS_by (by decide +kernel))) pa_nil))) (pss_cons (ps_expr (pe_bm PySem.F.plainAttrs_list PySem.F.slot_list_append PySem.F.type_list_append mt_append (pv 11) (pa_cons (CG.pe_lamK (k := 6) L.tb_law_check rfl (fun A outer s H E f c hr => (pe_call (okX_value T) (hr.mono (by decide)) rfl T.m_value T.F_value.kp T.b_value .nil (passes_call (takes_of rfl rfl rfl rfl) (fun _ _ _ _ h => h)) (pa_cons (pv 2) (pa_cons (pv 10) (pa_cons (pv 8) pa_nil))))) (show LamX.LamS (defScope s_law_check) _ from LamX.lamS_by (by decide +kernel))) pa_nil))) (pss_one (ps_ret (pe_cmpR (r := rEqD K) (op_eqD hr.units) (CG.pe_lcM (own := [("_law_attempt", 13)]) (g := (gName 13)) rfl sc_law_check.nd (pi_list (pv 11)) (blkOk_by (N := N_law_check) (sc := defScope s_law_check) (by decide +kernel)) (fun _ _ _ _ _ => (pg_name (i := 13) sc_law_check.nd rfl (Or.inl rfl))) (CG.said_elt T.F_law_raised T.b_law_raised sc_law_raised (fun _ _ _ _ _ => rfl) T.m_law_raised rfl (by exact Or.inl rfl) (gives_law_raised T L 6) gd hr (fun _ _ _ _ _ => (pv 13)))) (pe_op op_rep (pe_lst (pa_cons (pe_tup (pa_cons pe_str (pa_cons (pe_un un_neg pe_int) pa_nil))) pa_nil)) pe_int) (nomark _))))))))))))))))))))))))))), ?_⟩
    refine ⟨slen rfl, ?_⟩
    (intro a1 na1; generalize hGa1 : upd _ a1 _ = H1; have eH1 := exG hGa1 na1; have ha1 := atG hGa1; clear hGa1)
    refine ⟨slen rfl, ?_⟩
    (intro a2 na2; generalize hGa2 : upd _ a2 _ = H2; have eH2 := exG hGa2 na2; have ha2 := atG hGa2; clear hGa2)
    refine ⟨slen rfl, ?_⟩
    (intro a3 na3; generalize hGa3 : upd _ a3 _ = H3; have eH3 := exG hGa3 na3; have ha3 := atG hGa3; clear hGa3)
    refine ⟨_, _, rfl, rfl, ⟨by decide, by decide, by decide⟩, slen rfl, ?_⟩
    (intro a4 na4; generalize hGa4 : upd _ a4 _ = H4; have eH4 := exG hGa4 na4; have ha4 := atG hGa4; clear hGa4)
    refine ⟨slen rfl, ?_⟩
    (intro a5 na5; generalize hGa5 : upd _ a5 _ = H5; have eH5 := exG hGa5 na5; have ha5 := atG hGa5; clear hGa5)
    refine ⟨slen rfl, ?_⟩
    (intro al nal; generalize hGal : upd _ al _ = H6; have eH6 := exG hGal nal; have hal := atG hGal; clear hGal)
    have t2 := ext eH1 eH2
    have t4 := ext t2 (ext eH3 eH4)
    have t5 := ext t4 eH5
    have t6 := ext t5 eH6
    have u5 := ext eH5 eH6
    have u3 := ext (ext eH3 eH4) u5
    have na1 := src.ne na1
    have na2 := (src.mono eH1).ne na2
    have na3 := (src.mono t2).ne na3
    have na4 := (src.mono (ext t2 eH3)).ne na4
    have na5 := (src.mono t4).ne na5
    have nal := (src.mono t5).ne nal
    have src6 := src.mono t6
    have tabs6 := tabs.ext t6
    have all5 : ∀ v ∈ [V.ref a1, .ref a2, .ref a3, .ref a4, .ref a5], ∃ (l : Addr) (ns : List Int), v = .ref l ∧ l ≠ s ∧ H6 l = some (.lst (ns.map V.int)) ∧ ns ∈ [[9], [3, 6], [2, 15, 2], [3 ^ 30, 10], [1, 1, 1, 21]] := fun v hv => by
      simp only [List.mem_cons, List.not_mem_nil, or_false] at hv
      rcases hv with rfl | rfl | rfl | rfl | rfl
      · exact ⟨a1, [9], rfl, na1, (ext eH2 u3) _ _ ha1, by simp⟩
      · exact ⟨a2, [3, 6], rfl, na2, u3 _ _ ha2, by simp⟩
      · exact ⟨a3, [2, 15, 2], rfl, na3, (ext eH4 u5) _ _ ha3, by simp⟩
      · exact ⟨a4, [3 ^ 30, 10], rfl, na4, u5 _ _ ha4, by simp⟩
      · exact ⟨a5, [1, 1, 1, 21], rfl, na5, eH6 _ _ ha5, by simp⟩
    refine ⟨_, rfl, s, 5, rfl, src6, by decide, by decide +kernel, fun r G1 r0 r1 xb1 src1 => ?_⟩
    obtain ⟨j, rfl⟩ := Int.eq_ofNat_of_zero_le r0
    have jl : j < ([V.ref a1, .ref a2, .ref a3, .ref a4, .ref a5]).length := by show j < 5; omega
    have hj := List.getElem?_eq_getElem jl
    obtain ⟨l, ns, el, nls, hl6, five⟩ := all5 _ (List.getElem_mem jl)
    rw [el] at hj
    refine ⟨al, _, _, _, rfl, rfl, SqL.of (xb1 _ _ nal hal), atI_nn hj, ?_⟩
    have five := five_of five
    have ok := five.ok
    have hl := xb1 _ _ nls hl6
    have tabs1 := Tabs.xb tabs6 src6 xb1
    have X1 : XN s H0 G1 := (XN.of t6).trans (XN.xb xb1)
    clear all5 el hj jl hl6 ha1 ha2 ha3 ha4 ha5 hal t2 t4 t5 t6 u5 u3 eH1 eH2 eH3 eH4 eH5 eH6 tabs6 src6 tabs xb1 nal na1 na2 na3 na4 na5
    have l4 := ok.le
    have lp : 1 ≤ ns.length := by
      have := List.length_pos_iff.mpr ok.pos
      omega
    dsimp only [gName]
    show tSeq _ _ _ [_, _, _, _, _, _, _, _, _, _, _, _, _, _] _
    refine ⟨_, rfl, ?_⟩
    refine mk_tab (b := false) (show SqH G1 (false, l) _ from hl) ok fun bd G2 e2 nbd tab => ?_
    refine ⟨slen rfl, ?_⟩
    (intro z1 nz1; generalize hGz1 : upd _ z1 _ = G3; have eG3 := exG hGz1 nz1; have hz1 := atG hGz1; clear hGz1)
    refine ⟨_, rfl, l, _, rfl, .inl (SqL.of ((ext e2 eG3) _ _ hl)), rep_ints hz1 (by rw [List.length_map]; omega) (by rw [List.length_map]; omega) fun z G4 e4 hz => ⟨slen rfl, ?_⟩⟩
    rw [List.length_map, show ((ns.length : Nat) : Int).toNat = ns.length from rfl] at hz
    (intro tz ntz; generalize hGtz : upd _ tz _ = G5; have eG5 := exG hGtz ntz; have htz := atG hGtz; clear hGtz)
    refine ⟨tz, _, rfl, SqT.of htz, rfl, _, _, rfl, _, _, rfl, rfl, ?_⟩
    have E5 := ext e2 (ext eG3 (ext e4 eG5))
    have hl5 := E5 _ _ hl
    have hz5 := eG5 _ _ hz
    have tab5 := tab.mono (ext eG3 (ext e4 eG5))
    clear htz hz1 eG3 e4 eG5 hz tab
    dsimp only [gName]
    show tSeq _ _ _ [_, _, _, _, _, _, _, _, _, _, _, _, _, _] _
    refine ⟨_, rfl, l, rfl, ⟨_, SqL.of hl5⟩, fun D hD => ?_⟩
    refine lc_vals (walk_list (xs := ns.map V.int)) ((ns.map fun n => n - 1).map V.int) (by rw [List.length_map, List.length_map, List.length_map]) (by rw [List.length_map]; omega) hD (fun Hx e => SqL.of (e _ _ hl5)) ?_ gmono_name ?_
    · rintro i x Ha Hb R hi e ⟨rfl, hx⟩ kk
      obtain ⟨m, hm, rfl⟩ := map_get hx
      refine ⟨rfl, _, rfl, _, _, rfl, rfl, kk _ _ exr ?_⟩
      rw [List.getElem?_map, List.getElem?_map, hm]
      rfl
    intro HD eD hDD
    refine ⟨D, _, rfl, .inl ⟨SqL.of hDD, ?_⟩⟩
    (intro la nla; generalize hGla : upd _ la _ = G6; have eG6 := exG hGla nla; have hla := atG hGla; clear hGla)
    have E6 := ext eD eG6
    have hl6 := E6 _ _ hl5
    have hz6 := E6 _ _ hz5
    have tab6 := tab5.mono E6
    have src6 := (src1.mono E5).mono E6
    have tabs6 := (tabs1.ext E5).ext E6
    have X6 := X1.trans (XN.of (ext E5 E6))
    clear hDD hD eD eG6 E6 E5 tab5 hz5 hl5 tabs1 src1 X1 hl e2
    dsimp only [gName]
    show tSeq _ _ _ [_, _, _, _, _, _, _, _, _, _, _, _, _, _] _
    refine ⟨_, rfl, l, _, rfl, .inl ⟨SqL.of hl6, ?_⟩⟩
    (intro n3 nn3; generalize hGn3 : upd _ n3 _ = H1; have eH1 := exG hGn3 nn3; have hn3 := atG hGn3; clear hGn3)
    refine ⟨slen rfl, ?_⟩
    (intro n4 nn4; generalize hGn4 : upd _ n4 _ = H2; have eH2 := exG hGn4 nn4; have hn4 := atG hGn4; clear hGn4)
    refine fun n6 nn6 => ?_
    generalize hG : upd H2 n6 _ = H3
    have eH3 := exG hG nn6
    have hn6 := atG hG
    clear hG
    refine ⟨slen rfl, ?_⟩
    (intro nl nnl; generalize hGnl : upd _ nl _ = H4; have eH4 := exG hGnl nnl; have hnl := atG hGnl; clear hGnl)
    have t2 := ext eH1 eH2
    have t3 := ext t2 eH3
    have t4 := ext t3 eH4
    have nn4 := (src6.mono eH1).ne nn4
    have nnl := (src6.mono t3).ne nnl
    have src4 := src6.mono t4
    have dqN : DqAll (· ≠ s) H4 [V.non, .int 3, .ref n3, .ref n4, .str "table", .ref n6] [.none, .int 3, iT ns, .list [.int 9], .str "table", .dict []] :=
      .cons .non (.cons (.int 3) (.cons (Dq.ints ((ext eH2 (ext eH3 eH4)) _ _ hn3)) (.cons (.lst ((ext eH3 eH4) _ _ hn4) nn4 (.cons (.int 9) .nil)) (.cons (.str _) (.cons (.emp (eH4 _ _ hn6)) .nil)))))
    have shN : ∀ d ∈ [PyData.none, .int 3, iT ns, .list [.int 9], .str "table", .dict []], Shn d := fun d hd => by
      simp only [List.mem_cons, List.not_mem_nil, or_false] at hd
      rcases hd with rfl | rfl | rfl | rfl | rfl | rfl
      · exact shn_none
      · exact shn_of (s_int (by decide))
      · exact shn_tup (by rw [List.length_map]; omega) (s_ints five.bn)
      · exact shn_list (by simp) (fun d hd => by rw [List.mem_singleton.mp hd]; exact s_int (by decide))
      · exact shn_word (by decide +kernel) (by decide +kernel)
      · exact shn_emp
    refine ⟨_, rfl, s, 6, rfl, src4, by decide, by decide +kernel, fun r G1 r0 r1 xb1 src1 => ?_⟩
    obtain ⟨_, vN, dN, _, _, gN, _, mN, qN0⟩ := dqN.at r0 (by simpa using r1)
    have qN := qN0.xb src4 xb1
    have sN := shN dN mN
    refine ⟨nl, _, _, _, rfl, rfl, SqL.of (xb1 _ _ nnl hnl), gN, ?_⟩
    have XA : XN s G6 G1 := (XN.of t4).trans (XN.xb xb1)
    have hl1 := XA.lst nls hl6
    have hz1 := XA.tup src6 hz6
    have hla1 := XA.tup src6 (show G6 la = _ from hla)
    have tab1 := XA.tab src6 tab6
    have tabs1 := Tabs.xb (tabs6.ext t4) src4 xb1
    have X1 := X6.trans XA
    clear dqN shN gN mN qN0 xb1 src4 hn3 hn4 hn6 hnl nn4 nn6 t2 t3 t4 eH1 eH2 eH3 eH4 XA hl6 hz6 hla tab6 tabs6 X6 src6 nnl
    dsimp only [gName]
    show tSeq _ _ _ [_, _, _, _, _, _, _, _, _, _, _, _, _, _] _
    refine ⟨_, rfl, _, rfl, s, l, ns, rfl, src1, hl1, nls, ok, fun v G2 pg xb2 src2 => ?_⟩
    obtain ⟨pr, xB, iB, od, rfl, npr, hpr, bad⟩ := pg
    refine ⟨pr, _, rfl, SqL.of hpr, rfl, _, _, rfl, _, _, rfl, rfl, ?_⟩
    have hl2 := xb2 _ _ nls hl1
    have hz2 := tup_xb src1 hz1 xb2
    have hla2 := tup_xb src1 hla1 xb2
    have tab2 := (XN.xb xb2).tab src1 tab1
    have tabs2 := Tabs.xb tabs1 src1 xb2
    have X2 := X1.trans (XN.xb xb2)
    have qN2 := qN.xb src1 xb2
    clear hpr npr hl1 hz1 hla1 tab1 tabs1 X1 qN xb2 src1
    dsimp only [gName]
    show tSeq _ _ _ [_, _, _, _, _, _, _, _, _, _, _, _, _, _] _
    have lz : ((List.replicate ns.length (0 : Int)).map V.int).length = ns.length := by rw [List.length_map, List.length_replicate]
    refine ⟨_, rfl, z, _, rfl, .inr (SqT.of hz2), ?_⟩
    (intro o2 no2; generalize hGo2 : upd _ o2 _ = H1; have eH1 := exG hGo2 no2; have ho2 := atG hGo2; clear hGo2)
    refine ⟨_, rfl, l, _, rfl, .inl ⟨SqL.of (eH1 _ _ hl2), ?_⟩⟩
    (intro o3 no3; generalize hGo3 : upd _ o3 _ = H2; have eH2 := exG hGo3 no3; have ho3 := atG hGo3; clear hGo3)
    refine ⟨_, rfl, slen rfl, ?_⟩
    (intro y4 ny4; generalize hGy4 : upd _ y4 _ = H3; have eH3 := exG hGy4 ny4; have hy4 := atG hGy4; clear hGy4)
    have t3 := ext eH1 (ext eH2 eH3)
    refine cat_tup (t3 _ _ hz2) hy4 (by rw [lz]; simp; omega) fun o4 H4 e4 ho4 => ?_
    have t4 := ext t3 e4
    refine ⟨_, rfl, _, rfl, ?_⟩
    unfold tNoPart
    refine sl_ints (t4 _ _ hz2) fun o5 H5 e5 ho5 => ?_
    rw [show cutV ((List.replicate ns.length (0 : Int)).map V.int) (some 1) none = ((List.replicate ns.length (0 : Int)).map V.int).drop 1 from cut_from _ 1] at ho5
    refine fun o7 no7 => ?_
    generalize hG : upd H5 o7 _ = H6
    have eH6 := exG hG no7
    have ho7 := atG hG
    clear hG
    have t6 := ext t4 (ext e5 eH6)
    refine ⟨_, rfl, _, rfl, ?_⟩
    refine sl_ints (t6 _ _ hz2) fun y8 H7 e7 hy8 => ⟨slen rfl, ?_⟩
    rw [show cutV ((List.replicate ns.length (0 : Int)).map V.int) (some 1) none = ((List.replicate ns.length (0 : Int)).map V.int).drop 1 from cut_from _ 1] at hy8
    (intro y9 ny9; generalize hGy9 : upd _ y9 _ = H8; have eH8 := exG hGy9 ny9; have hy9 := atG hGy9; clear hGy9)
    refine cat_tup (eH8 _ _ hy8) hy9 (by rw [List.length_drop, lz]; simp; omega) fun o8 H9 e9 ho8 => ⟨slen rfl, ?_⟩
    (intro ol nol; generalize hGol : upd _ ol _ = HA; have eHA := exG hGol nol; have hol := atG hGol; clear hGol)
    have t9 := ext t6 (ext e7 (ext eH8 e9))
    have tA := ext t9 eHA
    have u9 := ext e7 (ext eH8 (ext e9 eHA))
    have u6 := ext eH6 u9
    have u4 := ext e5 u6
    have no2 := src2.ne no2
    have nol := (src2.mono t9).ne nol
    have srcA := src2.mono tA
    have zi := DqAll.ints (B := (· ≠ s)) (H := HA) (List.replicate ns.length (0 : Int))
    have zd : DqAll (· ≠ s) HA (((List.replicate ns.length (0 : Int)).map V.int).drop 1) (((List.replicate ns.length (0 : Int)).map PyData.int).drop 1) := by
      rw [← List.map_drop, ← List.map_drop]
      exact DqAll.ints _
    have dqW : DqAll (· ≠ s) HA [V.non, .ref o2, .ref o3, .ref o4, .ref o5, .int 7, .ref o7, .ref o8] [.none, .list ((List.replicate ns.length (0 : Int)).map PyData.int), iT ns, .tuple ((List.replicate ns.length (0 : Int)).map PyData.int ++ [.int 0]), .tuple (((List.replicate ns.length (0 : Int)).map PyData.int).drop 1), .int 7, .dict [], .tuple (((List.replicate ns.length (0 : Int)).map PyData.int).drop 1 ++ [.bool true])] :=
      .cons .non (.cons (.lst ((ext eH2 (ext eH3 (ext e4 u4))) _ _ ho2) no2 zi) (.cons (Dq.ints ((ext eH3 (ext e4 u4)) _ _ ho3)) (.cons (.tup (u4 _ _ ho4) (zi.app (.cons (.int 0) .nil))) (.cons (.tup (u6 _ _ ho5) zd) (.cons (.int 7) (.cons (.emp (u9 _ _ ho7)) (.cons (.tup (eHA _ _ ho8) (zd.app (.cons (.bl true) .nil))) .nil)))))))
    have s_drop : ∀ d ∈ ((List.replicate ns.length (0 : Int)).map PyData.int).drop 1, Sx 1 2000 d ∧ Sk d.shown := fun d hd => s_zeros d (List.mem_of_mem_drop hd)
    have ld : (((List.replicate ns.length (0 : Int)).map PyData.int).drop 1).length = ns.length - 1 := by rw [List.length_drop, List.length_map, List.length_replicate]
    have shW : ∀ d ∈ [PyData.none, .list ((List.replicate ns.length (0 : Int)).map PyData.int), iT ns, .tuple ((List.replicate ns.length (0 : Int)).map PyData.int ++ [.int 0]), .tuple (((List.replicate ns.length (0 : Int)).map PyData.int).drop 1), .int 7, .dict [], .tuple (((List.replicate ns.length (0 : Int)).map PyData.int).drop 1 ++ [.bool true])], Shn d ∧ isSeatO ns (oT d) = false ∧ ShortT d := fun d hd => by
      simp only [List.mem_cons, List.not_mem_nil, or_false] at hd
      rcases hd with rfl | rfl | rfl | rfl | rfl | rfl | rfl | rfl
      · exact ⟨shn_none, rfl, short_no rfl⟩
      · exact ⟨shn_list (by rw [List.length_map, List.length_replicate]; omega) s_zeros, rfl, short_no rfl⟩
      · exact ⟨shn_tup (by rw [List.length_map]; omega) (s_ints five.bn), not_seat_sizes ok.pos, short_tup (by rw [List.length_map]; omega)⟩
      · exact ⟨shn_tup (by rw [List.length_append, List.length_map, List.length_replicate]; simp; omega) (s_snoc s_zeros (s_int (by decide))), not_seat_len (by rw [List.length_append, List.length_map, List.length_replicate]; simp), short_tup (by rw [List.length_append, List.length_map, List.length_replicate]; simp; omega)⟩
      · exact ⟨shn_tup (by omega) s_drop, not_seat_len (by omega), short_tup (by omega)⟩
      · exact ⟨shn_of (s_int (by decide)), rfl, short_no rfl⟩
      · exact ⟨shn_emp, rfl, short_no rfl⟩
      · exact ⟨shn_tup (by rw [List.length_append, ld]; simp; omega) (s_snoc s_drop (s_bool true)), not_seat_odd (e := .bool true) (by simp) rfl, short_tup (by rw [List.length_append, ld]; simp; omega)⟩
    have tabsA := tabs2.ext tA
    refine ⟨_, rfl, s, 8, rfl, srcA, by decide, by decide +kernel, fun r G3 r0 r1 xb3 src3 => ?_⟩
    obtain ⟨_, vW, dW, _, _, gW, _, mW, qW0⟩ := dqW.at r0 (by simpa using r1)
    have qW := qW0.xb srcA xb3
    obtain ⟨sW, wbad, wsh⟩ := shW dW mW
    refine ⟨ol, _, _, _, rfl, rfl, SqL.of (xb3 _ _ nol hol), gW, ?_⟩
    have xb23 : XB s G2 G3 := (XB.of tA).trans xb3
    have hz3 := tup_xb src2 hz2 xb23
    have hla3 := tup_xb src2 hla2 xb23
    have tab3 := (XN.xb xb23).tab src2 tab2
    have tabs3 := Tabs.xb tabsA srcA xb3
    have X3 := X2.trans (XN.xb xb23)
    have qN3 := qN2.xb src2 xb23
    have bad3 := bad.xb src2 xb23
    clear dqW shW gW mW qW0 zi zd s_drop ld ho2 ho3 ho4 ho5 ho7 ho8 hy4 hy8 hy9 hol t3 t4 t6 t9 tA u9 u6 u4 eH1 eH2 eH3 e4 e5 eH6 e7 eH8 e9 eHA no2 nol no7 srcA tabsA xb3 xb23 hz2 hla2 hl2 tab2 tabs2 X2 qN2 bad src2
    dsimp only [gName]
    show tSeq _ _ _ [_, _, _, _, _, _, _, _, _, _, _, _, _, _] _
    refine ⟨slen rfl, ?_⟩
    (intro b2 nb2; generalize hGb2 : upd _ b2 _ = H1; have eH1 := exG hGb2 nb2; have hb2 := atG hGb2; clear hGb2)
    refine ⟨_, rfl, slen rfl, ?_⟩
    (intro b3 nb3; generalize hGb3 : upd _ b3 _ = H2; have eH2 := exG hGb3 nb3; have hb3 := atG hGb3; clear hGb3)
    refine ⟨_, rfl, slen rfl, ?_⟩
    (intro b4 nb4; generalize hGb4 : upd _ b4 _ = H3; have eH3 := exG hGb4 nb4; have hb4 := atG hGb4; clear hGb4)
    refine ⟨_, rfl, slen rfl, ?_⟩
    (intro b5 nb5; generalize hGb5 : upd _ b5 _ = H4; have eH4 := exG hGb5 nb5; have hb5 := atG hGb5; clear hGb5)
    have t4 := ext (ext eH1 eH2) (ext eH3 eH4)
    refine ⟨_, rfl, z, _, rfl, .inr (SqT.of (t4 _ _ hz3)), ?_⟩
    (intro lz6 nlz6; generalize hGlz6 : upd _ lz6 _ = H5; have eH5 := exG hGlz6 nlz6; have hlz6 := atG hGlz6; clear hGlz6)
    refine ⟨slen rfl, ?_⟩
    (intro b6 nb6; generalize hGb6 : upd _ b6 _ = H6; have eH6 := exG hGb6 nb6; have hb6 := atG hGb6; clear hGb6)
    refine ⟨_, rfl, slen rfl, ?_⟩
    (intro b7 nb7; generalize hGb7 : upd _ b7 _ = H7; have eH7 := exG hGb7 nb7; have hb7 := atG hGb7; clear hGb7)
    refine ⟨slen rfl, ?_⟩
    (intro bl nbl; generalize hGbl : upd _ bl _ = H8; have eH8 := exG hGbl nbl; have hbl := atG hGbl; clear hGbl)
    have t7 := ext t4 (ext eH5 (ext eH6 eH7))
    have t8 := ext t7 eH8
    have u4 := ext (ext eH5 eH6) (ext eH7 eH8)
    have nb4 := (src3.mono (ext eH1 eH2)).ne nb4
    have nlz6 := (src3.mono t4).ne nlz6
    have nbl := (src3.mono t7).ne nbl
    have src8 := src3.mono t8
    have zi : DqAll (· ≠ s) H8 ((List.replicate ns.length (0 : Int)).map V.int) ((List.replicate ns.length (0 : Int)).map PyData.int) := DqAll.ints _
    have zq : Dq (· ≠ s) H8 (.ref z) (iT (List.replicate ns.length 0)) := Dq.ints (t8 _ _ hz3)
    have dqS : DqAll (· ≠ s) H8 [V.non, .ref b2, .ref b3, .ref b4, .ref b5, .ref b6, .ref b7] [.none, .tuple [.int 3], .tuple [.int 2, iT (List.replicate ns.length 0), .int 0], .list [.int 3, iT (List.replicate ns.length 0), .int 0], .tuple [.int 3, iT (List.replicate ns.length 0), .int 3], .tuple [.int 3, .list ((List.replicate ns.length (0 : Int)).map PyData.int), .int 0], .tuple [.bool true, iT (List.replicate ns.length 0), .int 0]] :=
      .cons .non (.cons (.tup ((ext eH2 (ext (ext eH3 eH4) u4)) _ _ hb2) (.cons (.int 3) .nil)) (.cons (.tup ((ext (ext eH3 eH4) u4) _ _ hb3) (.cons (.int 2) (.cons zq (.cons (.int 0) .nil)))) (.cons (.lst ((ext eH4 u4) _ _ hb4) nb4 (.cons (.int 3) (.cons zq (.cons (.int 0) .nil)))) (.cons (.tup (u4 _ _ hb5) (.cons (.int 3) (.cons zq (.cons (.int 3) .nil)))) (.cons (.tup ((ext eH7 eH8) _ _ hb6) (.cons (.int 3) (.cons (.lst ((ext eH6 (ext eH7 eH8)) _ _ hlz6) nlz6 zi) (.cons (.int 0) .nil)))) (.cons (.tup (eH8 _ _ hb7) (.cons (.bl true) (.cons zq (.cons (.int 0) .nil)))) .nil))))))
    have noS : ∀ d ∈ [PyData.none, .tuple [.int 3], .tuple [.int 2, iT (List.replicate ns.length 0), .int 0], .list [.int 3, iT (List.replicate ns.length 0), .int 0], .tuple [.int 3, iT (List.replicate ns.length 0), .int 3], .tuple [.int 3, .list ((List.replicate ns.length (0 : Int)).map PyData.int), .int 0], .tuple [.bool true, iT (List.replicate ns.length 0), .int 0]], NoWit ns d := fun d hd => by
      have i3 : ∀ m, intD (.int 3) = some m → m.natAbs < 2 ^ 5000 := fun m e => by
        obtain rfl := Option.some.inj e
        exact Nat.lt_of_lt_of_le (show (3 : Int).natAbs < 2 ^ 2 by decide) (Nat.pow_le_pow_right (by decide) (by decide))
      simp only [List.mem_cons, List.not_mem_nil, or_false] at hd
      rcases hd with rfl | rfl | rfl | rfl | rfl | rfl | rfl
      · exact nowit_any rfl (fun a b c z => PyData.noConfusion z)
      · exact nowit_any rfl (fun a b c z => by injection z with z; cases z)
      · exact nowit_three rfl (fun m e => by
          obtain rfl := Option.some.inj e
          exact Nat.lt_of_lt_of_le (show (2 : Int).natAbs < 2 ^ 2 by decide) (Nat.pow_le_pow_right (by decide) (by decide)))
      · exact nowit_any rfl (fun a b c z => PyData.noConfusion z)
      · exact nowit_three rfl i3
      · exact nowit_three rfl i3
      · exact nowit_three rfl (fun m e => by cases e)
    have tabs8 := tabs3.ext t8
    dsimp only [gName]
    show tSeq _ _ _ [_, _, _, _, _, _, _, _, _, _, _, _, _, _] _
    refine ⟨_, rfl, _, rfl, s, 7, rfl, src8, by decide, by decide +kernel, fun r G4 r0 r1 xb4 src4 => ?_⟩
    obtain ⟨_, vS, dS, _, _, gS, _, mS, qS0⟩ := dqS.at r0 (by simpa using r1)
    have qS := qS0.xb src8 xb4
    have wS := noS dS mS
    refine ⟨bl, _, _, _, rfl, rfl, SqL.of (xb4 _ _ nbl hbl), gS, ?_⟩
    have xb34 : XB s G3 G4 := (XB.of t8).trans xb4
    have hz := tup_xb src3 hz3 xb34
    have hla := tup_xb src3 hla3 xb34
    have tab := (XN.xb xb34).tab src3 tab3
    have tabs := Tabs.xb tabs8 src8 xb4
    have X4 := X3.trans (XN.xb xb34)
    have qN := qN3.xb src3 xb34
    have qW := qW.xb src3 xb34
    have bad := bad3.xb src3 xb34
    clear dqS noS gS mS qS0 zi zq hb2 hb3 hb4 hb5 hb6 hb7 hlz6 hbl t4 t7 t8 u4 eH1 eH2 eH3 eH4 eH5 eH6 eH7 eH8 nb4 nlz6 nbl src8 tabs8 tabs3 xb4 xb34 hz3 hla3 tab3 X3 qN3 bad3 src3
    have bn5 : ∀ n ∈ ns, n.natAbs < 2 ^ 5000 := fun n hn => Nat.lt_of_lt_of_le (five.bn n hn) (Nat.pow_le_pow_right (by decide) (by decide))
    dsimp only [gName]
    show tSeq _ _ _ [_, _, _, _, _, _, _, _, _, _, _, _, _, _] _
    have kno : ∀ t ∈ ["NoneType", "bool", "int", "str", "list", "tuple", "dict"], PySem.W.kitOne K (.type t) (.ref T.C_Table) = some false := fun t ht => by
      simp only [List.mem_cons, List.not_mem_nil, or_false] at ht
      rcases ht with rfl | rfl | rfl | rfl | rfl | rfl | rfl
      · exact CG.kit1 T.ki_NoneType_Table
      · exact CG.kit1 T.ki_bool_Table
      · exact CG.kit1 T.ki_int_Table
      · exact CG.kit1 T.ki_str_Table
      · exact CG.kit1 T.ki_list_Table
      · exact CG.kit1 T.ki_tuple_Table
      · exact CG.kit1 T.ki_dict_Table
    have tabs1 := tabs
    refine ⟨tabs1, fun f1 Ga en1 tba nf1 lam1 => ?_⟩
    refine ⟨slen rfl, ?_⟩
    (intro a1 na1; generalize hGa1 : upd _ a1 _ = Gb; have eGb := exG hGa1 na1; have ha1 := atG hGa1; clear hGa1)
    have EAb : EA a1 G4 Gb := EA.start en1 na1 eGb
    have tbb := tba.ext eGb
    have lam1 := lam_mono eGb lam1
    have hab := ha1
    clear ha1 eGb na1 tba en1
    dsimp only [gName]
    show tSeq _ _ _ [_, _, _, _, _, _, _, _, _, _, _, _, _, _] _
    refine ⟨_, rfl, .inl ⟨rfl, _, SqL.of hab⟩, tbb, fun f2 Gc en tbc nf2 lam2 => ?_⟩
    have hac := en _ _ hab (fun _ z => nomatch z)
    have lam1 := lam1.ext en
    refine ⟨a1, _, _, rfl, rfl, hac, (by show 1 < sizeLine; decide), ?_⟩
    have lam1 := lam_updl (ys := [V.ref f1, V.ref f2]) hac lam1
    have lam2 := lam_updl (ys := [V.ref f1, V.ref f2]) hac lam2
    have tbd := tabs_updl (ys := [V.ref f1, V.ref f2]) hac tbc
    have EAd := (EAb.ext en).upd (o := .lst [V.ref f1, V.ref f2])
    replace EAb := EAd
    replace tbb := tbd
    have had : upd Gc a1 (.lst [V.ref f1, V.ref f2]) a1 = some (.lst [V.ref f1, V.ref f2]) := upd_same
    replace hab := had
    clear hac had en tbc tbd EAd
    show tSeq _ _ _ [_, _, _, _, _, _, _, _, _, _, _, _, _, _] (upd Gc a1 (.lst [V.ref f1, V.ref f2]))
    generalize upd Gc a1 (.lst [V.ref f1, V.ref f2]) = Gd at *
    refine ⟨_, rfl, .inl ⟨rfl, _, SqL.of hab⟩, tbb, fun f3 Gc en tbc nf3 lam3 => ?_⟩
    have hac := en _ _ hab (fun _ z => nomatch z)
    have lam1 := lam1.ext en
    have lam2 := lam2.ext en
    refine ⟨a1, _, _, rfl, rfl, hac, (by show 2 < sizeLine; decide), ?_⟩
    have lam1 := lam_updl (ys := [V.ref f1, V.ref f2, V.ref f3]) hac lam1
    have lam2 := lam_updl (ys := [V.ref f1, V.ref f2, V.ref f3]) hac lam2
    have lam3 := lam_updl (ys := [V.ref f1, V.ref f2, V.ref f3]) hac lam3
    have tbd := tabs_updl (ys := [V.ref f1, V.ref f2, V.ref f3]) hac tbc
    have EAd := (EAb.ext en).upd (o := .lst [V.ref f1, V.ref f2, V.ref f3])
    replace EAb := EAd
    replace tbb := tbd
    have had : upd Gc a1 (.lst [V.ref f1, V.ref f2, V.ref f3]) a1 = some (.lst [V.ref f1, V.ref f2, V.ref f3]) := upd_same
    replace hab := had
    clear hac had en tbc tbd EAd
    show tSeq _ _ _ [_, _, _, _, _, _, _, _, _, _, _, _, _, _] (upd Gc a1 (.lst [V.ref f1, V.ref f2, V.ref f3]))
    generalize upd Gc a1 (.lst [V.ref f1, V.ref f2, V.ref f3]) = Gd at *
    refine ⟨_, rfl, .inl ⟨rfl, _, SqL.of hab⟩, tbb, fun f4 Gc en tbc nf4 lam4 => ?_⟩
    have hac := en _ _ hab (fun _ z => nomatch z)
    have lam1 := lam1.ext en
    have lam2 := lam2.ext en
    have lam3 := lam3.ext en
    refine ⟨a1, _, _, rfl, rfl, hac, (by show 3 < sizeLine; decide), ?_⟩
    have lam1 := lam_updl (ys := [V.ref f1, V.ref f2, V.ref f3, V.ref f4]) hac lam1
    have lam2 := lam_updl (ys := [V.ref f1, V.ref f2, V.ref f3, V.ref f4]) hac lam2
    have lam3 := lam_updl (ys := [V.ref f1, V.ref f2, V.ref f3, V.ref f4]) hac lam3
    have lam4 := lam_updl (ys := [V.ref f1, V.ref f2, V.ref f3, V.ref f4]) hac lam4
    have tbd := tabs_updl (ys := [V.ref f1, V.ref f2, V.ref f3, V.ref f4]) hac tbc
    have EAd := (EAb.ext en).upd (o := .lst [V.ref f1, V.ref f2, V.ref f3, V.ref f4])
    replace EAb := EAd
    replace tbb := tbd
    have had : upd Gc a1 (.lst [V.ref f1, V.ref f2, V.ref f3, V.ref f4]) a1 = some (.lst [V.ref f1, V.ref f2, V.ref f3, V.ref f4]) := upd_same
    replace hab := had
    clear hac had en tbc tbd EAd
    show tSeq _ _ _ [_, _, _, _, _, _, _, _, _, _, _, _, _, _] (upd Gc a1 (.lst [V.ref f1, V.ref f2, V.ref f3, V.ref f4]))
    generalize upd Gc a1 (.lst [V.ref f1, V.ref f2, V.ref f3, V.ref f4]) = Gd at *
    refine ⟨_, rfl, a1, rfl, ⟨_, SqL.of hab⟩, fun D hD => ?_⟩
    refine lc_new Pd2 pd2_mono (walk_list (xs := [V.ref f1, V.ref f2, V.ref f3, V.ref f4])) (List.replicate 4 (.tuple [.str "table", .str dN.shown])) rfl (by show 4 ≤ 10000000; decide) hD (fun Hx e => SqL.of (e _ _ hab)) ?_ gmono_name ?_
    · rintro i x a Ha Hb R hia ex ⟨rfl, hx⟩ kk
      obtain rfl : a = .tuple [.str "table", .str dN.shown] := by
        have := List.mem_of_getElem? hia
        exact List.eq_of_mem_replicate this
      have il : i < 4 := (List.getElem?_eq_some_iff.mp hx).1
      have XI : XN s G4 Hb := EAb.xn.trans (XN.of ex)
      have qNa := qN.xn src4 XI
      have qWa := qW.xn src4 XI
      have qSa := qS.xn src4 XI
      have bada := bad.xn src4 XI
      have taba := XI.tab src4 tab
      have hza := XI.tup src4 hz
      have hlaa := XI.tup src4 hla
      have srca := (EAb.src (s := s) src4).mono ex
      refine ⟨rfl, _, rfl, ?_⟩
      have i4 : i = 0 ∨ i = 1 ∨ i = 2 ∨ i = 3 := by omega
      rcases i4 with rfl | rfl | rfl | rfl
      · obtain rfl : V.ref f1 = x := Option.some.inj hx
        refine ⟨f1, _, rfl, lam_mono ex lam1, ?_⟩
        refine ⟨_, rfl, _, rfl, vN, xB, rfl, .inl ⟨qNa.noTab kno, rai_tab (qNa.shA sN.1 (by decide) (by decide)) (fun G r e t => kk _ _ e ⟨r, "table", _, _, rfl, t, rfl, sk_of _, .inl ⟨_, rfl, rfl, sN.2⟩⟩)⟩⟩
      · obtain rfl : V.ref f2 = x := Option.some.inj hx
        refine ⟨f2, _, rfl, lam_mono ex lam2, ?_⟩
        refine ⟨_, rfl, _, rfl, _, rfl, vN, xB, vW, rfl, .inl ⟨qNa.noTab kno, rai_tab (qNa.shA sN.1 (by decide) (by decide)) (fun G r e t => kk _ _ e ⟨r, "table", _, _, rfl, t, rfl, sk_of _, .inl ⟨_, rfl, rfl, sN.2⟩⟩)⟩⟩
      · obtain rfl : V.ref f3 = x := Option.some.inj hx
        refine ⟨f3, _, rfl, lam_mono ex lam3, ?_⟩
        refine ⟨_, rfl, _, rfl, _, rfl, _, rfl, vN, xB, vW, vS, rfl, .inl ⟨qNa.noTab kno, rai_tab (qNa.shA sN.1 (by decide) (by decide)) (fun G r e t => kk _ _ e ⟨r, "table", _, _, rfl, t, rfl, sk_of _, .inl ⟨_, rfl, rfl, sN.2⟩⟩)⟩⟩
      · obtain rfl : V.ref f4 = x := Option.some.inj hx
        refine ⟨f4, _, rfl, lam_mono ex lam4, ?_⟩
        refine ⟨_, rfl, _, rfl, _, rfl, vN, vS, vW, rfl, .inl ⟨qNa.noTab kno, rai_tab (qNa.shA sN.1 (by decide) (by decide)) (fun G r e t => kk _ _ e ⟨r, "table", _, _, rfl, t, rfl, sk_of _, .inl ⟨_, rfl, rfl, sN.2⟩⟩)⟩⟩
    intro Hd ys ed hyd pd
    refine ⟨_, rfl, vN, dN, rfl, (qN.xn src4 (EAb.xn.trans (XN.of ed))).de, sN.1.sh, Nat.le_trans sN.1.len (by decide), Nat.le_trans sN.1.dep (by decide), slen rfl, ?_⟩
    (intro r1 nr1; generalize hGr1 : upd _ r1 _ = He; have eHe := exG hGr1 nr1; have hr1 := atG hGr1; clear hGr1)
    refine ⟨slen rfl, ?_⟩
    (intro r2 nr2; generalize hGr2 : upd _ r2 _ = Hf; have eHf := exG hGr2 nr2; have hr2 := atG hGr2; clear hGr2)
    refine ⟨r2, 4, _, rfl, rfl, hr2, by decide, by decide, by show 1 * 4 ≤ sizeLine; decide, ?_⟩
    (intro r3 nr3; generalize hGr3 : upd _ r3 _ = Hg1; have eHg1 := exG hGr3 nr3; have hr3 := atG hGr3; clear hGr3)
    have el := ext eHe (ext eHf eHg1)
    have pdl := pd2_all (K := K) (paired_mono (fun v a q => pd2_mono Hd Hg1 v a (fun c ws z => el _ _ z) q) pd)
    have r1g : Pd2 Hg1 (.ref r1) (.tuple [.str "table", .str dN.shown]) := ⟨r1, _, _, _, rfl, (ext eHf eHg1) _ _ hr1, rfl, sk_of _, .inl ⟨_, rfl, rfl, sN.2⟩⟩
    have pdr := pd2_all (K := K) (vs := [V.ref r1, V.ref r1, V.ref r1, V.ref r1]) (ds := List.replicate 4 (.tuple [.str "table", .str dN.shown])) (.cons r1g (.cons r1g (.cons r1g (.cons r1g (.nil)))))
    have shl : Sh 60 (PyData.list (List.replicate 4 (.tuple [.str "table", .str dN.shown]))) := (sh_list (n := 3) pdr.2).up (by decide)
    refine ⟨_, _, .lst (SqL.of (el _ _ hyd)) pdl.1, .lst (SqL.of hr3) pdr.1, shl.ok, shl.ok, _, rfl, itf (by rw [eqv_same shl]) ?_⟩
    dsimp only [tNext]
    have tabsE1 := (tbb.ext ed).ext el
    have X2b : XN s G4 Hg1 := (EAb.xn.trans (XN.of (ext ed el)))
    have srcE1 : Src Hg1 s := ((EAb.src src4).mono ed).mono el
    clear pdl pdr r1g hr1 hr2 hr3 shl hyd pd ed el eHe eHf eHg1 nr1 nr2 nr3 hD hab EAb tbb lam1 nf1 lam2 nf2 lam3 nf3 lam4 nf4
    show tSeq _ _ _ [_, _, _, _, _, _, _, _, _, _, _, _, _, _] _
    have tabs2 := tabsE1
    refine ⟨tabs2, fun f1 Ga en1 tba nf1 lam1 => ?_⟩
    refine ⟨slen rfl, ?_⟩
    (intro a2 na2; generalize hGa2 : upd _ a2 _ = Gb; have eGb := exG hGa2 na2; have ha2 := atG hGa2; clear hGa2)
    have EAb : EA a2 Hg1 Gb := EA.start en1 na2 eGb
    have tbb := tba.ext eGb
    have lam1 := lam_mono eGb lam1
    have hab := ha2
    clear ha2 eGb na2 tba en1
    dsimp only [gName]
    show tSeq _ _ _ [_, _, _, _, _, _, _, _, _, _, _, _, _, _] _
    refine ⟨_, rfl, .inl ⟨rfl, _, SqL.of hab⟩, tbb, fun f2 Gc en tbc nf2 lam2 => ?_⟩
    have hac := en _ _ hab (fun _ z => nomatch z)
    have lam1 := lam1.ext en
    refine ⟨a2, _, _, rfl, rfl, hac, (by show 1 < sizeLine; decide), ?_⟩
    have lam1 := lam_updl (ys := [V.ref f1, V.ref f2]) hac lam1
    have lam2 := lam_updl (ys := [V.ref f1, V.ref f2]) hac lam2
    have tbd := tabs_updl (ys := [V.ref f1, V.ref f2]) hac tbc
    have EAd := (EAb.ext en).upd (o := .lst [V.ref f1, V.ref f2])
    replace EAb := EAd
    replace tbb := tbd
    have had : upd Gc a2 (.lst [V.ref f1, V.ref f2]) a2 = some (.lst [V.ref f1, V.ref f2]) := upd_same
    replace hab := had
    clear hac had en tbc tbd EAd
    show tSeq _ _ _ [_, _, _, _, _, _, _, _, _, _, _, _, _, _] (upd Gc a2 (.lst [V.ref f1, V.ref f2]))
    generalize upd Gc a2 (.lst [V.ref f1, V.ref f2]) = Gd at *
    refine ⟨_, rfl, .inl ⟨rfl, _, SqL.of hab⟩, tbb, fun f3 Gc en tbc nf3 lam3 => ?_⟩
    have hac := en _ _ hab (fun _ z => nomatch z)
    have lam1 := lam1.ext en
    have lam2 := lam2.ext en
    refine ⟨a2, _, _, rfl, rfl, hac, (by show 2 < sizeLine; decide), ?_⟩
    have lam1 := lam_updl (ys := [V.ref f1, V.ref f2, V.ref f3]) hac lam1
    have lam2 := lam_updl (ys := [V.ref f1, V.ref f2, V.ref f3]) hac lam2
    have lam3 := lam_updl (ys := [V.ref f1, V.ref f2, V.ref f3]) hac lam3
    have tbd := tabs_updl (ys := [V.ref f1, V.ref f2, V.ref f3]) hac tbc
    have EAd := (EAb.ext en).upd (o := .lst [V.ref f1, V.ref f2, V.ref f3])
    replace EAb := EAd
    replace tbb := tbd
    have had : upd Gc a2 (.lst [V.ref f1, V.ref f2, V.ref f3]) a2 = some (.lst [V.ref f1, V.ref f2, V.ref f3]) := upd_same
    replace hab := had
    clear hac had en tbc tbd EAd
    show tSeq _ _ _ [_, _, _, _, _, _, _, _, _, _, _, _, _, _] (upd Gc a2 (.lst [V.ref f1, V.ref f2, V.ref f3]))
    generalize upd Gc a2 (.lst [V.ref f1, V.ref f2, V.ref f3]) = Gd at *
    refine ⟨_, rfl, a2, rfl, ⟨_, SqL.of hab⟩, fun D hD => ?_⟩
    refine lc_new Pd2 pd2_mono (walk_list (xs := [V.ref f1, V.ref f2, V.ref f3])) (List.replicate 3 (.tuple [.str "targets", .int iB])) rfl (by show 3 ≤ 10000000; decide) hD (fun Hx e => SqL.of (e _ _ hab)) ?_ gmono_name ?_
    · rintro i x a Ha Hb R hia ex ⟨rfl, hx⟩ kk
      obtain rfl : a = .tuple [.str "targets", .int iB] := by
        have := List.mem_of_getElem? hia
        exact List.eq_of_mem_replicate this
      have il : i < 3 := (List.getElem?_eq_some_iff.mp hx).1
      have XI : XN s Hg1 Hb := EAb.xn.trans (XN.of ex)
      have qNa := qN.xn src4 (X2b.trans XI)
      have qWa := qW.xn src4 (X2b.trans XI)
      have qSa := qS.xn src4 (X2b.trans XI)
      have bada := bad.xn src4 (X2b.trans XI)
      have taba := (X2b.trans XI).tab src4 tab
      have hza := (X2b.trans XI).tup src4 hz
      have hlaa := (X2b.trans XI).tup src4 hla
      have srca := (EAb.src (s := s) srcE1).mono ex
      refine ⟨rfl, _, rfl, ?_⟩
      have i4 : i = 0 ∨ i = 1 ∨ i = 2 := by omega
      rcases i4 with rfl | rfl | rfl
      · obtain rfl : V.ref f1 = x := Option.some.inj hx
        refine ⟨f1, _, rfl, lam_mono ex lam1, ?_⟩
        refine ⟨_, rfl, _, rfl, .ref bd, xB, rfl, .inr ⟨bd, ns, rfl, taba, ok, bn5, (· ≠ s), od, bada.tgt, bada.bd, .inl ⟨iB, bada.due, rai_tgt (fun G r e t => kk _ _ e ⟨r, "targets", _, _, rfl, t, rfl, sk_of _, .inr ⟨_, rfl, rfl⟩⟩)⟩⟩⟩
      · obtain rfl : V.ref f2 = x := Option.some.inj hx
        refine ⟨f2, _, rfl, lam_mono ex lam2, ?_⟩
        refine ⟨_, rfl, _, rfl, _, rfl, .ref bd, xB, vW, rfl, .inr ⟨bd, ns, rfl, taba, ok, bn5, (· ≠ s), od, bada.tgt, bada.bd, .inl ⟨iB, bada.due, rai_tgt (fun G r e t => kk _ _ e ⟨r, "targets", _, _, rfl, t, rfl, sk_of _, .inr ⟨_, rfl, rfl⟩⟩)⟩⟩⟩
      · obtain rfl : V.ref f3 = x := Option.some.inj hx
        refine ⟨f3, _, rfl, lam_mono ex lam3, ?_⟩
        refine ⟨_, rfl, _, rfl, _, rfl, _, rfl, .ref bd, xB, vW, vS, rfl, .inr ⟨bd, ns, rfl, taba, ok, bn5, (· ≠ s), od, bada.tgt, bada.bd, .inl ⟨iB, bada.due, rai_tgt (fun G r e t => kk _ _ e ⟨r, "targets", _, _, rfl, t, rfl, sk_of _, .inr ⟨_, rfl, rfl⟩⟩)⟩⟩⟩
    intro Hd ys ed hyd pd
    refine ⟨_, rfl, slen rfl, ?_⟩
    (intro r1 nr1; generalize hGr1 : upd _ r1 _ = He; have eHe := exG hGr1 nr1; have hr1 := atG hGr1; clear hGr1)
    refine ⟨slen rfl, ?_⟩
    (intro r2 nr2; generalize hGr2 : upd _ r2 _ = Hf; have eHf := exG hGr2 nr2; have hr2 := atG hGr2; clear hGr2)
    refine ⟨r2, 3, _, rfl, rfl, hr2, by decide, by decide, by show 1 * 3 ≤ sizeLine; decide, ?_⟩
    (intro r3 nr3; generalize hGr3 : upd _ r3 _ = Hg2; have eHg2 := exG hGr3 nr3; have hr3 := atG hGr3; clear hGr3)
    have el := ext eHe (ext eHf eHg2)
    have pdl := pd2_all (K := K) (paired_mono (fun v a q => pd2_mono Hd Hg2 v a (fun c ws z => el _ _ z) q) pd)
    have r1g : Pd2 Hg2 (.ref r1) (.tuple [.str "targets", .int iB]) := ⟨r1, _, _, _, rfl, (ext eHf eHg2) _ _ hr1, rfl, sk_of _, .inr ⟨_, rfl, rfl⟩⟩
    have pdr := pd2_all (K := K) (vs := [V.ref r1, V.ref r1, V.ref r1]) (ds := List.replicate 3 (.tuple [.str "targets", .int iB])) (.cons r1g (.cons r1g (.cons r1g (.nil))))
    have shl : Sh 60 (PyData.list (List.replicate 3 (.tuple [.str "targets", .int iB]))) := (sh_list (n := 3) pdr.2).up (by decide)
    refine ⟨_, _, .lst (SqL.of (el _ _ hyd)) pdl.1, .lst (SqL.of hr3) pdr.1, shl.ok, shl.ok, _, rfl, itf (by rw [eqv_same shl]) ?_⟩
    dsimp only [tNext]
    have tabsE2 := (tbb.ext ed).ext el
    have X3b : XN s G4 Hg2 := X2b.trans (EAb.xn.trans (XN.of (ext ed el)))
    have srcE2 : Src Hg2 s := ((EAb.src srcE1).mono ed).mono el
    clear pdl pdr r1g hr1 hr2 hr3 shl hyd pd ed el eHe eHf eHg2 nr1 nr2 nr3 hD hab EAb tbb lam1 nf1 lam2 nf2 lam3 nf3
    show tSeq _ _ _ [_, _, _, _, _, _, _, _, _, _, _, _, _, _] _
    have zsh : ShortT (iT (List.replicate ns.length 0)) := short_tup (by rw [List.length_map, List.length_replicate]; omega)
    have lsh : ShortT (iT (ns.map fun n => n - 1)) := short_tup (by rw [List.length_map, List.length_map]; omega)
    have tabs3 := tabsE2
    refine ⟨tabs3, fun f1 Ga en1 tba nf1 lam1 => ?_⟩
    refine ⟨slen rfl, ?_⟩
    (intro a3 na3; generalize hGa3 : upd _ a3 _ = Gb; have eGb := exG hGa3 na3; have ha3 := atG hGa3; clear hGa3)
    have EAb : EA a3 Hg2 Gb := EA.start en1 na3 eGb
    have tbb := tba.ext eGb
    have lam1 := lam_mono eGb lam1
    have hab := ha3
    clear ha3 eGb na3 tba en1
    dsimp only [gName]
    show tSeq _ _ _ [_, _, _, _, _, _, _, _, _, _, _, _, _, _] _
    refine ⟨_, rfl, .inl ⟨rfl, _, SqL.of hab⟩, tbb, fun f2 Gc en tbc nf2 lam2 => ?_⟩
    have hac := en _ _ hab (fun _ z => nomatch z)
    have lam1 := lam1.ext en
    refine ⟨a3, _, _, rfl, rfl, hac, (by show 1 < sizeLine; decide), ?_⟩
    have lam1 := lam_updl (ys := [V.ref f1, V.ref f2]) hac lam1
    have lam2 := lam_updl (ys := [V.ref f1, V.ref f2]) hac lam2
    have tbd := tabs_updl (ys := [V.ref f1, V.ref f2]) hac tbc
    have EAd := (EAb.ext en).upd (o := .lst [V.ref f1, V.ref f2])
    replace EAb := EAd
    replace tbb := tbd
    have had : upd Gc a3 (.lst [V.ref f1, V.ref f2]) a3 = some (.lst [V.ref f1, V.ref f2]) := upd_same
    replace hab := had
    clear hac had en tbc tbd EAd
    show tSeq _ _ _ [_, _, _, _, _, _, _, _, _, _, _, _, _, _] (upd Gc a3 (.lst [V.ref f1, V.ref f2]))
    generalize upd Gc a3 (.lst [V.ref f1, V.ref f2]) = Gd at *
    refine ⟨_, rfl, .inl ⟨rfl, _, SqL.of hab⟩, tbb, fun f3 Gc en tbc nf3 lam3 => ?_⟩
    have hac := en _ _ hab (fun _ z => nomatch z)
    have lam1 := lam1.ext en
    have lam2 := lam2.ext en
    refine ⟨a3, _, _, rfl, rfl, hac, (by show 2 < sizeLine; decide), ?_⟩
    have lam1 := lam_updl (ys := [V.ref f1, V.ref f2, V.ref f3]) hac lam1
    have lam2 := lam_updl (ys := [V.ref f1, V.ref f2, V.ref f3]) hac lam2
    have lam3 := lam_updl (ys := [V.ref f1, V.ref f2, V.ref f3]) hac lam3
    have tbd := tabs_updl (ys := [V.ref f1, V.ref f2, V.ref f3]) hac tbc
    have EAd := (EAb.ext en).upd (o := .lst [V.ref f1, V.ref f2, V.ref f3])
    replace EAb := EAd
    replace tbb := tbd
    have had : upd Gc a3 (.lst [V.ref f1, V.ref f2, V.ref f3]) a3 = some (.lst [V.ref f1, V.ref f2, V.ref f3]) := upd_same
    replace hab := had
    clear hac had en tbc tbd EAd
    show tSeq _ _ _ [_, _, _, _, _, _, _, _, _, _, _, _, _, _] (upd Gc a3 (.lst [V.ref f1, V.ref f2, V.ref f3]))
    generalize upd Gc a3 (.lst [V.ref f1, V.ref f2, V.ref f3]) = Gd at *
    refine ⟨_, rfl, a3, rfl, ⟨_, SqL.of hab⟩, fun D hD => ?_⟩
    refine lc_new Pd2 pd2_mono (walk_list (xs := [V.ref f1, V.ref f2, V.ref f3])) (List.replicate 3 (.tuple [.str "seat", .str dW.shown])) rfl (by show 3 ≤ 10000000; decide) hD (fun Hx e => SqL.of (e _ _ hab)) ?_ gmono_name ?_
    · rintro i x a Ha Hb R hia ex ⟨rfl, hx⟩ kk
      obtain rfl : a = .tuple [.str "seat", .str dW.shown] := by
        have := List.mem_of_getElem? hia
        exact List.eq_of_mem_replicate this
      have il : i < 3 := (List.getElem?_eq_some_iff.mp hx).1
      have XI : XN s Hg2 Hb := EAb.xn.trans (XN.of ex)
      have qNa := qN.xn src4 (X3b.trans XI)
      have qWa := qW.xn src4 (X3b.trans XI)
      have qSa := qS.xn src4 (X3b.trans XI)
      have bada := bad.xn src4 (X3b.trans XI)
      have taba := (X3b.trans XI).tab src4 tab
      have hza := (X3b.trans XI).tup src4 hz
      have hlaa := (X3b.trans XI).tup src4 hla
      have srca := (EAb.src (s := s) srcE2).mono ex
      refine ⟨rfl, _, rfl, ?_⟩
      have i4 : i = 0 ∨ i = 1 ∨ i = 2 := by omega
      rcases i4 with rfl | rfl | rfl
      · obtain rfl : V.ref f1 = x := Option.some.inj hx
        refine ⟨f1, _, rfl, lam_mono ex lam1, ?_⟩
        refine ⟨_, rfl, _, rfl, slen rfl, ?_⟩
        (intro c1 nc1; generalize hGc1 : upd _ c1 _ = Hc; have eHc := exG hGc1 nc1; have hc1 := atG hGc1; clear hGc1)
        refine ⟨_, rfl, .ref bd, .ref c1, vW, rfl, .inr ⟨bd, ns, rfl, taba.mono eHc, ok, bn5, (· ≠ s), some [iT (List.replicate ns.length 0)], (Dq.lst hc1 (srca.ne nc1) (.cons (Dq.ints (eHc _ _ hza)) .nil)).tgt, short_one zsh, .inr ⟨five.one, oT dW, (qWa.mono eHc).tA wsh, .inl ⟨wbad, rai_seat ((qWa.mono eHc).shA sW.1 (by decide) (by decide)) (fun G r e t => kk _ _ (ext eHc e) ⟨r, "seat", _, _, rfl, t, rfl, sk_of _, .inl ⟨_, rfl, rfl, sW.2⟩⟩)⟩⟩⟩⟩
      · obtain rfl : V.ref f2 = x := Option.some.inj hx
        refine ⟨f2, _, rfl, lam_mono ex lam2, ?_⟩
        refine ⟨_, rfl, _, rfl, _, rfl, slen rfl, ?_⟩
        (intro c1 nc1; generalize hGc1 : upd _ c1 _ = Hc; have eHc := exG hGc1 nc1; have hc1 := atG hGc1; clear hGc1)
        refine ⟨_, rfl, _, rfl, .ref bd, .ref c1, vW, vS, rfl, .inr ⟨bd, ns, rfl, taba.mono eHc, ok, bn5, (· ≠ s), some [iT (List.replicate ns.length 0), iT (ns.map fun n => n - 1)], (Dq.tup hc1 (.cons (Dq.ints (eHc _ _ hza)) (.cons (Dq.ints (B := (· ≠ s)) (eHc _ _ hlaa)) .nil))).tgt, short_two zsh lsh, .inr ⟨five.two, oT dW, (qWa.mono eHc).tA wsh, .inl ⟨wbad, rai_seat ((qWa.mono eHc).shA sW.1 (by decide) (by decide)) (fun G r e t => kk _ _ (ext eHc e) ⟨r, "seat", _, _, rfl, t, rfl, sk_of _, .inl ⟨_, rfl, rfl, sW.2⟩⟩)⟩⟩⟩⟩
      · obtain rfl : V.ref f3 = x := Option.some.inj hx
        refine ⟨f3, _, rfl, lam_mono ex lam3, ?_⟩
        refine ⟨_, rfl, _, rfl, slen rfl, ?_⟩
        (intro c1 nc1; generalize hGc1 : upd _ c1 _ = Hc; have eHc := exG hGc1 nc1; have hc1 := atG hGc1; clear hGc1)
        refine ⟨_, rfl, .ref bd, .ref c1, vW, rfl, .inr ⟨bd, ns, rfl, taba.mono eHc, ok, bn5, (· ≠ s), .tuple [.int 3, iT (List.replicate ns.length 0), .int 0], Dq.tup hc1 (.cons (.int 3) (.cons (Dq.ints (eHc _ _ hza)) (.cons (.int 0) .nil))), bm3, .inr ⟨five.wit, oT dW, (qWa.mono eHc).tA wsh, .inl ⟨wbad, rai_seat ((qWa.mono eHc).shA sW.1 (by decide) (by decide)) (fun G r e t => kk _ _ (ext eHc e) ⟨r, "seat", _, _, rfl, t, rfl, sk_of _, .inl ⟨_, rfl, rfl, sW.2⟩⟩)⟩⟩⟩⟩
    intro Hd ys ed hyd pd
    refine ⟨_, rfl, vW, dW, rfl, (qW.xn src4 (X3b.trans (EAb.xn.trans (XN.of ed)))).de, sW.1.sh, Nat.le_trans sW.1.len (by decide), Nat.le_trans sW.1.dep (by decide), slen rfl, ?_⟩
    (intro r1 nr1; generalize hGr1 : upd _ r1 _ = He; have eHe := exG hGr1 nr1; have hr1 := atG hGr1; clear hGr1)
    refine ⟨slen rfl, ?_⟩
    (intro r2 nr2; generalize hGr2 : upd _ r2 _ = Hf; have eHf := exG hGr2 nr2; have hr2 := atG hGr2; clear hGr2)
    refine ⟨r2, 3, _, rfl, rfl, hr2, by decide, by decide, by show 1 * 3 ≤ sizeLine; decide, ?_⟩
    (intro r3 nr3; generalize hGr3 : upd _ r3 _ = Hg3; have eHg3 := exG hGr3 nr3; have hr3 := atG hGr3; clear hGr3)
    have el := ext eHe (ext eHf eHg3)
    have pdl := pd2_all (K := K) (paired_mono (fun v a q => pd2_mono Hd Hg3 v a (fun c ws z => el _ _ z) q) pd)
    have r1g : Pd2 Hg3 (.ref r1) (.tuple [.str "seat", .str dW.shown]) := ⟨r1, _, _, _, rfl, (ext eHf eHg3) _ _ hr1, rfl, sk_of _, .inl ⟨_, rfl, rfl, sW.2⟩⟩
    have pdr := pd2_all (K := K) (vs := [V.ref r1, V.ref r1, V.ref r1]) (ds := List.replicate 3 (.tuple [.str "seat", .str dW.shown])) (.cons r1g (.cons r1g (.cons r1g (.nil))))
    have shl : Sh 60 (PyData.list (List.replicate 3 (.tuple [.str "seat", .str dW.shown]))) := (sh_list (n := 3) pdr.2).up (by decide)
    refine ⟨_, _, .lst (SqL.of (el _ _ hyd)) pdl.1, .lst (SqL.of hr3) pdr.1, shl.ok, shl.ok, _, rfl, itf (by rw [eqv_same shl]) ?_⟩
    dsimp only [tNext]
    have tabsE3 := (tbb.ext ed).ext el
    have X4b : XN s G4 Hg3 := X3b.trans (EAb.xn.trans (XN.of (ext ed el)))
    have srcE3 : Src Hg3 s := ((EAb.src srcE2).mono ed).mono el
    clear pdl pdr r1g hr1 hr2 hr3 shl hyd pd ed el eHe eHf eHg3 nr1 nr2 nr3 hD hab EAb tbb lam1 nf1 lam2 nf2 lam3 nf3
    show tSeq _ _ _ [_, _, _, _, _, _, _, _, _, _, _, _, _, _] _
    have tabs4 := tabsE3
    refine ⟨tabs4, fun f1 Ga en1 tba nf1 lam1 => ?_⟩
    refine ⟨slen rfl, ?_⟩
    (intro a4 na4; generalize hGa4 : upd _ a4 _ = Gb; have eGb := exG hGa4 na4; have ha4 := atG hGa4; clear hGa4)
    have EAb : EA a4 Hg3 Gb := EA.start en1 na4 eGb
    have tbb := tba.ext eGb
    have lam1 := lam_mono eGb lam1
    have hab := ha4
    clear ha4 eGb na4 tba en1
    dsimp only [gName]
    show tSeq _ _ _ [_, _, _, _, _, _, _, _, _, _, _, _, _, _] _
    refine ⟨_, rfl, .inl ⟨rfl, _, SqL.of hab⟩, tbb, fun f2 Gc en tbc nf2 lam2 => ?_⟩
    have hac := en _ _ hab (fun _ z => nomatch z)
    have lam1 := lam1.ext en
    refine ⟨a4, _, _, rfl, rfl, hac, (by show 1 < sizeLine; decide), ?_⟩
    have lam1 := lam_updl (ys := [V.ref f1, V.ref f2]) hac lam1
    have lam2 := lam_updl (ys := [V.ref f1, V.ref f2]) hac lam2
    have tbd := tabs_updl (ys := [V.ref f1, V.ref f2]) hac tbc
    have EAd := (EAb.ext en).upd (o := .lst [V.ref f1, V.ref f2])
    replace EAb := EAd
    replace tbb := tbd
    have had : upd Gc a4 (.lst [V.ref f1, V.ref f2]) a4 = some (.lst [V.ref f1, V.ref f2]) := upd_same
    replace hab := had
    clear hac had en tbc tbd EAd
    dsimp only [List.cons_append, List.nil_append]
    generalize upd Gc a4 (.lst [V.ref f1, V.ref f2]) = Gd at *
    refine ⟨_, rfl, a4, rfl, ⟨_, SqL.of hab⟩, fun D hD => ?_⟩
    refine lc_new Pd2 pd2_mono (walk_list (xs := [V.ref f1, V.ref f2])) (List.replicate 2 (.tuple [.str "witness", .int (-1)])) rfl (by show 2 ≤ 10000000; decide) hD (fun Hx e => SqL.of (e _ _ hab)) ?_ gmono_name ?_
    · rintro i x a Ha Hb R hia ex ⟨rfl, hx⟩ kk
      obtain rfl : a = .tuple [.str "witness", .int (-1)] := by
        have := List.mem_of_getElem? hia
        exact List.eq_of_mem_replicate this
      have il : i < 2 := (List.getElem?_eq_some_iff.mp hx).1
      have XI : XN s Hg3 Hb := EAb.xn.trans (XN.of ex)
      have qNa := qN.xn src4 (X4b.trans XI)
      have qWa := qW.xn src4 (X4b.trans XI)
      have qSa := qS.xn src4 (X4b.trans XI)
      have bada := bad.xn src4 (X4b.trans XI)
      have taba := (X4b.trans XI).tab src4 tab
      have hza := (X4b.trans XI).tup src4 hz
      have hlaa := (X4b.trans XI).tup src4 hla
      have srca := (EAb.src (s := s) srcE3).mono ex
      refine ⟨rfl, _, rfl, ?_⟩
      have i4 : i = 0 ∨ i = 1 := by omega
      rcases i4 with rfl | rfl
      · obtain rfl : V.ref f1 = x := Option.some.inj hx
        refine ⟨f1, _, rfl, lam_mono ex lam1, ?_⟩
        refine ⟨_, rfl, _, rfl, slen rfl, ?_⟩
        (intro c1 nc1; generalize hGc1 : upd _ c1 _ = Hc; have eHc := exG hGc1 nc1; have hc1 := atG hGc1; clear hGc1)
        refine ⟨_, rfl, _, rfl, .ref bd, .ref c1, .ref la, vS, rfl, .inr ⟨bd, ns, rfl, taba.mono eHc, ok, bn5, (· ≠ s), some [iT (List.replicate ns.length 0)], (Dq.lst hc1 (srca.ne nc1) (.cons (Dq.ints (eHc _ _ hza)) .nil)).tgt, short_one zsh, .inr ⟨five.one, oT (iT (ns.map fun n => n - 1)), (Dq.ints (B := (· ≠ s)) (eHc _ _ hlaa)).tA lsh, .inr ⟨by rw [oT_ints]; exact isSeat_ok (last_seat ok.one), (· ≠ s), dS, qSa.mono eHc, wS.bm, .inl ⟨wS.no, rai_wit (fun G r e t => kk _ _ (ext eHc e) ⟨r, "witness", _, _, rfl, t, rfl, sk_of _, .inr ⟨_, rfl, rfl⟩⟩)⟩⟩⟩⟩⟩
      · obtain rfl : V.ref f2 = x := Option.some.inj hx
        refine ⟨f2, _, rfl, lam_mono ex lam2, ?_⟩
        refine ⟨_, rfl, _, rfl, _, rfl, .ref bd, vS, vW, rfl, .inr ⟨bd, ns, rfl, taba, ok, bn5, (· ≠ s), dS, qSa, wS.bm, .inl ⟨wS.no, rai_wit (fun G r e t => kk _ _ e ⟨r, "witness", _, _, rfl, t, rfl, sk_of _, .inr ⟨_, rfl, rfl⟩⟩)⟩⟩⟩
    intro Hd ys ed hyd pd
    refine ⟨_, rfl, slen rfl, ?_⟩
    (intro r1 nr1; generalize hGr1 : upd _ r1 _ = He; have eHe := exG hGr1 nr1; have hr1 := atG hGr1; clear hGr1)
    refine ⟨slen rfl, ?_⟩
    (intro r2 nr2; generalize hGr2 : upd _ r2 _ = Hf; have eHf := exG hGr2 nr2; have hr2 := atG hGr2; clear hGr2)
    refine ⟨r2, 2, _, rfl, rfl, hr2, by decide, by decide, by show 1 * 2 ≤ sizeLine; decide, ?_⟩
    (intro r3 nr3; generalize hGr3 : upd _ r3 _ = Hg4; have eHg4 := exG hGr3 nr3; have hr3 := atG hGr3; clear hGr3)
    have el := ext eHe (ext eHf eHg4)
    have pdl := pd2_all (K := K) (paired_mono (fun v a q => pd2_mono Hd Hg4 v a (fun c ws z => el _ _ z) q) pd)
    have r1g : Pd2 Hg4 (.ref r1) (.tuple [.str "witness", .int (-1)]) := ⟨r1, _, _, _, rfl, (ext eHf eHg4) _ _ hr1, rfl, sk_of _, .inr ⟨_, rfl, rfl⟩⟩
    have pdr := pd2_all (K := K) (vs := [V.ref r1, V.ref r1]) (ds := List.replicate 2 (.tuple [.str "witness", .int (-1)])) (.cons r1g (.cons r1g (.nil)))
    have shl : Sh 60 (PyData.list (List.replicate 2 (.tuple [.str "witness", .int (-1)]))) := (sh_list (n := 3) pdr.2).up (by decide)
    refine ⟨_, _, .lst (SqL.of (el _ _ hyd)) pdl.1, .lst (SqL.of hr3) pdr.1, shl.ok, shl.ok, ?_⟩
    show Q (.bl _) _
    have kq := k _ (X4.trans (X4b.trans (EAb.xn.trans (XN.of (ext ed el))))) (((EAb.src srcE3).mono ed).mono el) ((tbb.ext ed).ext el)
    rw [← eqv_refl _ shl.1] at kq
    exact kq
end

section
variable {P : Program} {w : World} {K : PySem.W.Frag} {mg : Str → Option Value} {base : Heap}
/-- a cut list of ints is one -/
theorem cut_ints (ns : List Int) (lo hi : Option Int) : ∃ ms : List Int, cutV (ns.map V.int ++ [V.int 0]) lo hi = ms.map V.int := by
  refine ⟨((ns ++ [0]).drop (HT.sIx (ns.map V.int ++ [V.int 0]).length 0 lo)).take (HT.sIx (ns.map V.int ++ [V.int 0]).length (ns.map V.int ++ [V.int 0]).length hi - HT.sIx (ns.map V.int ++ [V.int 0]).length 0 lo), ?_⟩
  unfold cutV
  rw [List.map_take, List.map_drop, List.map_append]
  rfl
end
theorem cut_of (ns : List Int) (lo hi : Option Int) : ∃ ms : List Int, cutV (ns.map V.int) lo hi = ms.map V.int ∧ ms.length ≤ ns.length := by
  refine ⟨(ns.drop (HT.sIx (ns.map V.int).length 0 lo)).take (HT.sIx (ns.map V.int).length (ns.map V.int).length hi - HT.sIx (ns.map V.int).length 0 lo), ?_, ?_⟩
  · unfold cutV
    rw [List.map_take, List.map_drop]
  · rw [List.length_take, List.length_drop]
    omega

section
variable {P : Program} {w : World} {K : PySem.W.Frag} {mg : Str → Option Value} {base : Heap}
def sp_law (K : PySem.W.Frag) (PT : Addr) : Sp := fun vs H Q _ => ∃ (a : Addr) (ns : List Int), vs = [.ref a] ∧ SqL K H a (ns.map V.int) ∧ ns.length ≤ 63 ∧ H PT = some (.tbl #[]) ∧ ∀ H2, Q (.bl true) H2
theorem ok_law (T : TX K mg) (L : TL T base) : CG.FnOkG P w K mg base 10 T.f_law T.fd_law ["_law_script"] (sp_law K L.p_law_check) := by
  refine CG.okG T.F_law sc_law (fun vs H Q E h => ?_) (fun cdv A outer s H vs Q E gd hr h => ?_)
  · obtain ⟨a, ns, rfl, _⟩ := h
    rfl
  · obtain ⟨a, ns, rfl, hS, hlen, htb, k⟩ := h
    refine ⟨_, (pss_cons (ps_for PassesOwn.never rfl (pi_list (pe_slice sl_list (pe_op (r := rCatR K) op_catR (pv 0) (pe_lst (pa_cons pe_int pa_nil))) po_none (po_some pe_int))) (pg_name (i := 1) sc_law.nd rfl (Or.inl rfl)) (pss_one (ps_if (pt_not (pt_val (CG.pe_callG (ok_law_check T L) gd hr rfl T.m_law_check T.F_law_check.kp T.b_law_check .nil pass0 (pa_cons (pe_call (ok_law_source T) (hr.mono (by decide)) rfl T.m_law_source T.F_law_source.kp T.b_law_source .nil pass0 (pa_cons (pv 1) pa_nil)) pa_nil)))) (pss_one (ps_ret pe_bl)) pss_nil))) (pss_one (ps_ret pe_bl))), ?_⟩
    refine ⟨_, rfl, slen rfl, fun b hb => ?_⟩
    have e1 := exn (o := .lst [.int 0]) hb
    have hS1 := Evl.ex_l e1 hS
    refine ⟨a, b, _, _, rfl, rfl, hS1, SqL.of upd_same, ?_, fun c hc => ?_⟩
    · rw [List.length_map]
      exact Nat.le_trans (Nat.add_le_add_right hlen 1) (by decide)
    rw [show ns.map V.int ++ [V.int 0] = (ns ++ [0]).map V.int from by rw [List.map_append]; rfl]
    obtain ⟨us, em, lm⟩ := cut_of (ns ++ [0]) none (some 5)
    have e2 := exn (o := .lst ((ns ++ [0]).map V.int)) hc
    refine ⟨5, rfl, c, _, rfl, SqL.of upd_same, fun d hd => ?_⟩
    rw [em]
    have e3 := exn (o := .lst (us.map V.int)) hd
    have htd := e3 _ _ (e2 _ _ (e1 _ _ htb))
    refine ⟨d, rfl, ⟨_, SqL.of upd_same⟩, ?_⟩
    refine for_it (walk_list (xs := us.map V.int)) (fun i σ H => (∃ y, σ = [some (.ref a), y]) ∧ H d = some (.lst (us.map V.int)) ∧ LamX.Tabs [(L.p_law_check, lamQ)] H) ⟨⟨_, rfl⟩, upd_same, fun p hp => by rw [List.mem_singleton.mp hp]; exact LamX.TabS.nil htd⟩ (fun i σ H _ p => SqL.of p.2.1) ?_ (fun σ H p => k _)
    rintro i x σ _ H1 hi ⟨⟨y, rfl⟩, hd1, tb1⟩ ⟨rfl, hx⟩
    obtain ⟨n, _, rfl⟩ := map_get hx
    refine ⟨_, rfl, n, rfl, fun H2 s e2 hs src => ?_⟩
    have nds : d ≠ s := ne_of_none hd1 hs
    refine ⟨s, rfl, src, tb1.ext e2, fun H3 xn src3 tb3 => ?_⟩
    refine ⟨_, rfl, itf rfl ?_⟩
    exact ⟨⟨_, rfl⟩, xn.lst nds (e2 _ _ hd1), tb3⟩
end

theorem all_mk {K : PySem.W.Frag} {h : Heap} {mg : Str → Option Value} (X : K.In h) (G : h.Ns mainGlobals mg)
    {f0 f1 f2 f3 f4 f5 f6 f7 f8 f9 f10 f11 f12 f13 f14 f15 f16 f17 f18 f19 f20 f21 f22 f23 f24 f25 f26 f27 f28 f29 f30 f31 f32 f33 f34 f35 f36 f37 f38 f39 f40 f41 f42 f43 C_InvalidTable C_InvalidTargets C_InvalidSeat C_InvalidWitness C_Table C_SeatError C_InvalidCall : Addr}
    {od0 an0 od1 an1 od2 an2 od3 an3 od4 an4 od5 an5 od6 an6 od7 an7 od8 an8 od9 an9 od10 an10 od11 an11 od12 an12 od13 an13 od14 an14 od15 an15 od16 an16 od17 an17 od18 an18 od19 an19 od20 an20 od21 an21 od22 an22 od23 an23 od24 an24 od25 an25 od26 an26 od27 an27 od28 an28 od29 an29 od30 an30 od31 an31 od32 an32 od33 an33 od34 an34 od35 an35 od36 an36 od37 an37 od38 an38 od39 an39 od40 an40 od41 an41 od42 an42 od43 an43 : Option Addr} {sl0 sl1 sl2 sl3 sl4 sl5 sl6 sl7 sl8 sl9 sl10 sl11 sl12 sl13 sl14 sl15 sl16 sl17 sl18 sl19 sl20 sl21 sl22 sl23 sl24 sl25 sl26 sl27 sl28 sl29 sl30 sl31 sl32 sl33 sl34 sl35 sl36 sl37 sl38 sl39 sl40 sl41 sl42 sl43 : Array (Option Value)} {oc0 kV0 dc0 pm0 cd0 ct0 oc1 kV1 dc1 pm1 cd1 ct1 oc2 kV2 dc2 pm2 cd2 ct2 oc3 kV3 dc3 pm3 cd3 ct3 oc4 kV4 dc4 pm4 cd4 ct4 oc5 kV5 dc5 pm5 cd5 ct5 oc6 kV6 dc6 pm6 cd6 ct6 oc7 kV7 dc7 pm7 cd7 ct7 oc8 kV8 dc8 pm8 cd8 ct8 oc9 kV9 dc9 pm9 cd9 ct9 oc10 kV10 dc10 pm10 cd10 ct10 oc11 kV11 dc11 pm11 cd11 ct11 oc12 kV12 dc12 pm12 cd12 ct12 oc13 kV13 dc13 pm13 cd13 ct13 oc14 kV14 dc14 pm14 cd14 ct14 oc15 kV15 dc15 pm15 cd15 ct15 oc16 kV16 dc16 pm16 cd16 ct16 oc17 kV17 dc17 pm17 cd17 ct17 oc18 kV18 dc18 pm18 cd18 ct18 oc19 kV19 dc19 pm19 cd19 ct19 oc20 kV20 dc20 pm20 cd20 ct20 oc21 kV21 dc21 pm21 cd21 ct21 oc22 kV22 dc22 pm22 cd22 ct22 oc23 kV23 dc23 pm23 cd23 ct23 oc24 kV24 dc24 pm24 cd24 ct24 oc25 kV25 dc25 pm25 cd25 ct25 oc26 kV26 dc26 pm26 cd26 ct26 oc27 kV27 dc27 pm27 cd27 ct27 oc28 kV28 dc28 pm28 cd28 ct28 oc29 kV29 dc29 pm29 cd29 ct29 oc30 kV30 dc30 pm30 cd30 ct30 oc31 kV31 dc31 pm31 cd31 ct31 oc32 kV32 dc32 pm32 cd32 ct32 oc33 kV33 dc33 pm33 cd33 ct33 oc34 kV34 dc34 pm34 cd34 ct34 oc35 kV35 dc35 pm35 cd35 ct35 oc36 kV36 dc36 pm36 cd36 ct36 oc37 kV37 dc37 pm37 cd37 ct37 oc38 kV38 dc38 pm38 cd38 ct38 oc39 kV39 dc39 pm39 cd39 ct39 oc40 kV40 dc40 pm40 cd40 ct40 oc41 kV41 dc41 pm41 cd41 ct41 oc42 kV42 dc42 pm42 cd42 ct42 oc43 kV43 dc43 pm43 cd43 ct43 : Value}
    {nm_InvalidTable q_InvalidTable : Str} {N_InvalidTable B_InvalidTable : Addr} {bs_InvalidTable sub_InvalidTable : List Value} {sn_InvalidTable : List Str} {ab_InvalidTable : Bool} {col_InvalidTable : Option Bool} {dd_InvalidTable : Option Addr} {m0_InvalidTable m1_InvalidTable m2_InvalidTable m3_InvalidTable m5_InvalidTable : Option Value}
    {nm_InvalidTargets q_InvalidTargets : Str} {N_InvalidTargets B_InvalidTargets : Addr} {bs_InvalidTargets sub_InvalidTargets : List Value} {sn_InvalidTargets : List Str} {ab_InvalidTargets : Bool} {col_InvalidTargets : Option Bool} {dd_InvalidTargets : Option Addr} {m0_InvalidTargets m1_InvalidTargets m2_InvalidTargets m3_InvalidTargets m5_InvalidTargets : Option Value}
    {nm_InvalidSeat q_InvalidSeat : Str} {N_InvalidSeat B_InvalidSeat : Addr} {bs_InvalidSeat sub_InvalidSeat : List Value} {sn_InvalidSeat : List Str} {ab_InvalidSeat : Bool} {col_InvalidSeat : Option Bool} {dd_InvalidSeat : Option Addr} {m0_InvalidSeat m1_InvalidSeat m2_InvalidSeat m3_InvalidSeat m5_InvalidSeat : Option Value}
    {nm_InvalidWitness q_InvalidWitness : Str} {N_InvalidWitness B_InvalidWitness : Addr} {bs_InvalidWitness sub_InvalidWitness : List Value} {sn_InvalidWitness : List Str} {ab_InvalidWitness : Bool} {col_InvalidWitness : Option Bool} {dd_InvalidWitness : Option Addr} {m0_InvalidWitness m1_InvalidWitness m2_InvalidWitness m3_InvalidWitness m5_InvalidWitness : Option Value}
    {t_MAX_RINGS : Tok}
    (aC_SeatError : PySem.W.nsIn K mainGlobals "SeatError" = some (some (.ref C_SeatError)))
    (ex_SeatError : PySem.W.subIn K (.ref C_SeatError) (.type "BaseException") = some true)
    (ty_SeatError : PySem.W.typeIn K (.ref C_SeatError) = some (.type "type"))
    (il_SeatError : PySem.W.isClsIn K C_SeatError = true)
    (aC_InvalidCall : PySem.W.nsIn K mainGlobals "InvalidCall" = some (some (.ref C_InvalidCall)))
    (ex_InvalidCall : PySem.W.subIn K (.ref C_InvalidCall) (.type "BaseException") = some true)
    (ty_InvalidCall : PySem.W.typeIn K (.ref C_InvalidCall) = some (.type "type"))
    (il_InvalidCall : PySem.W.isClsIn K C_InvalidCall = true)
    (aC_InvalidTable : PySem.W.nsIn K mainGlobals "InvalidTable" = some (some (.ref C_InvalidTable)))
    (aC_InvalidTargets : PySem.W.nsIn K mainGlobals "InvalidTargets" = some (some (.ref C_InvalidTargets)))
    (aC_InvalidSeat : PySem.W.nsIn K mainGlobals "InvalidSeat" = some (some (.ref C_InvalidSeat)))
    (aC_InvalidWitness : PySem.W.nsIn K mainGlobals "InvalidWitness" = some (some (.ref C_InvalidWitness)))
    (aC_Table : PySem.W.nsIn K mainGlobals "Table" = some (some (.ref C_Table)))
    (a0 : PySem.W.nsIn K mainGlobals "_wall" = some (some (.ref f0)))
    (l0 : K.lookup f0 = some ⟨oc0, od0, .func (PySem.W.fnOf "_wall" "_wall" (defArgs s_wall) (defBody s_wall) (defScope s_wall) .none kV0 dc0 pm0 an0 cd0 ct0), sl0⟩)
    (c0 : PySem.W.codeIn K cd0 "_wall" = true)
    (k0 : PySem.W.keepIn K (.ref f0) = true)
    (a1 : PySem.W.findIn K (.ref C_InvalidTable) "__init__" = some (some (.ref f1)))
    (i1 : PySem.W.isFn K (.ref f1) = true)
    (l1 : K.lookup f1 = some ⟨oc1, od1, .func (PySem.W.fnOf "__init__" "InvalidTable.__init__" (defArgs s_InvalidTable_init) (defBody s_InvalidTable_init) (defScope s_InvalidTable_init) .none kV1 dc1 pm1 an1 cd1 ct1), sl1⟩)
    (c1 : PySem.W.codeIn K cd1 "InvalidTable.__init__" = true)
    (k1 : PySem.W.keepIn K (.ref f1) = true)
    (a2 : PySem.W.findIn K (.ref C_InvalidTargets) "__init__" = some (some (.ref f2)))
    (i2 : PySem.W.isFn K (.ref f2) = true)
    (l2 : K.lookup f2 = some ⟨oc2, od2, .func (PySem.W.fnOf "__init__" "InvalidTargets.__init__" (defArgs s_InvalidTargets_init) (defBody s_InvalidTargets_init) (defScope s_InvalidTargets_init) .none kV2 dc2 pm2 an2 cd2 ct2), sl2⟩)
    (c2 : PySem.W.codeIn K cd2 "InvalidTargets.__init__" = true)
    (k2 : PySem.W.keepIn K (.ref f2) = true)
    (a3 : PySem.W.findIn K (.ref C_InvalidSeat) "__init__" = some (some (.ref f3)))
    (i3 : PySem.W.isFn K (.ref f3) = true)
    (l3 : K.lookup f3 = some ⟨oc3, od3, .func (PySem.W.fnOf "__init__" "InvalidSeat.__init__" (defArgs s_InvalidSeat_init) (defBody s_InvalidSeat_init) (defScope s_InvalidSeat_init) .none kV3 dc3 pm3 an3 cd3 ct3), sl3⟩)
    (c3 : PySem.W.codeIn K cd3 "InvalidSeat.__init__" = true)
    (k3 : PySem.W.keepIn K (.ref f3) = true)
    (a4 : PySem.W.findIn K (.ref C_InvalidWitness) "__init__" = some (some (.ref f4)))
    (i4 : PySem.W.isFn K (.ref f4) = true)
    (l4 : K.lookup f4 = some ⟨oc4, od4, .func (PySem.W.fnOf "__init__" "InvalidWitness.__init__" (defArgs s_InvalidWitness_init) (defBody s_InvalidWitness_init) (defScope s_InvalidWitness_init) .none kV4 dc4 pm4 an4 cd4 ct4), sl4⟩)
    (c4 : PySem.W.codeIn K cd4 "InvalidWitness.__init__" = true)
    (k4 : PySem.W.keepIn K (.ref f4) = true)
    (a5 : PySem.W.nsIn K mainGlobals "is_integer" = some (some (.ref f5)))
    (l5 : K.lookup f5 = some ⟨oc5, od5, .func (PySem.W.fnOf "is_integer" "is_integer" (defArgs s_is_integer) (defBody s_is_integer) (defScope s_is_integer) .none kV5 dc5 pm5 an5 cd5 ct5), sl5⟩)
    (c5 : PySem.W.codeIn K cd5 "is_integer" = true)
    (k5 : PySem.W.keepIn K (.ref f5) = true)
    (a6 : PySem.W.nsIn K mainGlobals "is_at_least" = some (some (.ref f6)))
    (l6 : K.lookup f6 = some ⟨oc6, od6, .func (PySem.W.fnOf "is_at_least" "is_at_least" (defArgs s_is_at_least) (defBody s_is_at_least) (defScope s_is_at_least) .none kV6 dc6 pm6 an6 cd6 ct6), sl6⟩)
    (c6 : PySem.W.codeIn K cd6 "is_at_least" = true)
    (k6 : PySem.W.keepIn K (.ref f6) = true)
    (a7 : PySem.W.nsIn K mainGlobals "is_between" = some (some (.ref f7)))
    (l7 : K.lookup f7 = some ⟨oc7, od7, .func (PySem.W.fnOf "is_between" "is_between" (defArgs s_is_between) (defBody s_is_between) (defScope s_is_between) .none kV7 dc7 pm7 an7 cd7 ct7), sl7⟩)
    (c7 : PySem.W.codeIn K cd7 "is_between" = true)
    (k7 : PySem.W.keepIn K (.ref f7) = true)
    (a8 : PySem.W.nsIn K mainGlobals "greatest_common_divisor" = some (some (.ref f8)))
    (l8 : K.lookup f8 = some ⟨oc8, od8, .func (PySem.W.fnOf "greatest_common_divisor" "greatest_common_divisor" (defArgs s_greatest_common_divisor) (defBody s_greatest_common_divisor) (defScope s_greatest_common_divisor) .none kV8 dc8 pm8 an8 cd8 ct8), sl8⟩)
    (c8 : PySem.W.codeIn K cd8 "greatest_common_divisor" = true)
    (k8 : PySem.W.keepIn K (.ref f8) = true)
    (a9 : PySem.W.nsIn K mainGlobals "odd_part" = some (some (.ref f9)))
    (l9 : K.lookup f9 = some ⟨oc9, od9, .func (PySem.W.fnOf "odd_part" "odd_part" (defArgs s_odd_part) (defBody s_odd_part) (defScope s_odd_part) .none kV9 dc9 pm9 an9 cd9 ct9), sl9⟩)
    (c9 : PySem.W.codeIn K cd9 "odd_part" = true)
    (k9 : PySem.W.keepIn K (.ref f9) = true)
    (a10 : PySem.W.findIn K (.ref C_Table) "__init__" = some (some (.ref f10)))
    (i10 : PySem.W.isFn K (.ref f10) = true)
    (l10 : K.lookup f10 = some ⟨oc10, od10, .func (PySem.W.fnOf "__init__" "Table.__init__" (defArgs s_Table_init) (defBody s_Table_init) (defScope s_Table_init) .none kV10 dc10 pm10 an10 cd10 ct10), sl10⟩)
    (c10 : PySem.W.codeIn K cd10 "Table.__init__" = true)
    (k10 : PySem.W.keepIn K (.ref f10) = true)
    (a11 : PySem.W.findIn K (.ref C_Table) "sizes" = some (some (.ref f11)))
    (i11 : PySem.W.isFn K (.ref f11) = true)
    (l11 : K.lookup f11 = some ⟨oc11, od11, .func (PySem.W.fnOf "sizes" "Table.sizes" (defArgs s_Table_sizes) (defBody s_Table_sizes) (defScope s_Table_sizes) .none kV11 dc11 pm11 an11 cd11 ct11), sl11⟩)
    (c11 : PySem.W.codeIn K cd11 "Table.sizes" = true)
    (k11 : PySem.W.keepIn K (.ref f11) = true)
    (a12 : PySem.W.findIn K (.ref C_Table) "count" = some (some (.ref f12)))
    (i12 : PySem.W.isFn K (.ref f12) = true)
    (l12 : K.lookup f12 = some ⟨oc12, od12, .func (PySem.W.fnOf "count" "Table.count" (defArgs s_Table_count) (defBody s_Table_count) (defScope s_Table_count) .none kV12 dc12 pm12 an12 cd12 ct12), sl12⟩)
    (c12 : PySem.W.codeIn K cd12 "Table.count" = true)
    (k12 : PySem.W.keepIn K (.ref f12) = true)
    (a13 : PySem.W.findIn K (.ref C_Table) "is_seat" = some (some (.ref f13)))
    (i13 : PySem.W.isFn K (.ref f13) = true)
    (l13 : K.lookup f13 = some ⟨oc13, od13, .func (PySem.W.fnOf "is_seat" "Table.is_seat" (defArgs s_Table_is_seat) (defBody s_Table_is_seat) (defScope s_Table_is_seat) .none kV13 dc13 pm13 an13 cd13 ct13), sl13⟩)
    (c13 : PySem.W.codeIn K cd13 "Table.is_seat" = true)
    (k13 : PySem.W.keepIn K (.ref f13) = true)
    (a14 : PySem.W.findIn K (.ref C_Table) "is_call" = some (some (.ref f14)))
    (i14 : PySem.W.isFn K (.ref f14) = true)
    (l14 : K.lookup f14 = some ⟨oc14, od14, .func (PySem.W.fnOf "is_call" "Table.is_call" (defArgs s_Table_is_call) (defBody s_Table_is_call) (defScope s_Table_is_call) .none kV14 dc14 pm14 an14 cd14 ct14), sl14⟩)
    (c14 : PySem.W.codeIn K cd14 "Table.is_call" = true)
    (k14 : PySem.W.keepIn K (.ref f14) = true)
    (a15 : PySem.W.findIn K (.ref C_Table) "shifted" = some (some (.ref f15)))
    (i15 : PySem.W.isFn K (.ref f15) = true)
    (l15 : K.lookup f15 = some ⟨oc15, od15, .func (PySem.W.fnOf "shifted" "Table.shifted" (defArgs s_Table_shifted) (defBody s_Table_shifted) (defScope s_Table_shifted) .none kV15 dc15 pm15 an15 cd15 ct15), sl15⟩)
    (c15 : PySem.W.codeIn K cd15 "Table.shifted" = true)
    (k15 : PySem.W.keepIn K (.ref f15) = true)
    (a16 : PySem.W.findIn K (.ref C_Table) "moves" = some (some (.ref f16)))
    (i16 : PySem.W.isFn K (.ref f16) = true)
    (l16 : K.lookup f16 = some ⟨oc16, od16, .func (PySem.W.fnOf "moves" "Table.moves" (defArgs s_Table_moves) (defBody s_Table_moves) (defScope s_Table_moves) .none kV16 dc16 pm16 an16 cd16 ct16), sl16⟩)
    (c16 : PySem.W.codeIn K cd16 "Table.moves" = true)
    (k16 : PySem.W.keepIn K (.ref f16) = true)
    (a17 : PySem.W.findIn K (.ref C_Table) "step" = some (some (.ref f17)))
    (i17 : PySem.W.isFn K (.ref f17) = true)
    (l17 : K.lookup f17 = some ⟨oc17, od17, .func (PySem.W.fnOf "step" "Table.step" (defArgs s_Table_step) (defBody s_Table_step) (defScope s_Table_step) .none kV17 dc17 pm17 an17 cd17 ct17), sl17⟩)
    (c17 : PySem.W.codeIn K cd17 "Table.step" = true)
    (k17 : PySem.W.keepIn K (.ref f17) = true)
    (a18 : PySem.W.findIn K (.ref C_Table) "order" = some (some (.ref f18)))
    (i18 : PySem.W.isFn K (.ref f18) = true)
    (l18 : K.lookup f18 = some ⟨oc18, od18, .func (PySem.W.fnOf "order" "Table.order" (defArgs s_Table_order) (defBody s_Table_order) (defScope s_Table_order) .none kV18 dc18 pm18 an18 cd18 ct18), sl18⟩)
    (c18 : PySem.W.codeIn K cd18 "Table.order" = true)
    (k18 : PySem.W.keepIn K (.ref f18) = true)
    (a19 : PySem.W.findIn K (.ref C_Table) "halves" = some (some (.ref f19)))
    (i19 : PySem.W.isFn K (.ref f19) = true)
    (l19 : K.lookup f19 = some ⟨oc19, od19, .func (PySem.W.fnOf "halves" "Table.halves" (defArgs s_Table_halves) (defBody s_Table_halves) (defScope s_Table_halves) .none kV19 dc19 pm19 an19 cd19 ct19), sl19⟩)
    (c19 : PySem.W.codeIn K cd19 "Table.halves" = true)
    (k19 : PySem.W.keepIn K (.ref f19) = true)
    (a20 : PySem.W.nsIn K mainGlobals "require_table" = some (some (.ref f20)))
    (l20 : K.lookup f20 = some ⟨oc20, od20, .func (PySem.W.fnOf "require_table" "require_table" (defArgs s_require_table) (defBody s_require_table) (defScope s_require_table) .none kV20 dc20 pm20 an20 cd20 ct20), sl20⟩)
    (c20 : PySem.W.codeIn K cd20 "require_table" = true)
    (k20 : PySem.W.keepIn K (.ref f20) = true)
    (a21 : PySem.W.nsIn K mainGlobals "require_seat" = some (some (.ref f21)))
    (l21 : K.lookup f21 = some ⟨oc21, od21, .func (PySem.W.fnOf "require_seat" "require_seat" (defArgs s_require_seat) (defBody s_require_seat) (defScope s_require_seat) .none kV21 dc21 pm21 an21 cd21 ct21), sl21⟩)
    (c21 : PySem.W.codeIn K cd21 "require_seat" = true)
    (k21 : PySem.W.keepIn K (.ref f21) = true)
    (a22 : PySem.W.nsIn K mainGlobals "require_targets" = some (some (.ref f22)))
    (l22 : K.lookup f22 = some ⟨oc22, od22, .func (PySem.W.fnOf "require_targets" "require_targets" (defArgs s_require_targets) (defBody s_require_targets) (defScope s_require_targets) .none kV22 dc22 pm22 an22 cd22 ct22), sl22⟩)
    (c22 : PySem.W.codeIn K cd22 "require_targets" = true)
    (k22 : PySem.W.keepIn K (.ref f22) = true)
    (a23 : PySem.W.nsIn K mainGlobals "combined" = some (some (.ref f23)))
    (l23 : K.lookup f23 = some ⟨oc23, od23, .func (PySem.W.fnOf "combined" "combined" (defArgs s_combined) (defBody s_combined) (defScope s_combined) .none kV23 dc23 pm23 an23 cd23 ct23), sl23⟩)
    (c23 : PySem.W.codeIn K cd23 "combined" = true)
    (k23 : PySem.W.keepIn K (.ref f23) = true)
    (a24 : PySem.W.nsIn K mainGlobals "reduced" = some (some (.ref f24)))
    (l24 : K.lookup f24 = some ⟨oc24, od24, .func (PySem.W.fnOf "reduced" "reduced" (defArgs s_reduced) (defBody s_reduced) (defScope s_reduced) .none kV24 dc24 pm24 an24 cd24 ct24), sl24⟩)
    (c24 : PySem.W.codeIn K cd24 "reduced" = true)
    (k24 : PySem.W.keepIn K (.ref f24) = true)
    (a25 : PySem.W.nsIn K mainGlobals "shift_basis" = some (some (.ref f25)))
    (l25 : K.lookup f25 = some ⟨oc25, od25, .func (PySem.W.fnOf "shift_basis" "shift_basis" (defArgs s_shift_basis) (defBody s_shift_basis) (defScope s_shift_basis) .none kV25 dc25 pm25 an25 cd25 ct25), sl25⟩)
    (c25 : PySem.W.codeIn K cd25 "shift_basis" = true)
    (k25 : PySem.W.keepIn K (.ref f25) = true)
    (a26 : PySem.W.nsIn K mainGlobals "diagonal_product" = some (some (.ref f26)))
    (l26 : K.lookup f26 = some ⟨oc26, od26, .func (PySem.W.fnOf "diagonal_product" "diagonal_product" (defArgs s_diagonal_product) (defBody s_diagonal_product) (defScope s_diagonal_product) .none kV26 dc26 pm26 an26 cd26 ct26), sl26⟩)
    (c26 : PySem.W.codeIn K cd26 "diagonal_product" = true)
    (k26 : PySem.W.keepIn K (.ref f26) = true)
    (a27 : PySem.W.nsIn K mainGlobals "coordinates" = some (some (.ref f27)))
    (l27 : K.lookup f27 = some ⟨oc27, od27, .func (PySem.W.fnOf "coordinates" "coordinates" (defArgs s_coordinates) (defBody s_coordinates) (defScope s_coordinates) .none kV27 dc27 pm27 an27 cd27 ct27), sl27⟩)
    (c27 : PySem.W.codeIn K cd27 "coordinates" = true)
    (k27 : PySem.W.keepIn K (.ref f27) = true)
    (a28 : PySem.W.nsIn K mainGlobals "is_free" = some (some (.ref f28)))
    (l28 : K.lookup f28 = some ⟨oc28, od28, .func (PySem.W.fnOf "is_free" "is_free" (defArgs s_is_free) (defBody s_is_free) (defScope s_is_free) .none kV28 dc28 pm28 an28 cd28 ct28), sl28⟩)
    (c28 : PySem.W.codeIn K cd28 "is_free" = true)
    (k28 : PySem.W.keepIn K (.ref f28) = true)
    (a29 : PySem.W.nsIn K mainGlobals "coset_count" = some (some (.ref f29)))
    (l29 : K.lookup f29 = some ⟨oc29, od29, .func (PySem.W.fnOf "coset_count" "coset_count" (defArgs s_coset_count) (defBody s_coset_count) (defScope s_coset_count) .none kV29 dc29 pm29 an29 cd29 ct29), sl29⟩)
    (c29 : PySem.W.codeIn K cd29 "coset_count" = true)
    (k29 : PySem.W.keepIn K (.ref f29) = true)
    (a30 : PySem.W.nsIn K mainGlobals "separating_witness" = some (some (.ref f30)))
    (l30 : K.lookup f30 = some ⟨oc30, od30, .func (PySem.W.fnOf "separating_witness" "separating_witness" (defArgs s_separating_witness) (defBody s_separating_witness) (defScope s_separating_witness) .none kV30 dc30 pm30 an30 cd30 ct30), sl30⟩)
    (c30 : PySem.W.codeIn K cd30 "separating_witness" = true)
    (k30 : PySem.W.keepIn K (.ref f30) = true)
    (a31 : PySem.W.nsIn K mainGlobals "reach" = some (some (.ref f31)))
    (l31 : K.lookup f31 = some ⟨oc31, od31, .func (PySem.W.fnOf "reach" "reach" (defArgs s_reach) (defBody s_reach) (defScope s_reach) .none kV31 dc31 pm31 an31 cd31 ct31), sl31⟩)
    (c31 : PySem.W.codeIn K cd31 "reach" = true)
    (k31 : PySem.W.keepIn K (.ref f31) = true)
    (a32 : PySem.W.nsIn K mainGlobals "weighted" = some (some (.ref f32)))
    (l32 : K.lookup f32 = some ⟨oc32, od32, .func (PySem.W.fnOf "weighted" "weighted" (defArgs s_weighted) (defBody s_weighted) (defScope s_weighted) .none kV32 dc32 pm32 an32 cd32 ct32), sl32⟩)
    (c32 : PySem.W.codeIn K cd32 "weighted" = true)
    (k32 : PySem.W.keepIn K (.ref f32) = true)
    (a33 : PySem.W.nsIn K mainGlobals "is_witness" = some (some (.ref f33)))
    (l33 : K.lookup f33 = some ⟨oc33, od33, .func (PySem.W.fnOf "is_witness" "is_witness" (defArgs s_is_witness) (defBody s_is_witness) (defScope s_is_witness) .none kV33 dc33 pm33 an33 cd33 ct33), sl33⟩)
    (c33 : PySem.W.codeIn K cd33 "is_witness" = true)
    (k33 : PySem.W.keepIn K (.ref f33) = true)
    (a34 : PySem.W.nsIn K mainGlobals "require_witness" = some (some (.ref f34)))
    (l34 : K.lookup f34 = some ⟨oc34, od34, .func (PySem.W.fnOf "require_witness" "require_witness" (defArgs s_require_witness) (defBody s_require_witness) (defScope s_require_witness) .none kV34 dc34 pm34 an34 cd34 ct34), sl34⟩)
    (c34 : PySem.W.codeIn K cd34 "require_witness" = true)
    (k34 : PySem.W.keepIn K (.ref f34) = true)
    (a35 : PySem.W.nsIn K mainGlobals "check_witness" = some (some (.ref f35)))
    (l35 : K.lookup f35 = some ⟨oc35, od35, .func (PySem.W.fnOf "check_witness" "check_witness" (defArgs s_check_witness) (defBody s_check_witness) (defScope s_check_witness) .none kV35 dc35 pm35 an35 cd35 ct35), sl35⟩)
    (c35 : PySem.W.codeIn K cd35 "check_witness" = true)
    (k35 : PySem.W.keepIn K (.ref f35) = true)
    (a36 : PySem.W.nsIn K mainGlobals "value" = some (some (.ref f36)))
    (l36 : K.lookup f36 = some ⟨oc36, od36, .func (PySem.W.fnOf "value" "value" (defArgs s_value) (defBody s_value) (defScope s_value) .none kV36 dc36 pm36 an36 cd36 ct36), sl36⟩)
    (c36 : PySem.W.codeIn K cd36 "value" = true)
    (k36 : PySem.W.keepIn K (.ref f36) = true)
    (a37 : PySem.W.nsIn K mainGlobals "_law_mixed" = some (some (.ref f37)))
    (l37 : K.lookup f37 = some ⟨oc37, od37, .func (PySem.W.fnOf "_law_mixed" "_law_mixed" (defArgs s_law_mixed) (defBody s_law_mixed) (defScope s_law_mixed) .none kV37 dc37 pm37 an37 cd37 ct37), sl37⟩)
    (c37 : PySem.W.codeIn K cd37 "_law_mixed" = true)
    (k37 : PySem.W.keepIn K (.ref f37) = true)
    (a38 : PySem.W.nsIn K mainGlobals "_law_source" = some (some (.ref f38)))
    (l38 : K.lookup f38 = some ⟨oc38, od38, .func (PySem.W.fnOf "_law_source" "_law_source" (defArgs s_law_source) (defBody s_law_source) (defScope s_law_source) .none kV38 dc38 pm38 an38 cd38 ct38), sl38⟩)
    (c38 : PySem.W.codeIn K cd38 "_law_source" = true)
    (k38 : PySem.W.keepIn K (.ref f38) = true)
    (a39 : PySem.W.nsIn K mainGlobals "_law_take" = some (some (.ref f39)))
    (l39 : K.lookup f39 = some ⟨oc39, od39, .func (PySem.W.fnOf "_law_take" "_law_take" (defArgs s_law_take) (defBody s_law_take) (defScope s_law_take) .none kV39 dc39 pm39 an39 cd39 ct39), sl39⟩)
    (c39 : PySem.W.codeIn K cd39 "_law_take" = true)
    (k39 : PySem.W.keepIn K (.ref f39) = true)
    (a40 : PySem.W.nsIn K mainGlobals "_law_raised" = some (some (.ref f40)))
    (l40 : K.lookup f40 = some ⟨oc40, od40, .func (PySem.W.fnOf "_law_raised" "_law_raised" (defArgs s_law_raised) (defBody s_law_raised) (defScope s_law_raised) .none kV40 dc40 pm40 an40 cd40 ct40), sl40⟩)
    (c40 : PySem.W.codeIn K cd40 "_law_raised" = true)
    (k40 : PySem.W.keepIn K (.ref f40) = true)
    (a41 : PySem.W.nsIn K mainGlobals "_law_bad_goals" = some (some (.ref f41)))
    (l41 : K.lookup f41 = some ⟨oc41, od41, .func (PySem.W.fnOf "_law_bad_goals" "_law_bad_goals" (defArgs s_law_bad_goals) (defBody s_law_bad_goals) (defScope s_law_bad_goals) .none kV41 dc41 pm41 an41 cd41 ct41), sl41⟩)
    (c41 : PySem.W.codeIn K cd41 "_law_bad_goals" = true)
    (k41 : PySem.W.keepIn K (.ref f41) = true)
    (a42 : PySem.W.nsIn K mainGlobals "_law_check" = some (some (.ref f42)))
    (l42 : K.lookup f42 = some ⟨oc42, od42, .func (PySem.W.fnOf "_law_check" "_law_check" (defArgs s_law_check) (defBody s_law_check) (defScope s_law_check) .none kV42 dc42 pm42 an42 cd42 ct42), sl42⟩)
    (c42 : PySem.W.codeIn K cd42 "_law_check" = true)
    (k42 : PySem.W.keepIn K (.ref f42) = true)
    (a43 : PySem.W.nsIn K mainGlobals "law" = some (some (.ref f43)))
    (l43 : K.lookup f43 = some ⟨oc43, od43, .func (PySem.W.fnOf "law" "law" (defArgs s_law) (defBody s_law) (defScope s_law) .none kV43 dc43 pm43 an43 cd43 ct43), sl43⟩)
    (c43 : PySem.W.codeIn K cd43 "law" = true)
    (k43 : PySem.W.keepIn K (.ref f43) = true)
    (xl_InvalidTable : K.lookup C_InvalidTable = some (excClassObj nm_InvalidTable q_InvalidTable C_InvalidTable N_InvalidTable bs_InvalidTable [.ref B_InvalidTable, .type "ValueError", .type "Exception", .type "BaseException", .type "object"] true sn_InvalidTable sub_InvalidTable ab_InvalidTable col_InvalidTable dd_InvalidTable m0_InvalidTable m1_InvalidTable m2_InvalidTable m3_InvalidTable m5_InvalidTable "ValueError.__new__"))
    (sa_InvalidTable : PySem.W.findIn K (.ref C_InvalidTable) "__setattr__" = some (some (.builtin "object.__setattr__")))
    (ga_InvalidTable : PySem.W.findIn K (.ref C_InvalidTable) "__getattribute__" = some (some (.builtin "BaseException.__getattribute__")))
    (gg_InvalidTable : PySem.W.findIn K (.ref C_InvalidTable) "__getattr__" = some none)
    (ti_InvalidTable : PySem.W.typeIn K (.ref f1) = some (.type "function"))
    (kc_InvalidTable : PySem.W.keepIn K (.ref C_InvalidTable) = true)
    (ex_InvalidTable : PySem.W.subIn K (.ref C_InvalidTable) (.type "BaseException") = some true)
    (ty_InvalidTable : PySem.W.typeIn K (.ref C_InvalidTable) = some (.type "type"))
    (hd_InvalidTable : PySem.W.hasDictIn K C_InvalidTable = true)
    (il_InvalidTable : PySem.W.isClsIn K C_InvalidTable = true)
    (ss_InvalidTable : PySem.W.subIn K (.ref C_InvalidTable) (.ref C_InvalidTable) = some true)
    (ss_InvalidTable_SeatError : PySem.W.subIn K (.ref C_InvalidTable) (.ref C_SeatError) = some true)
    (n_InvalidTable_rings : PySem.W.findIn K (.ref C_InvalidTable) "rings" = some none)
    (xl_InvalidTargets : K.lookup C_InvalidTargets = some (excClassObj nm_InvalidTargets q_InvalidTargets C_InvalidTargets N_InvalidTargets bs_InvalidTargets [.ref B_InvalidTargets, .type "ValueError", .type "Exception", .type "BaseException", .type "object"] true sn_InvalidTargets sub_InvalidTargets ab_InvalidTargets col_InvalidTargets dd_InvalidTargets m0_InvalidTargets m1_InvalidTargets m2_InvalidTargets m3_InvalidTargets m5_InvalidTargets "ValueError.__new__"))
    (sa_InvalidTargets : PySem.W.findIn K (.ref C_InvalidTargets) "__setattr__" = some (some (.builtin "object.__setattr__")))
    (ga_InvalidTargets : PySem.W.findIn K (.ref C_InvalidTargets) "__getattribute__" = some (some (.builtin "BaseException.__getattribute__")))
    (gg_InvalidTargets : PySem.W.findIn K (.ref C_InvalidTargets) "__getattr__" = some none)
    (ti_InvalidTargets : PySem.W.typeIn K (.ref f2) = some (.type "function"))
    (kc_InvalidTargets : PySem.W.keepIn K (.ref C_InvalidTargets) = true)
    (ex_InvalidTargets : PySem.W.subIn K (.ref C_InvalidTargets) (.type "BaseException") = some true)
    (ty_InvalidTargets : PySem.W.typeIn K (.ref C_InvalidTargets) = some (.type "type"))
    (hd_InvalidTargets : PySem.W.hasDictIn K C_InvalidTargets = true)
    (il_InvalidTargets : PySem.W.isClsIn K C_InvalidTargets = true)
    (ss_InvalidTargets : PySem.W.subIn K (.ref C_InvalidTargets) (.ref C_InvalidTargets) = some true)
    (ss_InvalidTargets_SeatError : PySem.W.subIn K (.ref C_InvalidTargets) (.ref C_SeatError) = some true)
    (n_InvalidTargets_index : PySem.W.findIn K (.ref C_InvalidTargets) "index" = some none)
    (xl_InvalidSeat : K.lookup C_InvalidSeat = some (excClassObj nm_InvalidSeat q_InvalidSeat C_InvalidSeat N_InvalidSeat bs_InvalidSeat [.ref B_InvalidSeat, .type "ValueError", .type "Exception", .type "BaseException", .type "object"] true sn_InvalidSeat sub_InvalidSeat ab_InvalidSeat col_InvalidSeat dd_InvalidSeat m0_InvalidSeat m1_InvalidSeat m2_InvalidSeat m3_InvalidSeat m5_InvalidSeat "ValueError.__new__"))
    (sa_InvalidSeat : PySem.W.findIn K (.ref C_InvalidSeat) "__setattr__" = some (some (.builtin "object.__setattr__")))
    (ga_InvalidSeat : PySem.W.findIn K (.ref C_InvalidSeat) "__getattribute__" = some (some (.builtin "BaseException.__getattribute__")))
    (gg_InvalidSeat : PySem.W.findIn K (.ref C_InvalidSeat) "__getattr__" = some none)
    (ti_InvalidSeat : PySem.W.typeIn K (.ref f3) = some (.type "function"))
    (kc_InvalidSeat : PySem.W.keepIn K (.ref C_InvalidSeat) = true)
    (ex_InvalidSeat : PySem.W.subIn K (.ref C_InvalidSeat) (.type "BaseException") = some true)
    (ty_InvalidSeat : PySem.W.typeIn K (.ref C_InvalidSeat) = some (.type "type"))
    (hd_InvalidSeat : PySem.W.hasDictIn K C_InvalidSeat = true)
    (il_InvalidSeat : PySem.W.isClsIn K C_InvalidSeat = true)
    (ss_InvalidSeat : PySem.W.subIn K (.ref C_InvalidSeat) (.ref C_InvalidSeat) = some true)
    (ss_InvalidSeat_SeatError : PySem.W.subIn K (.ref C_InvalidSeat) (.ref C_SeatError) = some true)
    (n_InvalidSeat_seat : PySem.W.findIn K (.ref C_InvalidSeat) "seat" = some none)
    (xl_InvalidWitness : K.lookup C_InvalidWitness = some (excClassObj nm_InvalidWitness q_InvalidWitness C_InvalidWitness N_InvalidWitness bs_InvalidWitness [.ref B_InvalidWitness, .type "ValueError", .type "Exception", .type "BaseException", .type "object"] true sn_InvalidWitness sub_InvalidWitness ab_InvalidWitness col_InvalidWitness dd_InvalidWitness m0_InvalidWitness m1_InvalidWitness m2_InvalidWitness m3_InvalidWitness m5_InvalidWitness "ValueError.__new__"))
    (sa_InvalidWitness : PySem.W.findIn K (.ref C_InvalidWitness) "__setattr__" = some (some (.builtin "object.__setattr__")))
    (ga_InvalidWitness : PySem.W.findIn K (.ref C_InvalidWitness) "__getattribute__" = some (some (.builtin "BaseException.__getattribute__")))
    (gg_InvalidWitness : PySem.W.findIn K (.ref C_InvalidWitness) "__getattr__" = some none)
    (ti_InvalidWitness : PySem.W.typeIn K (.ref f4) = some (.type "function"))
    (kc_InvalidWitness : PySem.W.keepIn K (.ref C_InvalidWitness) = true)
    (ex_InvalidWitness : PySem.W.subIn K (.ref C_InvalidWitness) (.type "BaseException") = some true)
    (ty_InvalidWitness : PySem.W.typeIn K (.ref C_InvalidWitness) = some (.type "type"))
    (hd_InvalidWitness : PySem.W.hasDictIn K C_InvalidWitness = true)
    (il_InvalidWitness : PySem.W.isClsIn K C_InvalidWitness = true)
    (ss_InvalidWitness : PySem.W.subIn K (.ref C_InvalidWitness) (.ref C_InvalidWitness) = some true)
    (ss_InvalidWitness_SeatError : PySem.W.subIn K (.ref C_InvalidWitness) (.ref C_SeatError) = some true)
    (n_InvalidWitness_index : PySem.W.findIn K (.ref C_InvalidWitness) "index" = some none)
    (pg_Table : PySem.W.plainGet K C_Table Str.empty = true)
    (hd_Table : PySem.W.hasDictIn K C_Table = true)
    (po_Table : PySem.W.plainOver K C_Table = true)
    (sa_Table : PySem.W.findIn K (.ref C_Table) "__setattr__" = some (some (.builtin "object.__setattr__")))
    (mk_Table : PySem.W.makesIn K C_Table = true)
    (kc_Table : PySem.W.keepIn K (.ref C_Table) = true)
    (n_Table_rings : PySem.W.findIn K (.ref C_Table) "rings" = some none)
    (ic_Table : PySem.W.findIn K (.ref C_Table) "__class__" = some (some (.builtin "object.__class__")))
    (im_Table : PySem.W.mroIn K C_Table (.type "object") = some true)
    (ig_ : PySem.W.specialIn K (.builtin "object.__class__") "__get__" = some (some (.builtin "getset_descriptor.__get__")))
    (it_ : PySem.W.takesIn K (.builtin "object.__class__") = some true)
    (ic_InvalidTable : PySem.W.findIn K (.ref C_InvalidTable) "__class__" = some (some (.builtin "object.__class__")))
    (im_InvalidTable : PySem.W.mroIn K C_InvalidTable (.type "object") = some true)
    (ic_InvalidTargets : PySem.W.findIn K (.ref C_InvalidTargets) "__class__" = some (some (.builtin "object.__class__")))
    (im_InvalidTargets : PySem.W.mroIn K C_InvalidTargets (.type "object") = some true)
    (ic_InvalidSeat : PySem.W.findIn K (.ref C_InvalidSeat) "__class__" = some (some (.builtin "object.__class__")))
    (im_InvalidSeat : PySem.W.mroIn K C_InvalidSeat (.type "object") = some true)
    (ic_InvalidWitness : PySem.W.findIn K (.ref C_InvalidWitness) "__class__" = some (some (.builtin "object.__class__")))
    (im_InvalidWitness : PySem.W.mroIn K C_InvalidWitness (.type "object") = some true)
    (ki_InvalidTable_InvalidTargets : PySem.W.kitAny K (.ref C_InvalidTable) [.ref C_InvalidTargets] = some false)
    (ki_InvalidTable_InvalidSeat : PySem.W.kitAny K (.ref C_InvalidTable) [.ref C_InvalidSeat] = some false)
    (ki_InvalidTable_InvalidWitness : PySem.W.kitAny K (.ref C_InvalidTable) [.ref C_InvalidWitness] = some false)
    (ki_InvalidTable_InvalidCall : PySem.W.kitAny K (.ref C_InvalidTable) [.ref C_InvalidCall] = some false)
    (ki_InvalidTable_ValueError : PySem.W.kitAny K (.ref C_InvalidTable) [.type "ValueError"] = some true)
    (ki_InvalidTargets_InvalidTable : PySem.W.kitAny K (.ref C_InvalidTargets) [.ref C_InvalidTable] = some false)
    (ki_InvalidTargets_InvalidSeat : PySem.W.kitAny K (.ref C_InvalidTargets) [.ref C_InvalidSeat] = some false)
    (ki_InvalidTargets_InvalidWitness : PySem.W.kitAny K (.ref C_InvalidTargets) [.ref C_InvalidWitness] = some false)
    (ki_InvalidTargets_InvalidCall : PySem.W.kitAny K (.ref C_InvalidTargets) [.ref C_InvalidCall] = some false)
    (ki_InvalidTargets_ValueError : PySem.W.kitAny K (.ref C_InvalidTargets) [.type "ValueError"] = some true)
    (ki_InvalidSeat_InvalidTable : PySem.W.kitAny K (.ref C_InvalidSeat) [.ref C_InvalidTable] = some false)
    (ki_InvalidSeat_InvalidTargets : PySem.W.kitAny K (.ref C_InvalidSeat) [.ref C_InvalidTargets] = some false)
    (ki_InvalidSeat_InvalidWitness : PySem.W.kitAny K (.ref C_InvalidSeat) [.ref C_InvalidWitness] = some false)
    (ki_InvalidSeat_InvalidCall : PySem.W.kitAny K (.ref C_InvalidSeat) [.ref C_InvalidCall] = some false)
    (ki_InvalidSeat_ValueError : PySem.W.kitAny K (.ref C_InvalidSeat) [.type "ValueError"] = some true)
    (ki_InvalidWitness_InvalidTable : PySem.W.kitAny K (.ref C_InvalidWitness) [.ref C_InvalidTable] = some false)
    (ki_InvalidWitness_InvalidTargets : PySem.W.kitAny K (.ref C_InvalidWitness) [.ref C_InvalidTargets] = some false)
    (ki_InvalidWitness_InvalidSeat : PySem.W.kitAny K (.ref C_InvalidWitness) [.ref C_InvalidSeat] = some false)
    (ki_InvalidWitness_InvalidCall : PySem.W.kitAny K (.ref C_InvalidWitness) [.ref C_InvalidCall] = some false)
    (ki_InvalidWitness_ValueError : PySem.W.kitAny K (.ref C_InvalidWitness) [.type "ValueError"] = some true)
    (ki_list_Table : PySem.W.kitAny K (.type "list") [.ref C_Table] = some false)
    (ki_tuple_Table : PySem.W.kitAny K (.type "tuple") [.ref C_Table] = some false)
    (ki_int_Table : PySem.W.kitAny K (.type "int") [.ref C_Table] = some false)
    (ki_bool_Table : PySem.W.kitAny K (.type "bool") [.ref C_Table] = some false)
    (ki_str_Table : PySem.W.kitAny K (.type "str") [.ref C_Table] = some false)
    (ki_dict_Table : PySem.W.kitAny K (.type "dict") [.ref C_Table] = some false)
    (ki_NoneType_Table : PySem.W.kitAny K (.type "NoneType") [.ref C_Table] = some false)
    (v_MAX_RINGS : PySem.W.nsIn K mainGlobals "MAX_RINGS" = some (some (.int 4 t_MAX_RINGS)))
    (z_ValueError : PySem.W.nsIn K mainGlobals "ValueError" = some none)
    (z_abs : PySem.W.nsIn K mainGlobals "abs" = some none)
    (z_all : PySem.W.nsIn K mainGlobals "all" = some none)
    (z_bool : PySem.W.nsIn K mainGlobals "bool" = some none)
    (z_enumerate : PySem.W.nsIn K mainGlobals "enumerate" = some none)
    (z_int : PySem.W.nsIn K mainGlobals "int" = some none)
    (z_isinstance : PySem.W.nsIn K mainGlobals "isinstance" = some none)
    (z_len : PySem.W.nsIn K mainGlobals "len" = some none)
    (z_list : PySem.W.nsIn K mainGlobals "list" = some none)
    (z_range : PySem.W.nsIn K mainGlobals "range" = some none)
    (z_repr : PySem.W.nsIn K mainGlobals "repr" = some none)
    (z_sum : PySem.W.nsIn K mainGlobals "sum" = some none)
    (z_tuple : PySem.W.nsIn K mainGlobals "tuple" = some none)
    (z_zip : PySem.W.nsIn K mainGlobals "zip" = some none)
    : ∃ T : TX K mg, T.f_law = f43 ∧ T.fd_law = PySem.W.fnOf "law" "law" (defArgs s_law) (defBody s_law) (defScope s_law) .none kV43 dc43 pm43 an43 cd43 ct43 := by
  have F0 := fun_mk (st := s_wall) l0 c0 k0
  have b0 := F0.binds (ps := ["k"]) fun _ _ _ _ _ _ us hl => match us, hl with | [_], _ => rfl
  have F1 := fun_mk (st := s_InvalidTable_init) l1 c1 k1
  have b1 := F1.binds (ps := ["self", "rings"]) fun _ _ _ _ _ _ us hl => match us, hl with | [_, _], _ => rfl
  have F2 := fun_mk (st := s_InvalidTargets_init) l2 c2 k2
  have b2 := F2.binds (ps := ["self", "index"]) fun _ _ _ _ _ _ us hl => match us, hl with | [_, _], _ => rfl
  have F3 := fun_mk (st := s_InvalidSeat_init) l3 c3 k3
  have b3 := F3.binds (ps := ["self", "seat"]) fun _ _ _ _ _ _ us hl => match us, hl with | [_, _], _ => rfl
  have F4 := fun_mk (st := s_InvalidWitness_init) l4 c4 k4
  have b4 := F4.binds (ps := ["self", "index"]) fun _ _ _ _ _ _ us hl => match us, hl with | [_, _], _ => rfl
  have F5 := fun_mk (st := s_is_integer) l5 c5 k5
  have b5 := F5.binds (ps := ["value"]) fun _ _ _ _ _ _ us hl => match us, hl with | [_], _ => rfl
  have F6 := fun_mk (st := s_is_at_least) l6 c6 k6
  have b6 := F6.binds (ps := ["value", "low"]) fun _ _ _ _ _ _ us hl => match us, hl with | [_, _], _ => rfl
  have F7 := fun_mk (st := s_is_between) l7 c7 k7
  have b7 := F7.binds (ps := ["value", "low", "high"]) fun _ _ _ _ _ _ us hl => match us, hl with | [_, _, _], _ => rfl
  have F8 := fun_mk (st := s_greatest_common_divisor) l8 c8 k8
  have b8 := F8.binds (ps := ["first", "second"]) fun _ _ _ _ _ _ us hl => match us, hl with | [_, _], _ => rfl
  have F9 := fun_mk (st := s_odd_part) l9 c9 k9
  have b9 := F9.binds (ps := ["number"]) fun _ _ _ _ _ _ us hl => match us, hl with | [_], _ => rfl
  have F10 := fun_mk (st := s_Table_init) l10 c10 k10
  have b10 := F10.binds (ps := ["self", "rings"]) fun _ _ _ _ _ _ us hl => match us, hl with | [_, _], _ => rfl
  have F11 := fun_mk (st := s_Table_sizes) l11 c11 k11
  have b11 := F11.binds (ps := ["self"]) fun _ _ _ _ _ _ us hl => match us, hl with | [_], _ => rfl
  have F12 := fun_mk (st := s_Table_count) l12 c12 k12
  have b12 := F12.binds (ps := ["self"]) fun _ _ _ _ _ _ us hl => match us, hl with | [_], _ => rfl
  have F13 := fun_mk (st := s_Table_is_seat) l13 c13 k13
  have b13 := F13.binds (ps := ["self", "value"]) fun _ _ _ _ _ _ us hl => match us, hl with | [_, _], _ => rfl
  have F14 := fun_mk (st := s_Table_is_call) l14 c14 k14
  have b14 := F14.binds (ps := ["self", "value"]) fun _ _ _ _ _ _ us hl => match us, hl with | [_, _], _ => rfl
  have F15 := fun_mk (st := s_Table_shifted) l15 c15 k15
  have b15 := F15.binds (ps := ["self", "seat", "call", "factor"]) fun _ _ _ _ _ _ us hl => match us, hl with | [_, _, _, _], _ => rfl
  have F16 := fun_mk (st := s_Table_moves) l16 c16 k16
  have b16 := F16.binds (ps := ["self", "seat", "call"]) fun _ _ _ _ _ _ us hl => match us, hl with | [_, _, _], _ => rfl
  have F17 := fun_mk (st := s_Table_step) l17 c17 k17
  have b17 := F17.binds (ps := ["self", "seat", "call", "direction"]) fun _ _ _ _ _ _ us hl => match us, hl with | [_, _, _, _], _ => rfl
  have F18 := fun_mk (st := s_Table_order) l18 c18 k18
  have b18 := F18.binds (ps := ["self", "seat"]) fun _ _ _ _ _ _ us hl => match us, hl with | [_, _], _ => rfl
  have F19 := fun_mk (st := s_Table_halves) l19 c19 k19
  have b19 := F19.binds (ps := ["self", "seat"]) fun _ _ _ _ _ _ us hl => match us, hl with | [_, _], _ => rfl
  have F20 := fun_mk (st := s_require_table) l20 c20 k20
  have b20 := F20.binds (ps := ["table"]) fun _ _ _ _ _ _ us hl => match us, hl with | [_], _ => rfl
  have F21 := fun_mk (st := s_require_seat) l21 c21 k21
  have b21 := F21.binds (ps := ["table", "seat"]) fun _ _ _ _ _ _ us hl => match us, hl with | [_, _], _ => rfl
  have F22 := fun_mk (st := s_require_targets) l22 c22 k22
  have b22 := F22.binds (ps := ["table", "targets"]) fun _ _ _ _ _ _ us hl => match us, hl with | [_, _], _ => rfl
  have F23 := fun_mk (st := s_combined) l23 c23 k23
  have b23 := F23.binds (ps := ["first", "second", "column"]) fun _ _ _ _ _ _ us hl => match us, hl with | [_, _, _], _ => rfl
  have F24 := fun_mk (st := s_reduced) l24 c24 k24
  have b24 := F24.binds (ps := ["row", "column", "odds"]) fun _ _ _ _ _ _ us hl => match us, hl with | [_, _, _], _ => rfl
  have F25 := fun_mk (st := s_shift_basis) l25 c25 k25
  have b25 := F25.binds (ps := ["sizes", "targets"]) fun _ _ _ _ _ _ us hl => match us, hl with | [_, _], _ => rfl
  have F26 := fun_mk (st := s_diagonal_product) l26 c26 k26
  have b26 := F26.binds (ps := ["basis"]) fun _ _ _ _ _ _ us hl => match us, hl with | [_], _ => rfl
  have F27 := fun_mk (st := s_coordinates) l27 c27 k27
  have b27 := F27.binds (ps := ["basis", "vector"]) fun _ _ _ _ _ _ us hl => match us, hl with | [_, _], _ => rfl
  have F28 := fun_mk (st := s_is_free) l28 c28 k28
  have b28 := F28.binds (ps := ["basis", "vector"]) fun _ _ _ _ _ _ us hl => match us, hl with | [_, _], _ => rfl
  have F29 := fun_mk (st := s_coset_count) l29 c29 k29
  have b29 := F29.binds (ps := ["table", "targets"]) fun _ _ _ _ _ _ us hl => match us, hl with | [_, _], _ => rfl
  have F30 := fun_mk (st := s_separating_witness) l30 c30 k30
  have b30 := F30.binds (ps := ["sizes", "targets", "basis", "difference"]) fun _ _ _ _ _ _ us hl => match us, hl with | [_, _, _, _], _ => rfl
  have F31 := fun_mk (st := s_reach) l31 c31 k31
  have b31 := F31.binds (ps := ["table", "targets", "seat"]) fun _ _ _ _ _ _ us hl => match us, hl with | [_, _, _], _ => rfl
  have F32 := fun_mk (st := s_weighted) l32 c32 k32
  have b32 := F32.binds (ps := ["modulus", "weights", "seat"]) fun _ _ _ _ _ _ us hl => match us, hl with | [_, _, _], _ => rfl
  have F33 := fun_mk (st := s_is_witness) l33 c33 k33
  have b33 := F33.binds (ps := ["table", "witness"]) fun _ _ _ _ _ _ us hl => match us, hl with | [_, _], _ => rfl
  have F34 := fun_mk (st := s_require_witness) l34 c34 k34
  have b34 := F34.binds (ps := ["table", "witness"]) fun _ _ _ _ _ _ us hl => match us, hl with | [_, _], _ => rfl
  have F35 := fun_mk (st := s_check_witness) l35 c35 k35
  have b35 := F35.binds (ps := ["table", "targets", "seat", "witness"]) fun _ _ _ _ _ _ us hl => match us, hl with | [_, _, _, _], _ => rfl
  have F36 := fun_mk (st := s_value) l36 c36 k36
  have b36 := F36.binds (ps := ["table", "witness", "seat"]) fun _ _ _ _ _ _ us hl => match us, hl with | [_, _, _], _ => rfl
  have F37 := fun_mk (st := s_law_mixed) l37 c37 k37
  have b37 := F37.binds (ps := ["_law_cell", "_law_draw"]) fun _ _ _ _ _ _ us hl => match us, hl with | [_, _], _ => rfl
  have F38 := fun_mk (st := s_law_source) l38 c38 k38
  have b38 := F38.binds (ps := ["_law_cell"]) fun _ _ _ _ _ _ us hl => match us, hl with | [_], _ => rfl
  have F39 := fun_mk (st := s_law_take) l39 c39 k39
  have b39 := F39.binds (ps := ["_law_source_here", "_law_count"]) fun _ _ _ _ _ _ us hl => match us, hl with | [_, _], _ => rfl
  have F40 := fun_mk (st := s_law_raised) l40 c40 k40
  have b40 := F40.binds (ps := ["_law_attempt"]) fun _ _ _ _ _ _ us hl => match us, hl with | [_], _ => rfl
  have F41 := fun_mk (st := s_law_bad_goals) l41 c41 k41
  have b41 := F41.binds (ps := ["_law_source_here", "_law_sizes"]) fun _ _ _ _ _ _ us hl => match us, hl with | [_, _], _ => rfl
  have F42 := fun_mk (st := s_law_check) l42 c42 k42
  have b42 := F42.binds (ps := ["_law_source_here"]) fun _ _ _ _ _ _ us hl => match us, hl with | [_], _ => rfl
  have F43 := fun_mk (st := s_law) l43 c43 k43
  have b43 := F43.binds (ps := ["_law_script"]) fun _ _ _ _ _ _ us hl => match us, hl with | [_], _ => rfl
  exact ⟨{
    f_wall := f0, fd_wall := _, F_wall := F0, b_wall := b0, m_wall := PySem.W.mg_of X G a0,
    f_InvalidTable_init := f1, fd_InvalidTable_init := _, F_InvalidTable_init := F1, b_InvalidTable_init := b1,
    f_InvalidTargets_init := f2, fd_InvalidTargets_init := _, F_InvalidTargets_init := F2, b_InvalidTargets_init := b2,
    f_InvalidSeat_init := f3, fd_InvalidSeat_init := _, F_InvalidSeat_init := F3, b_InvalidSeat_init := b3,
    f_InvalidWitness_init := f4, fd_InvalidWitness_init := _, F_InvalidWitness_init := F4, b_InvalidWitness_init := b4,
    f_is_integer := f5, fd_is_integer := _, F_is_integer := F5, b_is_integer := b5, m_is_integer := PySem.W.mg_of X G a5,
    f_is_at_least := f6, fd_is_at_least := _, F_is_at_least := F6, b_is_at_least := b6, m_is_at_least := PySem.W.mg_of X G a6,
    f_is_between := f7, fd_is_between := _, F_is_between := F7, b_is_between := b7, m_is_between := PySem.W.mg_of X G a7,
    f_greatest_common_divisor := f8, fd_greatest_common_divisor := _, F_greatest_common_divisor := F8, b_greatest_common_divisor := b8, m_greatest_common_divisor := PySem.W.mg_of X G a8,
    f_odd_part := f9, fd_odd_part := _, F_odd_part := F9, b_odd_part := b9, m_odd_part := PySem.W.mg_of X G a9,
    f_Table_init := f10, fd_Table_init := _, F_Table_init := F10, b_Table_init := b10,
    f_Table_sizes := f11, fd_Table_sizes := _, F_Table_sizes := F11, b_Table_sizes := b11,
    f_Table_count := f12, fd_Table_count := _, F_Table_count := F12, b_Table_count := b12,
    f_Table_is_seat := f13, fd_Table_is_seat := _, F_Table_is_seat := F13, b_Table_is_seat := b13,
    f_Table_is_call := f14, fd_Table_is_call := _, F_Table_is_call := F14, b_Table_is_call := b14,
    f_Table_shifted := f15, fd_Table_shifted := _, F_Table_shifted := F15, b_Table_shifted := b15,
    f_Table_moves := f16, fd_Table_moves := _, F_Table_moves := F16, b_Table_moves := b16,
    f_Table_step := f17, fd_Table_step := _, F_Table_step := F17, b_Table_step := b17,
    f_Table_order := f18, fd_Table_order := _, F_Table_order := F18, b_Table_order := b18,
    f_Table_halves := f19, fd_Table_halves := _, F_Table_halves := F19, b_Table_halves := b19,
    f_require_table := f20, fd_require_table := _, F_require_table := F20, b_require_table := b20, m_require_table := PySem.W.mg_of X G a20,
    f_require_seat := f21, fd_require_seat := _, F_require_seat := F21, b_require_seat := b21, m_require_seat := PySem.W.mg_of X G a21,
    f_require_targets := f22, fd_require_targets := _, F_require_targets := F22, b_require_targets := b22, m_require_targets := PySem.W.mg_of X G a22,
    f_combined := f23, fd_combined := _, F_combined := F23, b_combined := b23, m_combined := PySem.W.mg_of X G a23,
    f_reduced := f24, fd_reduced := _, F_reduced := F24, b_reduced := b24, m_reduced := PySem.W.mg_of X G a24,
    f_shift_basis := f25, fd_shift_basis := _, F_shift_basis := F25, b_shift_basis := b25, m_shift_basis := PySem.W.mg_of X G a25,
    f_diagonal_product := f26, fd_diagonal_product := _, F_diagonal_product := F26, b_diagonal_product := b26, m_diagonal_product := PySem.W.mg_of X G a26,
    f_coordinates := f27, fd_coordinates := _, F_coordinates := F27, b_coordinates := b27, m_coordinates := PySem.W.mg_of X G a27,
    f_is_free := f28, fd_is_free := _, F_is_free := F28, b_is_free := b28, m_is_free := PySem.W.mg_of X G a28,
    f_coset_count := f29, fd_coset_count := _, F_coset_count := F29, b_coset_count := b29, m_coset_count := PySem.W.mg_of X G a29,
    f_separating_witness := f30, fd_separating_witness := _, F_separating_witness := F30, b_separating_witness := b30, m_separating_witness := PySem.W.mg_of X G a30,
    f_reach := f31, fd_reach := _, F_reach := F31, b_reach := b31, m_reach := PySem.W.mg_of X G a31,
    f_weighted := f32, fd_weighted := _, F_weighted := F32, b_weighted := b32, m_weighted := PySem.W.mg_of X G a32,
    f_is_witness := f33, fd_is_witness := _, F_is_witness := F33, b_is_witness := b33, m_is_witness := PySem.W.mg_of X G a33,
    f_require_witness := f34, fd_require_witness := _, F_require_witness := F34, b_require_witness := b34, m_require_witness := PySem.W.mg_of X G a34,
    f_check_witness := f35, fd_check_witness := _, F_check_witness := F35, b_check_witness := b35, m_check_witness := PySem.W.mg_of X G a35,
    f_value := f36, fd_value := _, F_value := F36, b_value := b36, m_value := PySem.W.mg_of X G a36,
    f_law_mixed := f37, fd_law_mixed := _, F_law_mixed := F37, b_law_mixed := b37, m_law_mixed := PySem.W.mg_of X G a37,
    f_law_source := f38, fd_law_source := _, F_law_source := F38, b_law_source := b38, m_law_source := PySem.W.mg_of X G a38,
    f_law_take := f39, fd_law_take := _, F_law_take := F39, b_law_take := b39, m_law_take := PySem.W.mg_of X G a39,
    f_law_raised := f40, fd_law_raised := _, F_law_raised := F40, b_law_raised := b40, m_law_raised := PySem.W.mg_of X G a40,
    f_law_bad_goals := f41, fd_law_bad_goals := _, F_law_bad_goals := F41, b_law_bad_goals := b41, m_law_bad_goals := PySem.W.mg_of X G a41,
    f_law_check := f42, fd_law_check := _, F_law_check := F42, b_law_check := b42, m_law_check := PySem.W.mg_of X G a42,
    f_law := f43, fd_law := _, F_law := F43, b_law := b43, m_law := PySem.W.mg_of X G a43,
    C_SeatError := C_SeatError, m_SeatError := PySem.W.mg_of X G aC_SeatError,
    C_InvalidCall := C_InvalidCall, m_InvalidCall := PySem.W.mg_of X G aC_InvalidCall,
    C_InvalidTable := C_InvalidTable, m_InvalidTable := PySem.W.mg_of X G aC_InvalidTable, ox_InvalidTable := ⟨⟨nm_InvalidTable, q_InvalidTable, N_InvalidTable, bs_InvalidTable, _, sn_InvalidTable, sub_InvalidTable, ab_InvalidTable, col_InvalidTable, dd_InvalidTable, m0_InvalidTable, m1_InvalidTable, m2_InvalidTable, m3_InvalidTable, m5_InvalidTable, xl_InvalidTable, by rfl⟩, sa_InvalidTable, ex_InvalidTable, ty_InvalidTable, kc_InvalidTable⟩, xf_InvalidTable := ⟨ga_InvalidTable, gg_InvalidTable, ex_InvalidTable, hd_InvalidTable⟩, i_InvalidTable := a1, ti_InvalidTable := ti_InvalidTable, em_InvalidTable := exm_self ex_InvalidTable il_InvalidTable ty_InvalidTable ss_InvalidTable,
    em_InvalidTable_SeatError := exm_base ex_SeatError il_SeatError ty_SeatError ss_InvalidTable_SeatError,
    n_InvalidTable_rings := n_InvalidTable_rings,
    C_InvalidTargets := C_InvalidTargets, m_InvalidTargets := PySem.W.mg_of X G aC_InvalidTargets, ox_InvalidTargets := ⟨⟨nm_InvalidTargets, q_InvalidTargets, N_InvalidTargets, bs_InvalidTargets, _, sn_InvalidTargets, sub_InvalidTargets, ab_InvalidTargets, col_InvalidTargets, dd_InvalidTargets, m0_InvalidTargets, m1_InvalidTargets, m2_InvalidTargets, m3_InvalidTargets, m5_InvalidTargets, xl_InvalidTargets, by rfl⟩, sa_InvalidTargets, ex_InvalidTargets, ty_InvalidTargets, kc_InvalidTargets⟩, xf_InvalidTargets := ⟨ga_InvalidTargets, gg_InvalidTargets, ex_InvalidTargets, hd_InvalidTargets⟩, i_InvalidTargets := a2, ti_InvalidTargets := ti_InvalidTargets, em_InvalidTargets := exm_self ex_InvalidTargets il_InvalidTargets ty_InvalidTargets ss_InvalidTargets,
    em_InvalidTargets_SeatError := exm_base ex_SeatError il_SeatError ty_SeatError ss_InvalidTargets_SeatError,
    n_InvalidTargets_index := n_InvalidTargets_index,
    C_InvalidSeat := C_InvalidSeat, m_InvalidSeat := PySem.W.mg_of X G aC_InvalidSeat, ox_InvalidSeat := ⟨⟨nm_InvalidSeat, q_InvalidSeat, N_InvalidSeat, bs_InvalidSeat, _, sn_InvalidSeat, sub_InvalidSeat, ab_InvalidSeat, col_InvalidSeat, dd_InvalidSeat, m0_InvalidSeat, m1_InvalidSeat, m2_InvalidSeat, m3_InvalidSeat, m5_InvalidSeat, xl_InvalidSeat, by rfl⟩, sa_InvalidSeat, ex_InvalidSeat, ty_InvalidSeat, kc_InvalidSeat⟩, xf_InvalidSeat := ⟨ga_InvalidSeat, gg_InvalidSeat, ex_InvalidSeat, hd_InvalidSeat⟩, i_InvalidSeat := a3, ti_InvalidSeat := ti_InvalidSeat, em_InvalidSeat := exm_self ex_InvalidSeat il_InvalidSeat ty_InvalidSeat ss_InvalidSeat,
    em_InvalidSeat_SeatError := exm_base ex_SeatError il_SeatError ty_SeatError ss_InvalidSeat_SeatError,
    n_InvalidSeat_seat := n_InvalidSeat_seat,
    C_InvalidWitness := C_InvalidWitness, m_InvalidWitness := PySem.W.mg_of X G aC_InvalidWitness, ox_InvalidWitness := ⟨⟨nm_InvalidWitness, q_InvalidWitness, N_InvalidWitness, bs_InvalidWitness, _, sn_InvalidWitness, sub_InvalidWitness, ab_InvalidWitness, col_InvalidWitness, dd_InvalidWitness, m0_InvalidWitness, m1_InvalidWitness, m2_InvalidWitness, m3_InvalidWitness, m5_InvalidWitness, xl_InvalidWitness, by rfl⟩, sa_InvalidWitness, ex_InvalidWitness, ty_InvalidWitness, kc_InvalidWitness⟩, xf_InvalidWitness := ⟨ga_InvalidWitness, gg_InvalidWitness, ex_InvalidWitness, hd_InvalidWitness⟩, i_InvalidWitness := a4, ti_InvalidWitness := ti_InvalidWitness, em_InvalidWitness := exm_self ex_InvalidWitness il_InvalidWitness ty_InvalidWitness ss_InvalidWitness,
    em_InvalidWitness_SeatError := exm_base ex_SeatError il_SeatError ty_SeatError ss_InvalidWitness_SeatError,
    n_InvalidWitness_index := n_InvalidWitness_index,
    C_Table := C_Table, cl_Table := ⟨pg_Table, hd_Table, po_Table, sa_Table⟩, m_Table := PySem.W.mg_of X G aC_Table,
    M_Table := ⟨mk_Table, a10, i10, kc_Table⟩,
    me_Table_sizes := ⟨a11, i11, k11⟩,
    me_Table_count := ⟨a12, i12, k12⟩,
    me_Table_is_seat := ⟨a13, i13, k13⟩,
    me_Table_is_call := ⟨a14, i14, k14⟩,
    me_Table_shifted := ⟨a15, i15, k15⟩,
    me_Table_moves := ⟨a16, i16, k16⟩,
    me_Table_step := ⟨a17, i17, k17⟩,
    me_Table_order := ⟨a18, i18, k18⟩,
    me_Table_halves := ⟨a19, i19, k19⟩,
    n_Table_rings := n_Table_rings,
    ic_Table := ic_Table,
    im_Table := im_Table,
    ig_ := ig_,
    it_ := it_,
    xi_InvalidTable := ⟨il_InvalidTable, ga_InvalidTable, gg_InvalidTable, ex_InvalidTable, ic_InvalidTable, ig_, it_, im_InvalidTable⟩,
    xi_InvalidTargets := ⟨il_InvalidTargets, ga_InvalidTargets, gg_InvalidTargets, ex_InvalidTargets, ic_InvalidTargets, ig_, it_, im_InvalidTargets⟩,
    xi_InvalidSeat := ⟨il_InvalidSeat, ga_InvalidSeat, gg_InvalidSeat, ex_InvalidSeat, ic_InvalidSeat, ig_, it_, im_InvalidSeat⟩,
    xi_InvalidWitness := ⟨il_InvalidWitness, ga_InvalidWitness, gg_InvalidWitness, ex_InvalidWitness, ic_InvalidWitness, ig_, it_, im_InvalidWitness⟩,
    ki_InvalidTable_InvalidTargets := ki_InvalidTable_InvalidTargets,
    ki_InvalidTable_InvalidSeat := ki_InvalidTable_InvalidSeat,
    ki_InvalidTable_InvalidWitness := ki_InvalidTable_InvalidWitness,
    ki_InvalidTable_InvalidCall := ki_InvalidTable_InvalidCall,
    ki_InvalidTable_ValueError := ki_InvalidTable_ValueError,
    ki_InvalidTargets_InvalidTable := ki_InvalidTargets_InvalidTable,
    ki_InvalidTargets_InvalidSeat := ki_InvalidTargets_InvalidSeat,
    ki_InvalidTargets_InvalidWitness := ki_InvalidTargets_InvalidWitness,
    ki_InvalidTargets_InvalidCall := ki_InvalidTargets_InvalidCall,
    ki_InvalidTargets_ValueError := ki_InvalidTargets_ValueError,
    ki_InvalidSeat_InvalidTable := ki_InvalidSeat_InvalidTable,
    ki_InvalidSeat_InvalidTargets := ki_InvalidSeat_InvalidTargets,
    ki_InvalidSeat_InvalidWitness := ki_InvalidSeat_InvalidWitness,
    ki_InvalidSeat_InvalidCall := ki_InvalidSeat_InvalidCall,
    ki_InvalidSeat_ValueError := ki_InvalidSeat_ValueError,
    ki_InvalidWitness_InvalidTable := ki_InvalidWitness_InvalidTable,
    ki_InvalidWitness_InvalidTargets := ki_InvalidWitness_InvalidTargets,
    ki_InvalidWitness_InvalidSeat := ki_InvalidWitness_InvalidSeat,
    ki_InvalidWitness_InvalidCall := ki_InvalidWitness_InvalidCall,
    ki_InvalidWitness_ValueError := ki_InvalidWitness_ValueError,
    ki_list_Table := ki_list_Table,
    ki_tuple_Table := ki_tuple_Table,
    ki_int_Table := ki_int_Table,
    ki_bool_Table := ki_bool_Table,
    ki_str_Table := ki_str_Table,
    ki_dict_Table := ki_dict_Table,
    ki_NoneType_Table := ki_NoneType_Table,
    t_MAX_RINGS := _, c_MAX_RINGS := PySem.W.mg_of X G v_MAX_RINGS,
    z_ValueError := PySem.W.mg_none_of X G z_ValueError,
    z_abs := PySem.W.mg_none_of X G z_abs,
    z_all := PySem.W.mg_none_of X G z_all,
    z_bool := PySem.W.mg_none_of X G z_bool,
    z_enumerate := PySem.W.mg_none_of X G z_enumerate,
    z_int := PySem.W.mg_none_of X G z_int,
    z_isinstance := PySem.W.mg_none_of X G z_isinstance,
    z_len := PySem.W.mg_none_of X G z_len,
    z_list := PySem.W.mg_none_of X G z_list,
    z_range := PySem.W.mg_none_of X G z_range,
    z_repr := PySem.W.mg_none_of X G z_repr,
    z_sum := PySem.W.mg_none_of X G z_sum,
    z_tuple := PySem.W.mg_none_of X G z_tuple,
    z_zip := PySem.W.mg_none_of X G z_zip
  }, rfl, rfl⟩
theorem use_mk {K : PySem.W.Frag} {h : Heap} {mg : Str → Option Value} (X : K.In h) (G : h.Ns mainGlobals mg)
    {f0 f1 f2 f3 f4 f5 f6 f7 f8 f9 f10 f11 f12 f13 f14 f15 f16 f17 f18 f19 f20 f21 f22 f23 f24 f25 f26 f27 f28 f29 f30 f31 f32 f33 f34 f35 f36 f37 f38 f39 f40 f41 f42 f43 C_InvalidTable C_InvalidTargets C_InvalidSeat C_InvalidWitness C_Table C_SeatError C_InvalidCall : Addr}
    {od0 an0 od1 an1 od2 an2 od3 an3 od4 an4 od5 an5 od6 an6 od7 an7 od8 an8 od9 an9 od10 an10 od11 an11 od12 an12 od13 an13 od14 an14 od15 an15 od16 an16 od17 an17 od18 an18 od19 an19 od20 an20 od21 an21 od22 an22 od23 an23 od24 an24 od25 an25 od26 an26 od27 an27 od28 an28 od29 an29 od30 an30 od31 an31 od32 an32 od33 an33 od34 an34 od35 an35 od36 an36 od37 an37 od38 an38 od39 an39 od40 an40 od41 an41 od42 an42 od43 an43 : Option Addr} {sl0 sl1 sl2 sl3 sl4 sl5 sl6 sl7 sl8 sl9 sl10 sl11 sl12 sl13 sl14 sl15 sl16 sl17 sl18 sl19 sl20 sl21 sl22 sl23 sl24 sl25 sl26 sl27 sl28 sl29 sl30 sl31 sl32 sl33 sl34 sl35 sl36 sl37 sl38 sl39 sl40 sl41 sl42 sl43 : Array (Option Value)} {oc0 kV0 dc0 pm0 cd0 ct0 oc1 kV1 dc1 pm1 cd1 ct1 oc2 kV2 dc2 pm2 cd2 ct2 oc3 kV3 dc3 pm3 cd3 ct3 oc4 kV4 dc4 pm4 cd4 ct4 oc5 kV5 dc5 pm5 cd5 ct5 oc6 kV6 dc6 pm6 cd6 ct6 oc7 kV7 dc7 pm7 cd7 ct7 oc8 kV8 dc8 pm8 cd8 ct8 oc9 kV9 dc9 pm9 cd9 ct9 oc10 kV10 dc10 pm10 cd10 ct10 oc11 kV11 dc11 pm11 cd11 ct11 oc12 kV12 dc12 pm12 cd12 ct12 oc13 kV13 dc13 pm13 cd13 ct13 oc14 kV14 dc14 pm14 cd14 ct14 oc15 kV15 dc15 pm15 cd15 ct15 oc16 kV16 dc16 pm16 cd16 ct16 oc17 kV17 dc17 pm17 cd17 ct17 oc18 kV18 dc18 pm18 cd18 ct18 oc19 kV19 dc19 pm19 cd19 ct19 oc20 kV20 dc20 pm20 cd20 ct20 oc21 kV21 dc21 pm21 cd21 ct21 oc22 kV22 dc22 pm22 cd22 ct22 oc23 kV23 dc23 pm23 cd23 ct23 oc24 kV24 dc24 pm24 cd24 ct24 oc25 kV25 dc25 pm25 cd25 ct25 oc26 kV26 dc26 pm26 cd26 ct26 oc27 kV27 dc27 pm27 cd27 ct27 oc28 kV28 dc28 pm28 cd28 ct28 oc29 kV29 dc29 pm29 cd29 ct29 oc30 kV30 dc30 pm30 cd30 ct30 oc31 kV31 dc31 pm31 cd31 ct31 oc32 kV32 dc32 pm32 cd32 ct32 oc33 kV33 dc33 pm33 cd33 ct33 oc34 kV34 dc34 pm34 cd34 ct34 oc35 kV35 dc35 pm35 cd35 ct35 oc36 kV36 dc36 pm36 cd36 ct36 oc37 kV37 dc37 pm37 cd37 ct37 oc38 kV38 dc38 pm38 cd38 ct38 oc39 kV39 dc39 pm39 cd39 ct39 oc40 kV40 dc40 pm40 cd40 ct40 oc41 kV41 dc41 pm41 cd41 ct41 oc42 kV42 dc42 pm42 cd42 ct42 oc43 kV43 dc43 pm43 cd43 ct43 : Value}
    {nm_InvalidTable q_InvalidTable : Str} {N_InvalidTable B_InvalidTable : Addr} {bs_InvalidTable sub_InvalidTable : List Value} {sn_InvalidTable : List Str} {ab_InvalidTable : Bool} {col_InvalidTable : Option Bool} {dd_InvalidTable : Option Addr} {m0_InvalidTable m1_InvalidTable m2_InvalidTable m3_InvalidTable m5_InvalidTable : Option Value}
    {nm_InvalidTargets q_InvalidTargets : Str} {N_InvalidTargets B_InvalidTargets : Addr} {bs_InvalidTargets sub_InvalidTargets : List Value} {sn_InvalidTargets : List Str} {ab_InvalidTargets : Bool} {col_InvalidTargets : Option Bool} {dd_InvalidTargets : Option Addr} {m0_InvalidTargets m1_InvalidTargets m2_InvalidTargets m3_InvalidTargets m5_InvalidTargets : Option Value}
    {nm_InvalidSeat q_InvalidSeat : Str} {N_InvalidSeat B_InvalidSeat : Addr} {bs_InvalidSeat sub_InvalidSeat : List Value} {sn_InvalidSeat : List Str} {ab_InvalidSeat : Bool} {col_InvalidSeat : Option Bool} {dd_InvalidSeat : Option Addr} {m0_InvalidSeat m1_InvalidSeat m2_InvalidSeat m3_InvalidSeat m5_InvalidSeat : Option Value}
    {nm_InvalidWitness q_InvalidWitness : Str} {N_InvalidWitness B_InvalidWitness : Addr} {bs_InvalidWitness sub_InvalidWitness : List Value} {sn_InvalidWitness : List Str} {ab_InvalidWitness : Bool} {col_InvalidWitness : Option Bool} {dd_InvalidWitness : Option Addr} {m0_InvalidWitness m1_InvalidWitness m2_InvalidWitness m3_InvalidWitness m5_InvalidWitness : Option Value}
    {t_MAX_RINGS : Tok}
    (aC_SeatError : PySem.W.nsIn K mainGlobals "SeatError" = some (some (.ref C_SeatError)))
    (ex_SeatError : PySem.W.subIn K (.ref C_SeatError) (.type "BaseException") = some true)
    (ty_SeatError : PySem.W.typeIn K (.ref C_SeatError) = some (.type "type"))
    (il_SeatError : PySem.W.isClsIn K C_SeatError = true)
    (aC_InvalidCall : PySem.W.nsIn K mainGlobals "InvalidCall" = some (some (.ref C_InvalidCall)))
    (ex_InvalidCall : PySem.W.subIn K (.ref C_InvalidCall) (.type "BaseException") = some true)
    (ty_InvalidCall : PySem.W.typeIn K (.ref C_InvalidCall) = some (.type "type"))
    (il_InvalidCall : PySem.W.isClsIn K C_InvalidCall = true)
    (aC_InvalidTable : PySem.W.nsIn K mainGlobals "InvalidTable" = some (some (.ref C_InvalidTable)))
    (aC_InvalidTargets : PySem.W.nsIn K mainGlobals "InvalidTargets" = some (some (.ref C_InvalidTargets)))
    (aC_InvalidSeat : PySem.W.nsIn K mainGlobals "InvalidSeat" = some (some (.ref C_InvalidSeat)))
    (aC_InvalidWitness : PySem.W.nsIn K mainGlobals "InvalidWitness" = some (some (.ref C_InvalidWitness)))
    (aC_Table : PySem.W.nsIn K mainGlobals "Table" = some (some (.ref C_Table)))
    (a0 : PySem.W.nsIn K mainGlobals "_wall" = some (some (.ref f0)))
    (l0 : K.lookup f0 = some ⟨oc0, od0, .func (PySem.W.fnOf "_wall" "_wall" (defArgs s_wall) (defBody s_wall) (defScope s_wall) .none kV0 dc0 pm0 an0 cd0 ct0), sl0⟩)
    (c0 : PySem.W.codeIn K cd0 "_wall" = true)
    (k0 : PySem.W.keepIn K (.ref f0) = true)
    (a1 : PySem.W.findIn K (.ref C_InvalidTable) "__init__" = some (some (.ref f1)))
    (i1 : PySem.W.isFn K (.ref f1) = true)
    (l1 : K.lookup f1 = some ⟨oc1, od1, .func (PySem.W.fnOf "__init__" "InvalidTable.__init__" (defArgs s_InvalidTable_init) (defBody s_InvalidTable_init) (defScope s_InvalidTable_init) .none kV1 dc1 pm1 an1 cd1 ct1), sl1⟩)
    (c1 : PySem.W.codeIn K cd1 "InvalidTable.__init__" = true)
    (k1 : PySem.W.keepIn K (.ref f1) = true)
    (a2 : PySem.W.findIn K (.ref C_InvalidTargets) "__init__" = some (some (.ref f2)))
    (i2 : PySem.W.isFn K (.ref f2) = true)
    (l2 : K.lookup f2 = some ⟨oc2, od2, .func (PySem.W.fnOf "__init__" "InvalidTargets.__init__" (defArgs s_InvalidTargets_init) (defBody s_InvalidTargets_init) (defScope s_InvalidTargets_init) .none kV2 dc2 pm2 an2 cd2 ct2), sl2⟩)
    (c2 : PySem.W.codeIn K cd2 "InvalidTargets.__init__" = true)
    (k2 : PySem.W.keepIn K (.ref f2) = true)
    (a3 : PySem.W.findIn K (.ref C_InvalidSeat) "__init__" = some (some (.ref f3)))
    (i3 : PySem.W.isFn K (.ref f3) = true)
    (l3 : K.lookup f3 = some ⟨oc3, od3, .func (PySem.W.fnOf "__init__" "InvalidSeat.__init__" (defArgs s_InvalidSeat_init) (defBody s_InvalidSeat_init) (defScope s_InvalidSeat_init) .none kV3 dc3 pm3 an3 cd3 ct3), sl3⟩)
    (c3 : PySem.W.codeIn K cd3 "InvalidSeat.__init__" = true)
    (k3 : PySem.W.keepIn K (.ref f3) = true)
    (a4 : PySem.W.findIn K (.ref C_InvalidWitness) "__init__" = some (some (.ref f4)))
    (i4 : PySem.W.isFn K (.ref f4) = true)
    (l4 : K.lookup f4 = some ⟨oc4, od4, .func (PySem.W.fnOf "__init__" "InvalidWitness.__init__" (defArgs s_InvalidWitness_init) (defBody s_InvalidWitness_init) (defScope s_InvalidWitness_init) .none kV4 dc4 pm4 an4 cd4 ct4), sl4⟩)
    (c4 : PySem.W.codeIn K cd4 "InvalidWitness.__init__" = true)
    (k4 : PySem.W.keepIn K (.ref f4) = true)
    (a5 : PySem.W.nsIn K mainGlobals "is_integer" = some (some (.ref f5)))
    (l5 : K.lookup f5 = some ⟨oc5, od5, .func (PySem.W.fnOf "is_integer" "is_integer" (defArgs s_is_integer) (defBody s_is_integer) (defScope s_is_integer) .none kV5 dc5 pm5 an5 cd5 ct5), sl5⟩)
    (c5 : PySem.W.codeIn K cd5 "is_integer" = true)
    (k5 : PySem.W.keepIn K (.ref f5) = true)
    (a6 : PySem.W.nsIn K mainGlobals "is_at_least" = some (some (.ref f6)))
    (l6 : K.lookup f6 = some ⟨oc6, od6, .func (PySem.W.fnOf "is_at_least" "is_at_least" (defArgs s_is_at_least) (defBody s_is_at_least) (defScope s_is_at_least) .none kV6 dc6 pm6 an6 cd6 ct6), sl6⟩)
    (c6 : PySem.W.codeIn K cd6 "is_at_least" = true)
    (k6 : PySem.W.keepIn K (.ref f6) = true)
    (a7 : PySem.W.nsIn K mainGlobals "is_between" = some (some (.ref f7)))
    (l7 : K.lookup f7 = some ⟨oc7, od7, .func (PySem.W.fnOf "is_between" "is_between" (defArgs s_is_between) (defBody s_is_between) (defScope s_is_between) .none kV7 dc7 pm7 an7 cd7 ct7), sl7⟩)
    (c7 : PySem.W.codeIn K cd7 "is_between" = true)
    (k7 : PySem.W.keepIn K (.ref f7) = true)
    (a8 : PySem.W.nsIn K mainGlobals "greatest_common_divisor" = some (some (.ref f8)))
    (l8 : K.lookup f8 = some ⟨oc8, od8, .func (PySem.W.fnOf "greatest_common_divisor" "greatest_common_divisor" (defArgs s_greatest_common_divisor) (defBody s_greatest_common_divisor) (defScope s_greatest_common_divisor) .none kV8 dc8 pm8 an8 cd8 ct8), sl8⟩)
    (c8 : PySem.W.codeIn K cd8 "greatest_common_divisor" = true)
    (k8 : PySem.W.keepIn K (.ref f8) = true)
    (a9 : PySem.W.nsIn K mainGlobals "odd_part" = some (some (.ref f9)))
    (l9 : K.lookup f9 = some ⟨oc9, od9, .func (PySem.W.fnOf "odd_part" "odd_part" (defArgs s_odd_part) (defBody s_odd_part) (defScope s_odd_part) .none kV9 dc9 pm9 an9 cd9 ct9), sl9⟩)
    (c9 : PySem.W.codeIn K cd9 "odd_part" = true)
    (k9 : PySem.W.keepIn K (.ref f9) = true)
    (a10 : PySem.W.findIn K (.ref C_Table) "__init__" = some (some (.ref f10)))
    (i10 : PySem.W.isFn K (.ref f10) = true)
    (l10 : K.lookup f10 = some ⟨oc10, od10, .func (PySem.W.fnOf "__init__" "Table.__init__" (defArgs s_Table_init) (defBody s_Table_init) (defScope s_Table_init) .none kV10 dc10 pm10 an10 cd10 ct10), sl10⟩)
    (c10 : PySem.W.codeIn K cd10 "Table.__init__" = true)
    (k10 : PySem.W.keepIn K (.ref f10) = true)
    (a11 : PySem.W.findIn K (.ref C_Table) "sizes" = some (some (.ref f11)))
    (i11 : PySem.W.isFn K (.ref f11) = true)
    (l11 : K.lookup f11 = some ⟨oc11, od11, .func (PySem.W.fnOf "sizes" "Table.sizes" (defArgs s_Table_sizes) (defBody s_Table_sizes) (defScope s_Table_sizes) .none kV11 dc11 pm11 an11 cd11 ct11), sl11⟩)
    (c11 : PySem.W.codeIn K cd11 "Table.sizes" = true)
    (k11 : PySem.W.keepIn K (.ref f11) = true)
    (a12 : PySem.W.findIn K (.ref C_Table) "count" = some (some (.ref f12)))
    (i12 : PySem.W.isFn K (.ref f12) = true)
    (l12 : K.lookup f12 = some ⟨oc12, od12, .func (PySem.W.fnOf "count" "Table.count" (defArgs s_Table_count) (defBody s_Table_count) (defScope s_Table_count) .none kV12 dc12 pm12 an12 cd12 ct12), sl12⟩)
    (c12 : PySem.W.codeIn K cd12 "Table.count" = true)
    (k12 : PySem.W.keepIn K (.ref f12) = true)
    (a13 : PySem.W.findIn K (.ref C_Table) "is_seat" = some (some (.ref f13)))
    (i13 : PySem.W.isFn K (.ref f13) = true)
    (l13 : K.lookup f13 = some ⟨oc13, od13, .func (PySem.W.fnOf "is_seat" "Table.is_seat" (defArgs s_Table_is_seat) (defBody s_Table_is_seat) (defScope s_Table_is_seat) .none kV13 dc13 pm13 an13 cd13 ct13), sl13⟩)
    (c13 : PySem.W.codeIn K cd13 "Table.is_seat" = true)
    (k13 : PySem.W.keepIn K (.ref f13) = true)
    (a14 : PySem.W.findIn K (.ref C_Table) "is_call" = some (some (.ref f14)))
    (i14 : PySem.W.isFn K (.ref f14) = true)
    (l14 : K.lookup f14 = some ⟨oc14, od14, .func (PySem.W.fnOf "is_call" "Table.is_call" (defArgs s_Table_is_call) (defBody s_Table_is_call) (defScope s_Table_is_call) .none kV14 dc14 pm14 an14 cd14 ct14), sl14⟩)
    (c14 : PySem.W.codeIn K cd14 "Table.is_call" = true)
    (k14 : PySem.W.keepIn K (.ref f14) = true)
    (a15 : PySem.W.findIn K (.ref C_Table) "shifted" = some (some (.ref f15)))
    (i15 : PySem.W.isFn K (.ref f15) = true)
    (l15 : K.lookup f15 = some ⟨oc15, od15, .func (PySem.W.fnOf "shifted" "Table.shifted" (defArgs s_Table_shifted) (defBody s_Table_shifted) (defScope s_Table_shifted) .none kV15 dc15 pm15 an15 cd15 ct15), sl15⟩)
    (c15 : PySem.W.codeIn K cd15 "Table.shifted" = true)
    (k15 : PySem.W.keepIn K (.ref f15) = true)
    (a16 : PySem.W.findIn K (.ref C_Table) "moves" = some (some (.ref f16)))
    (i16 : PySem.W.isFn K (.ref f16) = true)
    (l16 : K.lookup f16 = some ⟨oc16, od16, .func (PySem.W.fnOf "moves" "Table.moves" (defArgs s_Table_moves) (defBody s_Table_moves) (defScope s_Table_moves) .none kV16 dc16 pm16 an16 cd16 ct16), sl16⟩)
    (c16 : PySem.W.codeIn K cd16 "Table.moves" = true)
    (k16 : PySem.W.keepIn K (.ref f16) = true)
    (a17 : PySem.W.findIn K (.ref C_Table) "step" = some (some (.ref f17)))
    (i17 : PySem.W.isFn K (.ref f17) = true)
    (l17 : K.lookup f17 = some ⟨oc17, od17, .func (PySem.W.fnOf "step" "Table.step" (defArgs s_Table_step) (defBody s_Table_step) (defScope s_Table_step) .none kV17 dc17 pm17 an17 cd17 ct17), sl17⟩)
    (c17 : PySem.W.codeIn K cd17 "Table.step" = true)
    (k17 : PySem.W.keepIn K (.ref f17) = true)
    (a18 : PySem.W.findIn K (.ref C_Table) "order" = some (some (.ref f18)))
    (i18 : PySem.W.isFn K (.ref f18) = true)
    (l18 : K.lookup f18 = some ⟨oc18, od18, .func (PySem.W.fnOf "order" "Table.order" (defArgs s_Table_order) (defBody s_Table_order) (defScope s_Table_order) .none kV18 dc18 pm18 an18 cd18 ct18), sl18⟩)
    (c18 : PySem.W.codeIn K cd18 "Table.order" = true)
    (k18 : PySem.W.keepIn K (.ref f18) = true)
    (a19 : PySem.W.findIn K (.ref C_Table) "halves" = some (some (.ref f19)))
    (i19 : PySem.W.isFn K (.ref f19) = true)
    (l19 : K.lookup f19 = some ⟨oc19, od19, .func (PySem.W.fnOf "halves" "Table.halves" (defArgs s_Table_halves) (defBody s_Table_halves) (defScope s_Table_halves) .none kV19 dc19 pm19 an19 cd19 ct19), sl19⟩)
    (c19 : PySem.W.codeIn K cd19 "Table.halves" = true)
    (k19 : PySem.W.keepIn K (.ref f19) = true)
    (a20 : PySem.W.nsIn K mainGlobals "require_table" = some (some (.ref f20)))
    (l20 : K.lookup f20 = some ⟨oc20, od20, .func (PySem.W.fnOf "require_table" "require_table" (defArgs s_require_table) (defBody s_require_table) (defScope s_require_table) .none kV20 dc20 pm20 an20 cd20 ct20), sl20⟩)
    (c20 : PySem.W.codeIn K cd20 "require_table" = true)
    (k20 : PySem.W.keepIn K (.ref f20) = true)
    (a21 : PySem.W.nsIn K mainGlobals "require_seat" = some (some (.ref f21)))
    (l21 : K.lookup f21 = some ⟨oc21, od21, .func (PySem.W.fnOf "require_seat" "require_seat" (defArgs s_require_seat) (defBody s_require_seat) (defScope s_require_seat) .none kV21 dc21 pm21 an21 cd21 ct21), sl21⟩)
    (c21 : PySem.W.codeIn K cd21 "require_seat" = true)
    (k21 : PySem.W.keepIn K (.ref f21) = true)
    (a22 : PySem.W.nsIn K mainGlobals "require_targets" = some (some (.ref f22)))
    (l22 : K.lookup f22 = some ⟨oc22, od22, .func (PySem.W.fnOf "require_targets" "require_targets" (defArgs s_require_targets) (defBody s_require_targets) (defScope s_require_targets) .none kV22 dc22 pm22 an22 cd22 ct22), sl22⟩)
    (c22 : PySem.W.codeIn K cd22 "require_targets" = true)
    (k22 : PySem.W.keepIn K (.ref f22) = true)
    (a23 : PySem.W.nsIn K mainGlobals "combined" = some (some (.ref f23)))
    (l23 : K.lookup f23 = some ⟨oc23, od23, .func (PySem.W.fnOf "combined" "combined" (defArgs s_combined) (defBody s_combined) (defScope s_combined) .none kV23 dc23 pm23 an23 cd23 ct23), sl23⟩)
    (c23 : PySem.W.codeIn K cd23 "combined" = true)
    (k23 : PySem.W.keepIn K (.ref f23) = true)
    (a24 : PySem.W.nsIn K mainGlobals "reduced" = some (some (.ref f24)))
    (l24 : K.lookup f24 = some ⟨oc24, od24, .func (PySem.W.fnOf "reduced" "reduced" (defArgs s_reduced) (defBody s_reduced) (defScope s_reduced) .none kV24 dc24 pm24 an24 cd24 ct24), sl24⟩)
    (c24 : PySem.W.codeIn K cd24 "reduced" = true)
    (k24 : PySem.W.keepIn K (.ref f24) = true)
    (a25 : PySem.W.nsIn K mainGlobals "shift_basis" = some (some (.ref f25)))
    (l25 : K.lookup f25 = some ⟨oc25, od25, .func (PySem.W.fnOf "shift_basis" "shift_basis" (defArgs s_shift_basis) (defBody s_shift_basis) (defScope s_shift_basis) .none kV25 dc25 pm25 an25 cd25 ct25), sl25⟩)
    (c25 : PySem.W.codeIn K cd25 "shift_basis" = true)
    (k25 : PySem.W.keepIn K (.ref f25) = true)
    (a26 : PySem.W.nsIn K mainGlobals "diagonal_product" = some (some (.ref f26)))
    (l26 : K.lookup f26 = some ⟨oc26, od26, .func (PySem.W.fnOf "diagonal_product" "diagonal_product" (defArgs s_diagonal_product) (defBody s_diagonal_product) (defScope s_diagonal_product) .none kV26 dc26 pm26 an26 cd26 ct26), sl26⟩)
    (c26 : PySem.W.codeIn K cd26 "diagonal_product" = true)
    (k26 : PySem.W.keepIn K (.ref f26) = true)
    (a27 : PySem.W.nsIn K mainGlobals "coordinates" = some (some (.ref f27)))
    (l27 : K.lookup f27 = some ⟨oc27, od27, .func (PySem.W.fnOf "coordinates" "coordinates" (defArgs s_coordinates) (defBody s_coordinates) (defScope s_coordinates) .none kV27 dc27 pm27 an27 cd27 ct27), sl27⟩)
    (c27 : PySem.W.codeIn K cd27 "coordinates" = true)
    (k27 : PySem.W.keepIn K (.ref f27) = true)
    (a28 : PySem.W.nsIn K mainGlobals "is_free" = some (some (.ref f28)))
    (l28 : K.lookup f28 = some ⟨oc28, od28, .func (PySem.W.fnOf "is_free" "is_free" (defArgs s_is_free) (defBody s_is_free) (defScope s_is_free) .none kV28 dc28 pm28 an28 cd28 ct28), sl28⟩)
    (c28 : PySem.W.codeIn K cd28 "is_free" = true)
    (k28 : PySem.W.keepIn K (.ref f28) = true)
    (a29 : PySem.W.nsIn K mainGlobals "coset_count" = some (some (.ref f29)))
    (l29 : K.lookup f29 = some ⟨oc29, od29, .func (PySem.W.fnOf "coset_count" "coset_count" (defArgs s_coset_count) (defBody s_coset_count) (defScope s_coset_count) .none kV29 dc29 pm29 an29 cd29 ct29), sl29⟩)
    (c29 : PySem.W.codeIn K cd29 "coset_count" = true)
    (k29 : PySem.W.keepIn K (.ref f29) = true)
    (a30 : PySem.W.nsIn K mainGlobals "separating_witness" = some (some (.ref f30)))
    (l30 : K.lookup f30 = some ⟨oc30, od30, .func (PySem.W.fnOf "separating_witness" "separating_witness" (defArgs s_separating_witness) (defBody s_separating_witness) (defScope s_separating_witness) .none kV30 dc30 pm30 an30 cd30 ct30), sl30⟩)
    (c30 : PySem.W.codeIn K cd30 "separating_witness" = true)
    (k30 : PySem.W.keepIn K (.ref f30) = true)
    (a31 : PySem.W.nsIn K mainGlobals "reach" = some (some (.ref f31)))
    (l31 : K.lookup f31 = some ⟨oc31, od31, .func (PySem.W.fnOf "reach" "reach" (defArgs s_reach) (defBody s_reach) (defScope s_reach) .none kV31 dc31 pm31 an31 cd31 ct31), sl31⟩)
    (c31 : PySem.W.codeIn K cd31 "reach" = true)
    (k31 : PySem.W.keepIn K (.ref f31) = true)
    (a32 : PySem.W.nsIn K mainGlobals "weighted" = some (some (.ref f32)))
    (l32 : K.lookup f32 = some ⟨oc32, od32, .func (PySem.W.fnOf "weighted" "weighted" (defArgs s_weighted) (defBody s_weighted) (defScope s_weighted) .none kV32 dc32 pm32 an32 cd32 ct32), sl32⟩)
    (c32 : PySem.W.codeIn K cd32 "weighted" = true)
    (k32 : PySem.W.keepIn K (.ref f32) = true)
    (a33 : PySem.W.nsIn K mainGlobals "is_witness" = some (some (.ref f33)))
    (l33 : K.lookup f33 = some ⟨oc33, od33, .func (PySem.W.fnOf "is_witness" "is_witness" (defArgs s_is_witness) (defBody s_is_witness) (defScope s_is_witness) .none kV33 dc33 pm33 an33 cd33 ct33), sl33⟩)
    (c33 : PySem.W.codeIn K cd33 "is_witness" = true)
    (k33 : PySem.W.keepIn K (.ref f33) = true)
    (a34 : PySem.W.nsIn K mainGlobals "require_witness" = some (some (.ref f34)))
    (l34 : K.lookup f34 = some ⟨oc34, od34, .func (PySem.W.fnOf "require_witness" "require_witness" (defArgs s_require_witness) (defBody s_require_witness) (defScope s_require_witness) .none kV34 dc34 pm34 an34 cd34 ct34), sl34⟩)
    (c34 : PySem.W.codeIn K cd34 "require_witness" = true)
    (k34 : PySem.W.keepIn K (.ref f34) = true)
    (a35 : PySem.W.nsIn K mainGlobals "check_witness" = some (some (.ref f35)))
    (l35 : K.lookup f35 = some ⟨oc35, od35, .func (PySem.W.fnOf "check_witness" "check_witness" (defArgs s_check_witness) (defBody s_check_witness) (defScope s_check_witness) .none kV35 dc35 pm35 an35 cd35 ct35), sl35⟩)
    (c35 : PySem.W.codeIn K cd35 "check_witness" = true)
    (k35 : PySem.W.keepIn K (.ref f35) = true)
    (a36 : PySem.W.nsIn K mainGlobals "value" = some (some (.ref f36)))
    (l36 : K.lookup f36 = some ⟨oc36, od36, .func (PySem.W.fnOf "value" "value" (defArgs s_value) (defBody s_value) (defScope s_value) .none kV36 dc36 pm36 an36 cd36 ct36), sl36⟩)
    (c36 : PySem.W.codeIn K cd36 "value" = true)
    (k36 : PySem.W.keepIn K (.ref f36) = true)
    (a37 : PySem.W.nsIn K mainGlobals "_law_mixed" = some (some (.ref f37)))
    (l37 : K.lookup f37 = some ⟨oc37, od37, .func (PySem.W.fnOf "_law_mixed" "_law_mixed" (defArgs s_law_mixed) (defBody s_law_mixed) (defScope s_law_mixed) .none kV37 dc37 pm37 an37 cd37 ct37), sl37⟩)
    (c37 : PySem.W.codeIn K cd37 "_law_mixed" = true)
    (k37 : PySem.W.keepIn K (.ref f37) = true)
    (a38 : PySem.W.nsIn K mainGlobals "_law_source" = some (some (.ref f38)))
    (l38 : K.lookup f38 = some ⟨oc38, od38, .func (PySem.W.fnOf "_law_source" "_law_source" (defArgs s_law_source) (defBody s_law_source) (defScope s_law_source) .none kV38 dc38 pm38 an38 cd38 ct38), sl38⟩)
    (c38 : PySem.W.codeIn K cd38 "_law_source" = true)
    (k38 : PySem.W.keepIn K (.ref f38) = true)
    (a39 : PySem.W.nsIn K mainGlobals "_law_take" = some (some (.ref f39)))
    (l39 : K.lookup f39 = some ⟨oc39, od39, .func (PySem.W.fnOf "_law_take" "_law_take" (defArgs s_law_take) (defBody s_law_take) (defScope s_law_take) .none kV39 dc39 pm39 an39 cd39 ct39), sl39⟩)
    (c39 : PySem.W.codeIn K cd39 "_law_take" = true)
    (k39 : PySem.W.keepIn K (.ref f39) = true)
    (a40 : PySem.W.nsIn K mainGlobals "_law_raised" = some (some (.ref f40)))
    (l40 : K.lookup f40 = some ⟨oc40, od40, .func (PySem.W.fnOf "_law_raised" "_law_raised" (defArgs s_law_raised) (defBody s_law_raised) (defScope s_law_raised) .none kV40 dc40 pm40 an40 cd40 ct40), sl40⟩)
    (c40 : PySem.W.codeIn K cd40 "_law_raised" = true)
    (k40 : PySem.W.keepIn K (.ref f40) = true)
    (a41 : PySem.W.nsIn K mainGlobals "_law_bad_goals" = some (some (.ref f41)))
    (l41 : K.lookup f41 = some ⟨oc41, od41, .func (PySem.W.fnOf "_law_bad_goals" "_law_bad_goals" (defArgs s_law_bad_goals) (defBody s_law_bad_goals) (defScope s_law_bad_goals) .none kV41 dc41 pm41 an41 cd41 ct41), sl41⟩)
    (c41 : PySem.W.codeIn K cd41 "_law_bad_goals" = true)
    (k41 : PySem.W.keepIn K (.ref f41) = true)
    (a42 : PySem.W.nsIn K mainGlobals "_law_check" = some (some (.ref f42)))
    (l42 : K.lookup f42 = some ⟨oc42, od42, .func (PySem.W.fnOf "_law_check" "_law_check" (defArgs s_law_check) (defBody s_law_check) (defScope s_law_check) .none kV42 dc42 pm42 an42 cd42 ct42), sl42⟩)
    (c42 : PySem.W.codeIn K cd42 "_law_check" = true)
    (k42 : PySem.W.keepIn K (.ref f42) = true)
    (a43 : PySem.W.nsIn K mainGlobals "law" = some (some (.ref f43)))
    (l43 : K.lookup f43 = some ⟨oc43, od43, .func (PySem.W.fnOf "law" "law" (defArgs s_law) (defBody s_law) (defScope s_law) .none kV43 dc43 pm43 an43 cd43 ct43), sl43⟩)
    (c43 : PySem.W.codeIn K cd43 "law" = true)
    (k43 : PySem.W.keepIn K (.ref f43) = true)
    (xl_InvalidTable : K.lookup C_InvalidTable = some (excClassObj nm_InvalidTable q_InvalidTable C_InvalidTable N_InvalidTable bs_InvalidTable [.ref B_InvalidTable, .type "ValueError", .type "Exception", .type "BaseException", .type "object"] true sn_InvalidTable sub_InvalidTable ab_InvalidTable col_InvalidTable dd_InvalidTable m0_InvalidTable m1_InvalidTable m2_InvalidTable m3_InvalidTable m5_InvalidTable "ValueError.__new__"))
    (sa_InvalidTable : PySem.W.findIn K (.ref C_InvalidTable) "__setattr__" = some (some (.builtin "object.__setattr__")))
    (ga_InvalidTable : PySem.W.findIn K (.ref C_InvalidTable) "__getattribute__" = some (some (.builtin "BaseException.__getattribute__")))
    (gg_InvalidTable : PySem.W.findIn K (.ref C_InvalidTable) "__getattr__" = some none)
    (ti_InvalidTable : PySem.W.typeIn K (.ref f1) = some (.type "function"))
    (kc_InvalidTable : PySem.W.keepIn K (.ref C_InvalidTable) = true)
    (ex_InvalidTable : PySem.W.subIn K (.ref C_InvalidTable) (.type "BaseException") = some true)
    (ty_InvalidTable : PySem.W.typeIn K (.ref C_InvalidTable) = some (.type "type"))
    (hd_InvalidTable : PySem.W.hasDictIn K C_InvalidTable = true)
    (il_InvalidTable : PySem.W.isClsIn K C_InvalidTable = true)
    (ss_InvalidTable : PySem.W.subIn K (.ref C_InvalidTable) (.ref C_InvalidTable) = some true)
    (ss_InvalidTable_SeatError : PySem.W.subIn K (.ref C_InvalidTable) (.ref C_SeatError) = some true)
    (n_InvalidTable_rings : PySem.W.findIn K (.ref C_InvalidTable) "rings" = some none)
    (xl_InvalidTargets : K.lookup C_InvalidTargets = some (excClassObj nm_InvalidTargets q_InvalidTargets C_InvalidTargets N_InvalidTargets bs_InvalidTargets [.ref B_InvalidTargets, .type "ValueError", .type "Exception", .type "BaseException", .type "object"] true sn_InvalidTargets sub_InvalidTargets ab_InvalidTargets col_InvalidTargets dd_InvalidTargets m0_InvalidTargets m1_InvalidTargets m2_InvalidTargets m3_InvalidTargets m5_InvalidTargets "ValueError.__new__"))
    (sa_InvalidTargets : PySem.W.findIn K (.ref C_InvalidTargets) "__setattr__" = some (some (.builtin "object.__setattr__")))
    (ga_InvalidTargets : PySem.W.findIn K (.ref C_InvalidTargets) "__getattribute__" = some (some (.builtin "BaseException.__getattribute__")))
    (gg_InvalidTargets : PySem.W.findIn K (.ref C_InvalidTargets) "__getattr__" = some none)
    (ti_InvalidTargets : PySem.W.typeIn K (.ref f2) = some (.type "function"))
    (kc_InvalidTargets : PySem.W.keepIn K (.ref C_InvalidTargets) = true)
    (ex_InvalidTargets : PySem.W.subIn K (.ref C_InvalidTargets) (.type "BaseException") = some true)
    (ty_InvalidTargets : PySem.W.typeIn K (.ref C_InvalidTargets) = some (.type "type"))
    (hd_InvalidTargets : PySem.W.hasDictIn K C_InvalidTargets = true)
    (il_InvalidTargets : PySem.W.isClsIn K C_InvalidTargets = true)
    (ss_InvalidTargets : PySem.W.subIn K (.ref C_InvalidTargets) (.ref C_InvalidTargets) = some true)
    (ss_InvalidTargets_SeatError : PySem.W.subIn K (.ref C_InvalidTargets) (.ref C_SeatError) = some true)
    (n_InvalidTargets_index : PySem.W.findIn K (.ref C_InvalidTargets) "index" = some none)
    (xl_InvalidSeat : K.lookup C_InvalidSeat = some (excClassObj nm_InvalidSeat q_InvalidSeat C_InvalidSeat N_InvalidSeat bs_InvalidSeat [.ref B_InvalidSeat, .type "ValueError", .type "Exception", .type "BaseException", .type "object"] true sn_InvalidSeat sub_InvalidSeat ab_InvalidSeat col_InvalidSeat dd_InvalidSeat m0_InvalidSeat m1_InvalidSeat m2_InvalidSeat m3_InvalidSeat m5_InvalidSeat "ValueError.__new__"))
    (sa_InvalidSeat : PySem.W.findIn K (.ref C_InvalidSeat) "__setattr__" = some (some (.builtin "object.__setattr__")))
    (ga_InvalidSeat : PySem.W.findIn K (.ref C_InvalidSeat) "__getattribute__" = some (some (.builtin "BaseException.__getattribute__")))
    (gg_InvalidSeat : PySem.W.findIn K (.ref C_InvalidSeat) "__getattr__" = some none)
    (ti_InvalidSeat : PySem.W.typeIn K (.ref f3) = some (.type "function"))
    (kc_InvalidSeat : PySem.W.keepIn K (.ref C_InvalidSeat) = true)
    (ex_InvalidSeat : PySem.W.subIn K (.ref C_InvalidSeat) (.type "BaseException") = some true)
    (ty_InvalidSeat : PySem.W.typeIn K (.ref C_InvalidSeat) = some (.type "type"))
    (hd_InvalidSeat : PySem.W.hasDictIn K C_InvalidSeat = true)
    (il_InvalidSeat : PySem.W.isClsIn K C_InvalidSeat = true)
    (ss_InvalidSeat : PySem.W.subIn K (.ref C_InvalidSeat) (.ref C_InvalidSeat) = some true)
    (ss_InvalidSeat_SeatError : PySem.W.subIn K (.ref C_InvalidSeat) (.ref C_SeatError) = some true)
    (n_InvalidSeat_seat : PySem.W.findIn K (.ref C_InvalidSeat) "seat" = some none)
    (xl_InvalidWitness : K.lookup C_InvalidWitness = some (excClassObj nm_InvalidWitness q_InvalidWitness C_InvalidWitness N_InvalidWitness bs_InvalidWitness [.ref B_InvalidWitness, .type "ValueError", .type "Exception", .type "BaseException", .type "object"] true sn_InvalidWitness sub_InvalidWitness ab_InvalidWitness col_InvalidWitness dd_InvalidWitness m0_InvalidWitness m1_InvalidWitness m2_InvalidWitness m3_InvalidWitness m5_InvalidWitness "ValueError.__new__"))
    (sa_InvalidWitness : PySem.W.findIn K (.ref C_InvalidWitness) "__setattr__" = some (some (.builtin "object.__setattr__")))
    (ga_InvalidWitness : PySem.W.findIn K (.ref C_InvalidWitness) "__getattribute__" = some (some (.builtin "BaseException.__getattribute__")))
    (gg_InvalidWitness : PySem.W.findIn K (.ref C_InvalidWitness) "__getattr__" = some none)
    (ti_InvalidWitness : PySem.W.typeIn K (.ref f4) = some (.type "function"))
    (kc_InvalidWitness : PySem.W.keepIn K (.ref C_InvalidWitness) = true)
    (ex_InvalidWitness : PySem.W.subIn K (.ref C_InvalidWitness) (.type "BaseException") = some true)
    (ty_InvalidWitness : PySem.W.typeIn K (.ref C_InvalidWitness) = some (.type "type"))
    (hd_InvalidWitness : PySem.W.hasDictIn K C_InvalidWitness = true)
    (il_InvalidWitness : PySem.W.isClsIn K C_InvalidWitness = true)
    (ss_InvalidWitness : PySem.W.subIn K (.ref C_InvalidWitness) (.ref C_InvalidWitness) = some true)
    (ss_InvalidWitness_SeatError : PySem.W.subIn K (.ref C_InvalidWitness) (.ref C_SeatError) = some true)
    (n_InvalidWitness_index : PySem.W.findIn K (.ref C_InvalidWitness) "index" = some none)
    (pg_Table : PySem.W.plainGet K C_Table Str.empty = true)
    (hd_Table : PySem.W.hasDictIn K C_Table = true)
    (po_Table : PySem.W.plainOver K C_Table = true)
    (sa_Table : PySem.W.findIn K (.ref C_Table) "__setattr__" = some (some (.builtin "object.__setattr__")))
    (mk_Table : PySem.W.makesIn K C_Table = true)
    (kc_Table : PySem.W.keepIn K (.ref C_Table) = true)
    (n_Table_rings : PySem.W.findIn K (.ref C_Table) "rings" = some none)
    (ic_Table : PySem.W.findIn K (.ref C_Table) "__class__" = some (some (.builtin "object.__class__")))
    (im_Table : PySem.W.mroIn K C_Table (.type "object") = some true)
    (ig_ : PySem.W.specialIn K (.builtin "object.__class__") "__get__" = some (some (.builtin "getset_descriptor.__get__")))
    (it_ : PySem.W.takesIn K (.builtin "object.__class__") = some true)
    (ic_InvalidTable : PySem.W.findIn K (.ref C_InvalidTable) "__class__" = some (some (.builtin "object.__class__")))
    (im_InvalidTable : PySem.W.mroIn K C_InvalidTable (.type "object") = some true)
    (ic_InvalidTargets : PySem.W.findIn K (.ref C_InvalidTargets) "__class__" = some (some (.builtin "object.__class__")))
    (im_InvalidTargets : PySem.W.mroIn K C_InvalidTargets (.type "object") = some true)
    (ic_InvalidSeat : PySem.W.findIn K (.ref C_InvalidSeat) "__class__" = some (some (.builtin "object.__class__")))
    (im_InvalidSeat : PySem.W.mroIn K C_InvalidSeat (.type "object") = some true)
    (ic_InvalidWitness : PySem.W.findIn K (.ref C_InvalidWitness) "__class__" = some (some (.builtin "object.__class__")))
    (im_InvalidWitness : PySem.W.mroIn K C_InvalidWitness (.type "object") = some true)
    (ki_InvalidTable_InvalidTargets : PySem.W.kitAny K (.ref C_InvalidTable) [.ref C_InvalidTargets] = some false)
    (ki_InvalidTable_InvalidSeat : PySem.W.kitAny K (.ref C_InvalidTable) [.ref C_InvalidSeat] = some false)
    (ki_InvalidTable_InvalidWitness : PySem.W.kitAny K (.ref C_InvalidTable) [.ref C_InvalidWitness] = some false)
    (ki_InvalidTable_InvalidCall : PySem.W.kitAny K (.ref C_InvalidTable) [.ref C_InvalidCall] = some false)
    (ki_InvalidTable_ValueError : PySem.W.kitAny K (.ref C_InvalidTable) [.type "ValueError"] = some true)
    (ki_InvalidTargets_InvalidTable : PySem.W.kitAny K (.ref C_InvalidTargets) [.ref C_InvalidTable] = some false)
    (ki_InvalidTargets_InvalidSeat : PySem.W.kitAny K (.ref C_InvalidTargets) [.ref C_InvalidSeat] = some false)
    (ki_InvalidTargets_InvalidWitness : PySem.W.kitAny K (.ref C_InvalidTargets) [.ref C_InvalidWitness] = some false)
    (ki_InvalidTargets_InvalidCall : PySem.W.kitAny K (.ref C_InvalidTargets) [.ref C_InvalidCall] = some false)
    (ki_InvalidTargets_ValueError : PySem.W.kitAny K (.ref C_InvalidTargets) [.type "ValueError"] = some true)
    (ki_InvalidSeat_InvalidTable : PySem.W.kitAny K (.ref C_InvalidSeat) [.ref C_InvalidTable] = some false)
    (ki_InvalidSeat_InvalidTargets : PySem.W.kitAny K (.ref C_InvalidSeat) [.ref C_InvalidTargets] = some false)
    (ki_InvalidSeat_InvalidWitness : PySem.W.kitAny K (.ref C_InvalidSeat) [.ref C_InvalidWitness] = some false)
    (ki_InvalidSeat_InvalidCall : PySem.W.kitAny K (.ref C_InvalidSeat) [.ref C_InvalidCall] = some false)
    (ki_InvalidSeat_ValueError : PySem.W.kitAny K (.ref C_InvalidSeat) [.type "ValueError"] = some true)
    (ki_InvalidWitness_InvalidTable : PySem.W.kitAny K (.ref C_InvalidWitness) [.ref C_InvalidTable] = some false)
    (ki_InvalidWitness_InvalidTargets : PySem.W.kitAny K (.ref C_InvalidWitness) [.ref C_InvalidTargets] = some false)
    (ki_InvalidWitness_InvalidSeat : PySem.W.kitAny K (.ref C_InvalidWitness) [.ref C_InvalidSeat] = some false)
    (ki_InvalidWitness_InvalidCall : PySem.W.kitAny K (.ref C_InvalidWitness) [.ref C_InvalidCall] = some false)
    (ki_InvalidWitness_ValueError : PySem.W.kitAny K (.ref C_InvalidWitness) [.type "ValueError"] = some true)
    (ki_list_Table : PySem.W.kitAny K (.type "list") [.ref C_Table] = some false)
    (ki_tuple_Table : PySem.W.kitAny K (.type "tuple") [.ref C_Table] = some false)
    (ki_int_Table : PySem.W.kitAny K (.type "int") [.ref C_Table] = some false)
    (ki_bool_Table : PySem.W.kitAny K (.type "bool") [.ref C_Table] = some false)
    (ki_str_Table : PySem.W.kitAny K (.type "str") [.ref C_Table] = some false)
    (ki_dict_Table : PySem.W.kitAny K (.type "dict") [.ref C_Table] = some false)
    (ki_NoneType_Table : PySem.W.kitAny K (.type "NoneType") [.ref C_Table] = some false)
    (v_MAX_RINGS : PySem.W.nsIn K mainGlobals "MAX_RINGS" = some (some (.int 4 t_MAX_RINGS)))
    (z_ValueError : PySem.W.nsIn K mainGlobals "ValueError" = some none)
    (z_abs : PySem.W.nsIn K mainGlobals "abs" = some none)
    (z_all : PySem.W.nsIn K mainGlobals "all" = some none)
    (z_bool : PySem.W.nsIn K mainGlobals "bool" = some none)
    (z_enumerate : PySem.W.nsIn K mainGlobals "enumerate" = some none)
    (z_int : PySem.W.nsIn K mainGlobals "int" = some none)
    (z_isinstance : PySem.W.nsIn K mainGlobals "isinstance" = some none)
    (z_len : PySem.W.nsIn K mainGlobals "len" = some none)
    (z_list : PySem.W.nsIn K mainGlobals "list" = some none)
    (z_range : PySem.W.nsIn K mainGlobals "range" = some none)
    (z_repr : PySem.W.nsIn K mainGlobals "repr" = some none)
    (z_sum : PySem.W.nsIn K mainGlobals "sum" = some none)
    (z_tuple : PySem.W.nsIn K mainGlobals "tuple" = some none)
    (z_zip : PySem.W.nsIn K mainGlobals "zip" = some none)
    : ∃ T : TX K mg, mg "law" = some (.ref T.f_law) ∧ ∀ (s : Shared) (v : Value), BindsTo s T.fd_law ⟨[v], []⟩ [("_law_script", v)] := by
  obtain ⟨T, h1, h2⟩ := all_mk X G aC_SeatError ex_SeatError ty_SeatError il_SeatError aC_InvalidCall ex_InvalidCall ty_InvalidCall il_InvalidCall aC_InvalidTable aC_InvalidTargets aC_InvalidSeat aC_InvalidWitness aC_Table a0 l0 c0 k0 a1 i1 l1 c1 k1 a2 i2 l2 c2 k2 a3 i3 l3 c3 k3 a4 i4 l4 c4 k4 a5 l5 c5 k5 a6 l6 c6 k6 a7 l7 c7 k7 a8 l8 c8 k8 a9 l9 c9 k9 a10 i10 l10 c10 k10 a11 i11 l11 c11 k11 a12 i12 l12 c12 k12 a13 i13 l13 c13 k13 a14 i14 l14 c14 k14 a15 i15 l15 c15 k15 a16 i16 l16 c16 k16 a17 i17 l17 c17 k17 a18 i18 l18 c18 k18 a19 i19 l19 c19 k19 a20 l20 c20 k20 a21 l21 c21 k21 a22 l22 c22 k22 a23 l23 c23 k23 a24 l24 c24 k24 a25 l25 c25 k25 a26 l26 c26 k26 a27 l27 c27 k27 a28 l28 c28 k28 a29 l29 c29 k29 a30 l30 c30 k30 a31 l31 c31 k31 a32 l32 c32 k32 a33 l33 c33 k33 a34 l34 c34 k34 a35 l35 c35 k35 a36 l36 c36 k36 a37 l37 c37 k37 a38 l38 c38 k38 a39 l39 c39 k39 a40 l40 c40 k40 a41 l41 c41 k41 a42 l42 c42 k42 a43 l43 c43 k43 xl_InvalidTable sa_InvalidTable ga_InvalidTable gg_InvalidTable ti_InvalidTable kc_InvalidTable ex_InvalidTable ty_InvalidTable hd_InvalidTable il_InvalidTable ss_InvalidTable ss_InvalidTable_SeatError n_InvalidTable_rings xl_InvalidTargets sa_InvalidTargets ga_InvalidTargets gg_InvalidTargets ti_InvalidTargets kc_InvalidTargets ex_InvalidTargets ty_InvalidTargets hd_InvalidTargets il_InvalidTargets ss_InvalidTargets ss_InvalidTargets_SeatError n_InvalidTargets_index xl_InvalidSeat sa_InvalidSeat ga_InvalidSeat gg_InvalidSeat ti_InvalidSeat kc_InvalidSeat ex_InvalidSeat ty_InvalidSeat hd_InvalidSeat il_InvalidSeat ss_InvalidSeat ss_InvalidSeat_SeatError n_InvalidSeat_seat xl_InvalidWitness sa_InvalidWitness ga_InvalidWitness gg_InvalidWitness ti_InvalidWitness kc_InvalidWitness ex_InvalidWitness ty_InvalidWitness hd_InvalidWitness il_InvalidWitness ss_InvalidWitness ss_InvalidWitness_SeatError n_InvalidWitness_index pg_Table hd_Table po_Table sa_Table mk_Table kc_Table n_Table_rings ic_Table im_Table ig_ it_ ic_InvalidTable im_InvalidTable ic_InvalidTargets im_InvalidTargets ic_InvalidSeat im_InvalidSeat ic_InvalidWitness im_InvalidWitness ki_InvalidTable_InvalidTargets ki_InvalidTable_InvalidSeat ki_InvalidTable_InvalidWitness ki_InvalidTable_InvalidCall ki_InvalidTable_ValueError ki_InvalidTargets_InvalidTable ki_InvalidTargets_InvalidSeat ki_InvalidTargets_InvalidWitness ki_InvalidTargets_InvalidCall ki_InvalidTargets_ValueError ki_InvalidSeat_InvalidTable ki_InvalidSeat_InvalidTargets ki_InvalidSeat_InvalidWitness ki_InvalidSeat_InvalidCall ki_InvalidSeat_ValueError ki_InvalidWitness_InvalidTable ki_InvalidWitness_InvalidTargets ki_InvalidWitness_InvalidSeat ki_InvalidWitness_InvalidCall ki_InvalidWitness_ValueError ki_list_Table ki_tuple_Table ki_int_Table ki_bool_Table ki_str_Table ki_dict_Table ki_NoneType_Table v_MAX_RINGS z_ValueError z_abs z_all z_bool z_enumerate z_int z_isinstance z_len z_list z_range z_repr z_sum z_tuple z_zip
  exact ⟨T, T.m_law, fun s v => by rw [h2]; exact .of_eq rfl⟩
end CS
open PySem PySem.W PyProof.Rows in
set_option maxRecDepth 100000 in
set_option maxHeartbeats 0 in
theorem PySem.Challenge.cw_calledseats_k12_invalid_arguments_holds : PySem.Challenge.rw_calledseats_k12_invalid_arguments.Holds := by
  w_on; o_law; k_head; (case hw => w_witness2)
  k_fill
  refine CG.walk_ofGT (l := PySem.Challenge.rw_calledseats_k12_invalid_arguments) (n := 63) (k := 10) (x := "_law_script") rfl (by decide) rfl ⟨rfl, by decide, by decide⟩ ?F
  case F =>
    intro w mg fa h Y G hmg tabs seer
    have KX := PySem.W.km_in_of Y
    obtain ⟨T, e1, e2⟩ : ∃ T : CS.TX _ mg, mg "law" = some (.ref T.f_law) ∧ ∀ (s : Shared) (v : Value), BindsTo s T.fd_law ⟨[v], []⟩ [("_law_script", v)] := by
      refine' CS.use_mk KX G ?aC_SeatError ?ex_SeatError ?ty_SeatError ?il_SeatError ?aC_InvalidCall ?ex_InvalidCall ?ty_InvalidCall ?il_InvalidCall ?aC_InvalidTable ?aC_InvalidTargets ?aC_InvalidSeat ?aC_InvalidWitness ?aC_Table ?a0 ?l0 ?c0 ?k0 ?a1 ?i1 ?l1 ?c1 ?k1 ?a2 ?i2 ?l2 ?c2 ?k2 ?a3 ?i3 ?l3 ?c3 ?k3 ?a4 ?i4 ?l4 ?c4 ?k4 ?a5 ?l5 ?c5 ?k5 ?a6 ?l6 ?c6 ?k6 ?a7 ?l7 ?c7 ?k7 ?a8 ?l8 ?c8 ?k8 ?a9 ?l9 ?c9 ?k9 ?a10 ?i10 ?l10 ?c10 ?k10 ?a11 ?i11 ?l11 ?c11 ?k11 ?a12 ?i12 ?l12 ?c12 ?k12 ?a13 ?i13 ?l13 ?c13 ?k13 ?a14 ?i14 ?l14 ?c14 ?k14 ?a15 ?i15 ?l15 ?c15 ?k15 ?a16 ?i16 ?l16 ?c16 ?k16 ?a17 ?i17 ?l17 ?c17 ?k17 ?a18 ?i18 ?l18 ?c18 ?k18 ?a19 ?i19 ?l19 ?c19 ?k19 ?a20 ?l20 ?c20 ?k20 ?a21 ?l21 ?c21 ?k21 ?a22 ?l22 ?c22 ?k22 ?a23 ?l23 ?c23 ?k23 ?a24 ?l24 ?c24 ?k24 ?a25 ?l25 ?c25 ?k25 ?a26 ?l26 ?c26 ?k26 ?a27 ?l27 ?c27 ?k27 ?a28 ?l28 ?c28 ?k28 ?a29 ?l29 ?c29 ?k29 ?a30 ?l30 ?c30 ?k30 ?a31 ?l31 ?c31 ?k31 ?a32 ?l32 ?c32 ?k32 ?a33 ?l33 ?c33 ?k33 ?a34 ?l34 ?c34 ?k34 ?a35 ?l35 ?c35 ?k35 ?a36 ?l36 ?c36 ?k36 ?a37 ?l37 ?c37 ?k37 ?a38 ?l38 ?c38 ?k38 ?a39 ?l39 ?c39 ?k39 ?a40 ?l40 ?c40 ?k40 ?a41 ?l41 ?c41 ?k41 ?a42 ?l42 ?c42 ?k42 ?a43 ?l43 ?c43 ?k43 ?xl_InvalidTable ?sa_InvalidTable ?ga_InvalidTable ?gg_InvalidTable ?ti_InvalidTable ?kc_InvalidTable ?ex_InvalidTable ?ty_InvalidTable ?hd_InvalidTable ?il_InvalidTable ?ss_InvalidTable ?ss_InvalidTable_SeatError ?n_InvalidTable_rings ?xl_InvalidTargets ?sa_InvalidTargets ?ga_InvalidTargets ?gg_InvalidTargets ?ti_InvalidTargets ?kc_InvalidTargets ?ex_InvalidTargets ?ty_InvalidTargets ?hd_InvalidTargets ?il_InvalidTargets ?ss_InvalidTargets ?ss_InvalidTargets_SeatError ?n_InvalidTargets_index ?xl_InvalidSeat ?sa_InvalidSeat ?ga_InvalidSeat ?gg_InvalidSeat ?ti_InvalidSeat ?kc_InvalidSeat ?ex_InvalidSeat ?ty_InvalidSeat ?hd_InvalidSeat ?il_InvalidSeat ?ss_InvalidSeat ?ss_InvalidSeat_SeatError ?n_InvalidSeat_seat ?xl_InvalidWitness ?sa_InvalidWitness ?ga_InvalidWitness ?gg_InvalidWitness ?ti_InvalidWitness ?kc_InvalidWitness ?ex_InvalidWitness ?ty_InvalidWitness ?hd_InvalidWitness ?il_InvalidWitness ?ss_InvalidWitness ?ss_InvalidWitness_SeatError ?n_InvalidWitness_index ?pg_Table ?hd_Table ?po_Table ?sa_Table ?mk_Table ?kc_Table ?n_Table_rings ?ic_Table ?im_Table ?ig_ ?it_ ?ic_InvalidTable ?im_InvalidTable ?ic_InvalidTargets ?im_InvalidTargets ?ic_InvalidSeat ?im_InvalidSeat ?ic_InvalidWitness ?im_InvalidWitness ?ki_InvalidTable_InvalidTargets ?ki_InvalidTable_InvalidSeat ?ki_InvalidTable_InvalidWitness ?ki_InvalidTable_InvalidCall ?ki_InvalidTable_ValueError ?ki_InvalidTargets_InvalidTable ?ki_InvalidTargets_InvalidSeat ?ki_InvalidTargets_InvalidWitness ?ki_InvalidTargets_InvalidCall ?ki_InvalidTargets_ValueError ?ki_InvalidSeat_InvalidTable ?ki_InvalidSeat_InvalidTargets ?ki_InvalidSeat_InvalidWitness ?ki_InvalidSeat_InvalidCall ?ki_InvalidSeat_ValueError ?ki_InvalidWitness_InvalidTable ?ki_InvalidWitness_InvalidTargets ?ki_InvalidWitness_InvalidSeat ?ki_InvalidWitness_InvalidCall ?ki_InvalidWitness_ValueError ?ki_list_Table ?ki_tuple_Table ?ki_int_Table ?ki_bool_Table ?ki_str_Table ?ki_dict_Table ?ki_NoneType_Table ?v_MAX_RINGS ?z_ValueError ?z_abs ?z_all ?z_bool ?z_enumerate ?z_int ?z_isinstance ?z_len ?z_list ?z_range ?z_repr ?z_sum ?z_tuple ?z_zip
      (case aC_SeatError => k_is)
      (case ex_SeatError => k_is)
      (case ty_SeatError => k_is)
      (case il_SeatError => k_is)
      (case aC_InvalidCall => k_is)
      (case ex_InvalidCall => k_is)
      (case ty_InvalidCall => k_is)
      (case il_InvalidCall => k_is)
      (case aC_InvalidTable => k_is)
      (case aC_InvalidTargets => k_is)
      (case aC_InvalidSeat => k_is)
      (case aC_InvalidWitness => k_is)
      (case aC_Table => k_is)
      (case a0 => k_is)
      (case l0 => k_is)
      (case c0 => k_is)
      (case k0 => k_is)
      (case a1 => k_is)
      (case i1 => k_is)
      (case l1 => k_is)
      (case c1 => k_is)
      (case k1 => k_is)
      (case a2 => k_is)
      (case i2 => k_is)
      (case l2 => k_is)
      (case c2 => k_is)
      (case k2 => k_is)
      (case a3 => k_is)
      (case i3 => k_is)
      (case l3 => k_is)
      (case c3 => k_is)
      (case k3 => k_is)
      (case a4 => k_is)
      (case i4 => k_is)
      (case l4 => k_is)
      (case c4 => k_is)
      (case k4 => k_is)
      (case a5 => k_is)
      (case l5 => k_is)
      (case c5 => k_is)
      (case k5 => k_is)
      (case a6 => k_is)
      (case l6 => k_is)
      (case c6 => k_is)
      (case k6 => k_is)
      (case a7 => k_is)
      (case l7 => k_is)
      (case c7 => k_is)
      (case k7 => k_is)
      (case a8 => k_is)
      (case l8 => k_is)
      (case c8 => k_is)
      (case k8 => k_is)
      (case a9 => k_is)
      (case l9 => k_is)
      (case c9 => k_is)
      (case k9 => k_is)
      (case a10 => k_is)
      (case i10 => k_is)
      (case l10 => k_is)
      (case c10 => k_is)
      (case k10 => k_is)
      (case a11 => k_is)
      (case i11 => k_is)
      (case l11 => k_is)
      (case c11 => k_is)
      (case k11 => k_is)
      (case a12 => k_is)
      (case i12 => k_is)
      (case l12 => k_is)
      (case c12 => k_is)
      (case k12 => k_is)
      (case a13 => k_is)
      (case i13 => k_is)
      (case l13 => k_is)
      (case c13 => k_is)
      (case k13 => k_is)
      (case a14 => k_is)
      (case i14 => k_is)
      (case l14 => k_is)
      (case c14 => k_is)
      (case k14 => k_is)
      (case a15 => k_is)
      (case i15 => k_is)
      (case l15 => k_is)
      (case c15 => k_is)
      (case k15 => k_is)
      (case a16 => k_is)
      (case i16 => k_is)
      (case l16 => k_is)
      (case c16 => k_is)
      (case k16 => k_is)
      (case a17 => k_is)
      (case i17 => k_is)
      (case l17 => k_is)
      (case c17 => k_is)
      (case k17 => k_is)
      (case a18 => k_is)
      (case i18 => k_is)
      (case l18 => k_is)
      (case c18 => k_is)
      (case k18 => k_is)
      (case a19 => k_is)
      (case i19 => k_is)
      (case l19 => k_is)
      (case c19 => k_is)
      (case k19 => k_is)
      (case a20 => k_is)
      (case l20 => k_is)
      (case c20 => k_is)
      (case k20 => k_is)
      (case a21 => k_is)
      (case l21 => k_is)
      (case c21 => k_is)
      (case k21 => k_is)
      (case a22 => k_is)
      (case l22 => k_is)
      (case c22 => k_is)
      (case k22 => k_is)
      (case a23 => k_is)
      (case l23 => k_is)
      (case c23 => k_is)
      (case k23 => k_is)
      (case a24 => k_is)
      (case l24 => k_is)
      (case c24 => k_is)
      (case k24 => k_is)
      (case a25 => k_is)
      (case l25 => k_is)
      (case c25 => k_is)
      (case k25 => k_is)
      (case a26 => k_is)
      (case l26 => k_is)
      (case c26 => k_is)
      (case k26 => k_is)
      (case a27 => k_is)
      (case l27 => k_is)
      (case c27 => k_is)
      (case k27 => k_is)
      (case a28 => k_is)
      (case l28 => k_is)
      (case c28 => k_is)
      (case k28 => k_is)
      (case a29 => k_is)
      (case l29 => k_is)
      (case c29 => k_is)
      (case k29 => k_is)
      (case a30 => k_is)
      (case l30 => k_is)
      (case c30 => k_is)
      (case k30 => k_is)
      (case a31 => k_is)
      (case l31 => k_is)
      (case c31 => k_is)
      (case k31 => k_is)
      (case a32 => k_is)
      (case l32 => k_is)
      (case c32 => k_is)
      (case k32 => k_is)
      (case a33 => k_is)
      (case l33 => k_is)
      (case c33 => k_is)
      (case k33 => k_is)
      (case a34 => k_is)
      (case l34 => k_is)
      (case c34 => k_is)
      (case k34 => k_is)
      (case a35 => k_is)
      (case l35 => k_is)
      (case c35 => k_is)
      (case k35 => k_is)
      (case a36 => k_is)
      (case l36 => k_is)
      (case c36 => k_is)
      (case k36 => k_is)
      (case a37 => k_is)
      (case l37 => k_is)
      (case c37 => k_is)
      (case k37 => k_is)
      (case a38 => k_is)
      (case l38 => k_is)
      (case c38 => k_is)
      (case k38 => k_is)
      (case a39 => k_is)
      (case l39 => k_is)
      (case c39 => k_is)
      (case k39 => k_is)
      (case a40 => k_is)
      (case l40 => k_is)
      (case c40 => k_is)
      (case k40 => k_is)
      (case a41 => k_is)
      (case l41 => k_is)
      (case c41 => k_is)
      (case k41 => k_is)
      (case a42 => k_is)
      (case l42 => k_is)
      (case c42 => k_is)
      (case k42 => k_is)
      (case a43 => k_is)
      (case l43 => k_is)
      (case c43 => k_is)
      (case k43 => k_is)
      (case xl_InvalidTable => k_is)
      (case sa_InvalidTable => k_is)
      (case ga_InvalidTable => k_is)
      (case gg_InvalidTable => k_is)
      (case ti_InvalidTable => k_is)
      (case kc_InvalidTable => k_is)
      (case ex_InvalidTable => k_is)
      (case ty_InvalidTable => k_is)
      (case hd_InvalidTable => k_is)
      (case il_InvalidTable => k_is)
      (case ss_InvalidTable => k_is)
      (case ss_InvalidTable_SeatError => k_is)
      (case n_InvalidTable_rings => k_is)
      (case xl_InvalidTargets => k_is)
      (case sa_InvalidTargets => k_is)
      (case ga_InvalidTargets => k_is)
      (case gg_InvalidTargets => k_is)
      (case ti_InvalidTargets => k_is)
      (case kc_InvalidTargets => k_is)
      (case ex_InvalidTargets => k_is)
      (case ty_InvalidTargets => k_is)
      (case hd_InvalidTargets => k_is)
      (case il_InvalidTargets => k_is)
      (case ss_InvalidTargets => k_is)
      (case ss_InvalidTargets_SeatError => k_is)
      (case n_InvalidTargets_index => k_is)
      (case xl_InvalidSeat => k_is)
      (case sa_InvalidSeat => k_is)
      (case ga_InvalidSeat => k_is)
      (case gg_InvalidSeat => k_is)
      (case ti_InvalidSeat => k_is)
      (case kc_InvalidSeat => k_is)
      (case ex_InvalidSeat => k_is)
      (case ty_InvalidSeat => k_is)
      (case hd_InvalidSeat => k_is)
      (case il_InvalidSeat => k_is)
      (case ss_InvalidSeat => k_is)
      (case ss_InvalidSeat_SeatError => k_is)
      (case n_InvalidSeat_seat => k_is)
      (case xl_InvalidWitness => k_is)
      (case sa_InvalidWitness => k_is)
      (case ga_InvalidWitness => k_is)
      (case gg_InvalidWitness => k_is)
      (case ti_InvalidWitness => k_is)
      (case kc_InvalidWitness => k_is)
      (case ex_InvalidWitness => k_is)
      (case ty_InvalidWitness => k_is)
      (case hd_InvalidWitness => k_is)
      (case il_InvalidWitness => k_is)
      (case ss_InvalidWitness => k_is)
      (case ss_InvalidWitness_SeatError => k_is)
      (case n_InvalidWitness_index => k_is)
      (case pg_Table => k_is)
      (case hd_Table => k_is)
      (case po_Table => k_is)
      (case sa_Table => k_is)
      (case mk_Table => k_is)
      (case kc_Table => k_is)
      (case n_Table_rings => k_is)
      (case ic_Table => k_is)
      (case im_Table => k_is)
      (case ig_ => k_is)
      (case it_ => k_is)
      (case ic_InvalidTable => k_is)
      (case im_InvalidTable => k_is)
      (case ic_InvalidTargets => k_is)
      (case im_InvalidTargets => k_is)
      (case ic_InvalidSeat => k_is)
      (case im_InvalidSeat => k_is)
      (case ic_InvalidWitness => k_is)
      (case im_InvalidWitness => k_is)
      (case ki_InvalidTable_InvalidTargets => kit_is)
      (case ki_InvalidTable_InvalidSeat => kit_is)
      (case ki_InvalidTable_InvalidWitness => kit_is)
      (case ki_InvalidTable_InvalidCall => kit_is)
      (case ki_InvalidTable_ValueError => kit_is)
      (case ki_InvalidTargets_InvalidTable => kit_is)
      (case ki_InvalidTargets_InvalidSeat => kit_is)
      (case ki_InvalidTargets_InvalidWitness => kit_is)
      (case ki_InvalidTargets_InvalidCall => kit_is)
      (case ki_InvalidTargets_ValueError => kit_is)
      (case ki_InvalidSeat_InvalidTable => kit_is)
      (case ki_InvalidSeat_InvalidTargets => kit_is)
      (case ki_InvalidSeat_InvalidWitness => kit_is)
      (case ki_InvalidSeat_InvalidCall => kit_is)
      (case ki_InvalidSeat_ValueError => kit_is)
      (case ki_InvalidWitness_InvalidTable => kit_is)
      (case ki_InvalidWitness_InvalidTargets => kit_is)
      (case ki_InvalidWitness_InvalidSeat => kit_is)
      (case ki_InvalidWitness_InvalidCall => kit_is)
      (case ki_InvalidWitness_ValueError => kit_is)
      (case ki_list_Table => kit_is)
      (case ki_tuple_Table => kit_is)
      (case ki_int_Table => kit_is)
      (case ki_bool_Table => kit_is)
      (case ki_str_Table => kit_is)
      (case ki_dict_Table => kit_is)
      (case ki_NoneType_Table => kit_is)
      (case v_MAX_RINGS => k_is)
      (case z_ValueError => k_is)
      (case z_abs => k_is)
      (case z_all => k_is)
      (case z_bool => k_is)
      (case z_enumerate => k_is)
      (case z_int => k_is)
      (case z_isinstance => k_is)
      (case z_len => k_is)
      (case z_list => k_is)
      (case z_range => k_is)
      (case z_repr => k_is)
      (case z_sum => k_is)
      (case z_tuple => k_is)
      (case z_zip => k_is)
    have e := hmg.symm.trans e1
    cases e
    obtain ⟨c0, p0, a0, d0, z0⟩ := CG.TabAt.at (CG.tab_by tabs (x := "_law_check") (by decide +kernel)) KX T.m_law_check T.F_law_check
    refine ⟨_, T.fd_law, CS.sp_law _ p0, [(c0, p0)], KX, (fun p hp => by simp only [List.mem_cons, List.not_mem_nil, or_false] at hp; rcases hp with rfl <;> first | exact z0), ?nt, (fun p hp => by simp only [List.mem_cons, List.not_mem_nil, or_false] at hp; rcases hp with rfl <;> first | exact d0), e2, (fun H a ns hl hT hS => ⟨a, ns, rfl, hS, hl, hT _ (.head _), fun _ => rfl⟩), fun base _ _ TB NS => CS.ok_law T ⟨c0, p0, a0, TB _ (.head _), (seer (by decide +kernel)).mods.elim fun m e => ⟨m, NS _ _ e.1⟩⟩⟩
    intro p hp
    refine CG.noTab_at KX (by kernel_rfl) ?_
    simp only [List.mem_cons, List.not_mem_nil, or_false] at hp; rcases hp with rfl <;> first | exact z0
