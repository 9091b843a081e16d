import PyProof.Rows.All
import Wide.All
import OpenK.AllK
import Wide.FinOn
import HandS.ForMost
import HandS.Zip
import HandS.TupAny
import HandS.TupMul
import HandS.Deep
import HandS.Style
import HandS.SetFor
import HandS.Strs
import HandS.Walk
import HandS.IsInst
import HandS.Conv
import HandS.Wide
import HandS.WideBits
import HandS.Evl
import HandS.MakeKwOnly
import KE.GoesMore
import KE.GoesEnumKw
import KE.KBits
import KE.SortData
import HandS.TupSets
import KE.DatumOrd
import HandS.TupLe
import HandS.DictComp
import HandS.DictTup
import HandS.TupLen
import KE.KDictCopyH
import KE.KDictWalk
import KE.KDictKeyed
import PyProof.WalkInts
import PyProof.SeqI3
import HandS.TryOnly
import KE.KStateDown
import HandS.Head0
import HandS.Head1
import HandS.Head2
import HandS.More
import HandS.Defaults
import HandS.HeadEnd
import HandS.HeadHook1
import HandS.HeadHook2
import PySem.Challenge.RW_calledseats_k45_witnesses_that_explain_d
set_option Elab.async false
set_option linter.all false
set_option maxRecDepth 100000
set_option maxHeartbeats 4000000


namespace CZ
open PySem PySem.Spec PyProof.Rows L2
open PySem.Sem (wp)
/-- one draw of a zip: strict or not -/
def zdraw (b : Bool) (it : Value) : Sem (Option Value) := if b = true then Builtin.SmallTypes.nextOrEnd it else (Builtin.SmallTypes.nextOf it >>= fun x => pure (some x))
/-- a zip object: f0 what it has handed out, b its strictness -/
abbrev ZipO (h : Heap) (z TI TO : Addr) (f0 : Value) (b : Bool) : Prop := h.get? z = some { cls := .type "zip", data := .fields #[f0, .bool false, .bool b, .ref TI, .ref TO] }
abbrev TupO (h : Heap) (T : Addr) (vs : Array Value) : Prop := h.get? T = some { cls := .type "tuple", data := .seq vs }
theorem val_b (b : Bool) : (Value.bool b == Value.bool true) = b := by cases b <;> rfl
section
variable {prog : Program} {w : World} {A : Around} {E : Value → Shared → Prop} {s : Shared} {b : Bool}
theorem zdraw_item {it : Addr} {fp : List Addr} {n i : Nat} {P : Nat → Value → Prop} {St : Nat → Heap → Prop} {Q : Option Value → Shared → Prop} (D : Draws prog w A it fp n P St) (hi : i < n) (st : St i s.heap)
    (hQ : ∀ x h' tk, P i x → St (i + 1) h' → Heap.SameBut it s.heap h' → Q (some x) { s with heap := h', toks := tk }) : wpAny (model prog w) A (zdraw b (.ref it)) Q E s := by
  cases b with
  | false => exact wpAny_bind (m := Builtin.SmallTypes.nextOf (.ref it)) (D.item i s _ _ hi st fun x h' tk p st' sb => wpAny_pure (hQ x h' tk p st' sb))
  | true =>
    show wpAny _ _ (Builtin.SmallTypes.nextOrEnd (.ref it)) _ _ _
    unfold Builtin.SmallTypes.nextOrEnd
    exact wpAny_bind (wpAny_attempt (D.item i s _ _ hi st fun x h' tk p st' sb => wpAny_pure (hQ x h' tk p st' sb)))
theorem zend_strict {it : Addr} {fp : List Addr} {n : Nat} {P : Nat → Value → Prop} {St : Nat → Heap → Prop} {Q : Option Value → Shared → Prop} (D : Draws prog w A it fp n P St) (st : St n s.heap)
    (hQ : ∀ h', Heap.ExtBut it s.heap h' → Q none { s with heap := h' }) : wpAny (model prog w) A (Builtin.SmallTypes.nextOrEnd (.ref it)) Q E s := by
  unfold Builtin.SmallTypes.nextOrEnd
  refine wpAny_bind (wpAny_attempt (D.done s _ _ st fun h' e eb he => ?_))
  obtain ⟨o, ho, hc⟩ := he
  exact wpAny_bind (wpAny_isInstance (T := "StopIteration") (b := true) ⟨o, ho, hc⟩ isSubtype_stop (wpAny_pure (hQ h' eb)))
theorem upd_tup {T : Addr} {vs : Array Value} {x : Value} {k : Nat} {Q : Unit → Shared → Prop} (hT : TupO s.heap T vs) (hz : vs.size ≤ 8)
    (h : ∀ h', TupO h' T (vs.setIfInBounds k x) → Heap.SameBut T s.heap h' → Q () { s with heap := h' }) : wpAny (model prog w) A (updateSeq T (·.setIfInBounds k x)) Q E s := by
  have z8 : (8 : Nat) ≤ sizeLine := by decide
  refine wpAny_updateSeq hT rfl (h _ ?_ (Heap.SameBut.update ..)) (Nat.le_trans hz z8) (by rw [Array.size_setIfInBounds]; exact Nat.le_succ_of_le (Nat.le_trans hz z8))
  unfold TupO
  rw [Heap.get?_update_self _ hT rfl]
  simp [Obj.mapSeq]
theorem iter_zip {z TI TO : Addr} {f0 : Value} {Q : Value → Shared → Prop} (hz : ZipO s.heap z TI TO f0 b) (h : Q (.ref z) s) : wpAny (model prog w) A (pyIter (.ref z)) Q E s := by
  have hT : s.TypeIs (.ref z) "zip" := ⟨_, hz, rfl⟩
  exact wpAny_pyIter_slot hT F.slot_zip_iter (wpAny_call_entry F.slot_zip_iter hT F.entry_zip_iter (wpAny_pure ⟨_, rfl, "zip", _, hT, F.slot_zip_next.lookup, h⟩) (F.args_zip_iter_1 _))
/-- the tuple that was handed out is let go -/
theorem go_zip {elts : List Expr} {x1} {pos : Pos} {z TI TO T : Addr} {Q : Unit → Shared → Prop} (hz : ZipO s.heap z TI TO (rawInt T) b)
    (hQ : ∀ h', ZipO h' z TI TO .none b → Heap.SameBut z s.heap h' → Q () { s with heap := h' }) : wpAny (model prog w) A (letOwnedTupleGo (.Tuple elts x1 pos) (.ref z) (.ref T)) Q E s := by
  unfold letOwnedTupleGo
  refine wpAny_bind (wpAny_load hz ?_)
  show wpAny _ _ (ite _ _ _) Q E s
  rw [if_pos (by simp)]
  exact wpAny_bind (wpAny_rule (wpAny_setField_rec hz (by simp) fun h' hz' hs' => hQ h' hz' hs'))
/-- the StopIteration that a zip ends by -/
theorem stop_it {Q : Fin → Shared → Prop} (hh : A.handled = none) (hE : ∀ h' e, (∀ c o, s.heap.get? c = some o → h'.get? c = some o) → (∃ o, h'.get? e = some o ∧ o.cls = .type "StopIteration") → E (.ref e) { s with heap := h' }) :
    wpAny (model prog w) A (PySem.Builtin.SmallTypes.stopIteration : Sem Fin) Q E s := by
  unfold PySem.Builtin.SmallTypes.stopIteration
  show wpAny _ _ (newExc (.type "StopIteration") [] >>= _) _ _ _
  refine wpAny_bind ?_
  simp only [newExc, newTuple]
  refine wpAny_bind (wpAny_newObj_type ?_ (by size_fits))
  refine wpAny_bind (m := firstArgMember _ _) (wpAny_of_eq (a := Value.none) (by first | rfl | (simp only [firstArgMember]; rfl)) ?_)
  refine wpAny_newObj_type ?_ (by size_fits)
  simp only [raiseNew]
  refine wpAny_bind (wpAny_handled ?_)
  rw [hh]
  exact wpAny_bind (wpAny_pure (wpAny_throw (hE _ _ (fun c o e => Heap.get?_push_of_some _ (Heap.get?_push_of_some _ e)) ⟨_, Heap.get?_push_size _ rfl, rfl⟩)))
end
end CZ

namespace CZ
open PySem PySem.Spec PyProof.Rows L2
open PySem.Sem (wp)
/-- the cells of a zip over 2 iterators lie apart -/
structure Sep2 (z TI TO i1 i2 : Addr) (fp1 fp2 : List Addr) : Prop where
  zTO : z ≠ TO
  zTI : z ≠ TI
  TOTI : TO ≠ TI
  m1 : i1 ∈ fp1
  z1 : z ∉ fp1
  T1 : TO ∉ fp1
  I1 : TI ≠ i1
  s2_1 : i2 ∉ fp1
  m2 : i2 ∈ fp2
  z2 : z ∉ fp2
  T2 : TO ∉ fp2
  I2 : TI ≠ i2
  s1_2 : i1 ∉ fp2
section
variable {prog : Program} {w : World} {A : Around} {E : Value → Shared → Prop} {s : Shared} {b : Bool}
theorem next_item2 {z TI TO i1 i2 : Addr} {fp1 fp2 : List Addr} {n1 n2 i : Nat} {P1 P2 : Nat → Value → Prop} {St1 St2 : Nat → Heap → Prop} {a1 a2 : Value} {Q : Value → Shared → Prop} (S : Sep2 z TI TO i1 i2 fp1 fp2) (D1 : Draws prog w A i1 fp1 n1 P1 St1) (D2 : Draws prog w A i2 fp2 n2 P2 St2)
    (hz : ZipO s.heap z TI TO .none b) (hTI : TupO s.heap TI #[.ref i1, .ref i2]) (hTO : TupO s.heap TO #[a1, a2]) (st1 : St1 i s.heap) (st2 : St2 i s.heap) (hi1 : i < n1) (hi2 : i < n2)
    (hQ : ∀ x1 x2 h' tk, P1 i x1 → P2 i x2 → ZipO h' z TI TO (rawInt s.heap.objs.size) b → TupO h' TO #[x1, x2] → St1 (i + 1) h' → St2 (i + 1) h' → TupO h' s.heap.objs.size #[x1, x2] →
      (∀ c o, c ≠ z → c ≠ TO → c ≠ i1 → c ≠ i2 → s.heap.get? c = some o → h'.get? c = some o) → Q (.ref s.heap.objs.size) { s with heap := h', toks := tk }) :
    wpAny (model prog w) A (Builtin.«zip.__next__» ⟨[.ref z], []⟩) (fun fin s' => ∃ v, fin = .done (.ret v) ∧ Q v s') E s := by
  obtain ⟨hp, g, d, tk0, os⟩ := s
  refine wpAny_bind (m := field (.ref z) 2) (wpAny_field hz rfl (x := .bool b) rfl ?_)
  refine wpAny_bind (m := field (.ref z) 3) (wpAny_field hz rfl (x := .ref TI) rfl ?_)
  refine wpAny_bind (wpAny_seqItems hTI rfl ?_)
  show wpAny _ _ (Builtin.SmallTypes.ownedTupleIsFree (.ref z) >>= _) _ _ _
  rw [val_b]
  refine wpAny_bind ?_
  unfold Builtin.SmallTypes.ownedTupleIsFree
  refine wpAny_bind (wpAny_field hz rfl (x := .none) rfl (wpAny_pure ?_))
  simp only [if_true]
  refine wpAny_bind (wpAny_rule (wpAny_bind (wpAny_field hz rfl (x := .ref TO) rfl ?_)))
  refine wpAny_bind (wpAny_setField_rec hz (by simp) fun g0 hz0 hs0 => wpAny_bind ?_)
  replace hs0 : Heap.SameBut z hp g0 := hs0
  replace hz0 : ZipO g0 z TI TO .ellipsis b := hz0
  have hT0 : TupO g0 TO #[a1, a2] := hs0.extBut _ _ S.zTO.symm hTO
  have t1_0 : St1 i g0 := D1.frame _ _ _ st1 fun c hc o e => hs0.extBut c o (fun q => S.z1 (q ▸ hc)) e
  have t2_0 : St2 i g0 := D2.frame _ _ _ st2 fun c hc o e => hs0.extBut c o (fun q => S.z2 (q ▸ hc)) e
  have k0 : ∀ c o, c ≠ z → c ≠ TO → c ≠ i1 → c ≠ i2 → hp.get? c = some o → g0.get? c = some o := fun c o q0 _ _ _ e => hs0.extBut c o q0 e
  simp only [List.zipIdx_cons, List.zipIdx_nil, List.forIn_cons, List.forIn_nil]
  refine wpAny_bind (wpAny_bind (wpAny_onRaise (m := zdraw b (.ref i1)) (zdraw_item (s := ⟨g0, g, d, tk0, os⟩) D1 hi1 t1_0 fun x1 d1 tk1 p1 n1 hd1 => ?_)))
  replace hd1 : Heap.SameBut i1 g0 d1 := hd1
  have hU1 : TupO d1 TO #[a1, a2] := hd1.extBut _ _ (fun q => S.T1 (q ▸ S.m1)) hT0
  refine wpAny_bind (wpAny_seqItems (s := ⟨d1, g, d, tk1, os⟩) hU1 rfl ?_)
  refine wpAny_bind (upd_tup (s := ⟨d1, g, d, tk1, os⟩) hU1 (by simp) fun g1 hT1 hs1 => ?_)
  replace hs1 : Heap.SameBut TO d1 g1 := hs1
  replace hT1 : TupO g1 TO #[x1, a2] := hT1
  have hz1 : ZipO g1 z TI TO .ellipsis b := hs1.extBut _ _ S.zTO (hd1.extBut _ _ (fun q => S.z1 (q ▸ S.m1)) hz0)
  have t1_1 : St1 (i + 1) g1 := D1.frame _ _ _ n1 fun c hc o e => hs1.extBut c o (fun q => S.T1 (q ▸ hc)) e
  have t2_1 : St2 i g1 := D2.frame _ _ _ t2_0 fun c hc o e => hs1.extBut c o (fun q => S.T2 (q ▸ hc)) (hd1.extBut c o (fun q => S.s1_2 (q ▸ hc)) e)
  have k1 : ∀ c o, c ≠ z → c ≠ TO → c ≠ i1 → c ≠ i2 → hp.get? c = some o → g1.get? c = some o := fun c o qz qT q1 q2 e => hs1.extBut c o qT (hd1.extBut c o q1 (k0 c o qz qT q1 q2 e))
  have e1 : g1.objs.size = g0.objs.size := by rw [hs1.1, hd1.1]
  refine wpAny_bind (wpAny_letGo (wpAny_pure ?_))
  refine wpAny_bind (wpAny_bind (wpAny_onRaise (m := zdraw b (.ref i2)) (zdraw_item (s := ⟨g1, g, d, tk1, os⟩) D2 hi2 t2_1 fun x2 d2 tk2 p2 n2 hd2 => ?_)))
  replace hd2 : Heap.SameBut i2 g1 d2 := hd2
  have hU2 : TupO d2 TO #[x1, a2] := hd2.extBut _ _ (fun q => S.T2 (q ▸ S.m2)) hT1
  refine wpAny_bind (wpAny_seqItems (s := ⟨d2, g, d, tk2, os⟩) hU2 rfl ?_)
  refine wpAny_bind (upd_tup (s := ⟨d2, g, d, tk2, os⟩) hU2 (by simp) fun g2 hT2 hs2 => ?_)
  replace hs2 : Heap.SameBut TO d2 g2 := hs2
  replace hT2 : TupO g2 TO #[x1, x2] := hT2
  have hz2 : ZipO g2 z TI TO .ellipsis b := hs2.extBut _ _ S.zTO (hd2.extBut _ _ (fun q => S.z2 (q ▸ S.m2)) hz1)
  have t1_2 : St1 (i + 1) g2 := D1.frame _ _ _ t1_1 fun c hc o e => hs2.extBut c o (fun q => S.T1 (q ▸ hc)) (hd2.extBut c o (fun q => S.s2_1 (q ▸ hc)) e)
  have t2_2 : St2 (i + 1) g2 := D2.frame _ _ _ n2 fun c hc o e => hs2.extBut c o (fun q => S.T2 (q ▸ hc)) e
  have k2 : ∀ c o, c ≠ z → c ≠ TO → c ≠ i1 → c ≠ i2 → hp.get? c = some o → g2.get? c = some o := fun c o qz qT q1 q2 e => hs2.extBut c o qT (hd2.extBut c o q2 (k1 c o qz qT q1 q2 e))
  have e2 : g2.objs.size = g1.objs.size := by rw [hs2.1, hd2.1]
  refine wpAny_bind (wpAny_letGo (wpAny_pure ?_))
  refine wpAny_pure ?_
  refine wpAny_bind (wpAny_seqItems (s := ⟨g2, g, d, tk2, os⟩) hT2 rfl ?_)
  refine wpAny_bind (wpAny_newTuple ?_)
  have hsz : g2.objs.size = hp.objs.size := by rw [e2, e1, hs0.1]
  have hlt : z < g2.objs.size := Heap.lt_size hz2
  refine wpAny_bind ?_
  unfold Builtin.SmallTypes.ownedTupleHandOut
  have hy : ZipO (g2.push { cls := .type "tuple", data := .seq #[x1, x2] }) z TI TO .ellipsis b := Heap.get?_push_of_some _ hz2
  refine wpAny_bind (wpAny_setField_rec hy (by simp) fun u1 hu1 hv1 => wpAny_setField_rec hu1 (by simp) fun u2 hu2 hv2 => ?_)
  have up : ∀ c o, c ≠ z → g2.get? c = some o → u2.get? c = some o := fun c o q e => hv2.extBut c o q (hv1.extBut c o q (Heap.get?_push_of_some _ e))
  have hN : TupO u2 g2.objs.size #[x1, x2] := hv2.extBut _ _ (Nat.ne_of_gt hlt) (hv1.extBut _ _ (Nat.ne_of_gt hlt) (Heap.get?_push_size _ rfl))
  have hZ : ZipO u2 z TI TO (rawInt g2.objs.size) b := hu2
  rw [hsz] at hN hZ
  refine wpAny_pure ⟨_, rfl, ?_⟩
  show Q (.ref g2.objs.size) ⟨u2, g, d, tk2, os⟩
  rw [hsz]
  exact hQ x1 x2 u2 tk2 p1 p2 hZ (up _ _ S.zTO.symm hT2) (D1.frame _ _ _ t1_2 fun c hc o e => up c o (fun q => S.z1 (q ▸ hc)) e) (D2.frame _ _ _ t2_2 fun c hc o e => up c o (fun q => S.z2 (q ▸ hc)) e) hN fun c o qz qT q1 q2 e => up c o qz (k2 c o qz qT q1 q2 e)
theorem next_end2 {z TI TO i1 i2 : Addr} {fp1 fp2 : List Addr} {n : Nat} {P1 P2 : Nat → Value → Prop} {St1 St2 : Nat → Heap → Prop} {a1 a2 : Value} {Q : Fin → Shared → Prop} (hh : A.handled = none) (S : Sep2 z TI TO i1 i2 fp1 fp2) (D1 : Draws prog w A i1 fp1 n P1 St1) (D2 : Draws prog w A i2 fp2 n P2 St2)
    (hz : ZipO s.heap z TI TO .none b) (hTI : TupO s.heap TI #[.ref i1, .ref i2]) (hTO : TupO s.heap TO #[a1, a2]) (st1 : St1 n s.heap) (st2 : St2 n s.heap)
    (hE : ∀ h' e, (∀ c o, c ≠ z → c ≠ TO → c ≠ i1 → c ≠ i2 → s.heap.get? c = some o → h'.get? c = some o) → (∃ o, h'.get? e = some o ∧ o.cls = .type "StopIteration") → E (.ref e) { s with heap := h' }) :
    wpAny (model prog w) A (Builtin.«zip.__next__» ⟨[.ref z], []⟩) Q E s := by
  obtain ⟨hp, g, d, tk0, os⟩ := s
  refine wpAny_bind (m := field (.ref z) 2) (wpAny_field hz rfl (x := .bool b) rfl ?_)
  refine wpAny_bind (m := field (.ref z) 3) (wpAny_field hz rfl (x := .ref TI) rfl ?_)
  refine wpAny_bind (wpAny_seqItems hTI rfl ?_)
  show wpAny _ _ (Builtin.SmallTypes.ownedTupleIsFree (.ref z) >>= _) _ _ _
  rw [val_b]
  refine wpAny_bind ?_
  unfold Builtin.SmallTypes.ownedTupleIsFree
  refine wpAny_bind (wpAny_field hz rfl (x := .none) rfl (wpAny_pure ?_))
  simp only [if_true]
  refine wpAny_bind (wpAny_rule (wpAny_bind (wpAny_field hz rfl (x := .ref TO) rfl ?_)))
  refine wpAny_bind (wpAny_setField_rec hz (by simp) fun g0 hz0 hs0 => wpAny_bind ?_)
  replace hs0 : Heap.SameBut z hp g0 := hs0
  replace hz0 : ZipO g0 z TI TO .ellipsis b := hz0
  have t1_0 : St1 n g0 := D1.frame _ _ _ st1 fun c hc o e => hs0.extBut c o (fun q => S.z1 (q ▸ hc)) e
  have t2_0 : St2 n g0 := D2.frame _ _ _ st2 fun c hc o e => hs0.extBut c o (fun q => S.z2 (q ▸ hc)) e
  simp only [List.zipIdx_cons, List.zipIdx_nil, List.forIn_cons, List.forIn_nil]
  refine wpAny_bind (wpAny_bind (wpAny_onRaise ?_))
  cases b with
  | false =>
    refine wpAny_bind (m := Builtin.SmallTypes.nextOf (.ref i1)) (D1.done ⟨g0, g, d, tk0, os⟩ _ _ t1_0 fun y e hy he => ?_)
    replace hy : Heap.ExtBut i1 g0 y := hy
    obtain ⟨oe, hoe, hce⟩ := he
    replace hoe : y.get? e = some oe := hoe
    have hzy : ZipO y z TI TO .ellipsis false := hy _ _ (fun q => S.z1 (q ▸ S.m1)) hz0
    have hez : e ≠ z := fun x => by subst x; rw [hzy] at hoe; cases hoe; simp at hce
    refine wpAny_setField_rec (s := ⟨y, g, d, tk0, os⟩) hzy (by simp) fun y2 _ hv => ?_
    replace hv : Heap.SameBut z y y2 := hv
    exact hE y2 e (fun c o qz qT q1 q2 x => hv.extBut c o qz (hy c o q1 (hs0.extBut c o qz x))) ⟨oe, hv.extBut _ _ hez hoe, hce⟩
  | true =>
    refine zend_strict (s := ⟨g0, g, d, tk0, os⟩) D1 t1_0 fun y hy => ?_
    replace hy : Heap.ExtBut i1 g0 y := hy
    have hzy : ZipO y z TI TO .ellipsis true := hy _ _ (fun q => S.z1 (q ▸ S.m1)) hz0
    have t2_1 : St2 n y := D2.frame _ _ _ t2_0 fun c hc o e => hy c o (fun q => S.s1_2 (q ▸ hc)) e
    refine wpAny_bind (wpAny_setField_rec (s := ⟨y, g, d, tk0, os⟩) hzy (by simp) fun y1 _ hv1 => ?_)
    replace hv1 : Heap.SameBut z y y1 := hv1
    have r2_1 : St2 n y1 := D2.frame _ _ _ t2_1 fun c hc o e => hv1.extBut c o (fun q => S.z2 (q ▸ hc)) e
    have k1 : ∀ c o, c ≠ z → c ≠ TO → c ≠ i1 → c ≠ i2 → hp.get? c = some o → y1.get? c = some o := fun c o qz qT q1 q2 e => hv1.extBut c o qz (hy c o q1 (hs0.extBut c o qz e))
    refine wpAny_bind ?_
    refine wpAny_bind ?_
    simp only [List.drop_succ_cons, List.drop_zero, List.zipIdx_cons, List.zipIdx_nil, List.forIn_cons, List.forIn_nil]
    refine wpAny_bind (wpAny_bind (zend_strict (s := ⟨y1, g, d, tk0, os⟩) D2 r2_1 fun y2 hy2 => ?_))
    replace hy2 : Heap.ExtBut i2 y1 y2 := hy2
    have k2 : ∀ c o, c ≠ z → c ≠ TO → c ≠ i1 → c ≠ i2 → hp.get? c = some o → y2.get? c = some o := fun c o qz qT q1 q2 e => hy2 c o q2 (k1 c o qz qT q1 q2 e)
    refine wpAny_pure ?_
    refine wpAny_pure ?_
    exact wpAny_bind (wpAny_rule (stop_it (s := ⟨y2, g, d, tk0, os⟩) hh fun h2 e kk he => hE h2 e (fun c o qz qT q1 q2 x => kk c o (k2 c o qz qT q1 q2 x)) he))
theorem py_item2 {z TI TO i1 i2 : Addr} {fp1 fp2 : List Addr} {n1 n2 i : Nat} {P1 P2 : Nat → Value → Prop} {St1 St2 : Nat → Heap → Prop} {a1 a2 : Value} {Q : Option Value → Shared → Prop} (S : Sep2 z TI TO i1 i2 fp1 fp2) (D1 : Draws prog w A.in1 i1 fp1 n1 P1 St1) (D2 : Draws prog w A.in1 i2 fp2 n2 P2 St2)
    (hz : ZipO s.heap z TI TO .none b) (hTI : TupO s.heap TI #[.ref i1, .ref i2]) (hTO : TupO s.heap TO #[a1, a2]) (st1 : St1 i s.heap) (st2 : St2 i s.heap) (hi1 : i < n1) (hi2 : i < n2)
    (hQ : ∀ x1 x2 h' tk, P1 i x1 → P2 i x2 → ZipO h' z TI TO (rawInt s.heap.objs.size) b → TupO h' TO #[x1, x2] → St1 (i + 1) h' → St2 (i + 1) h' → TupO h' s.heap.objs.size #[x1, x2] →
      (∀ c o, c ≠ z → c ≠ TO → c ≠ i1 → c ≠ i2 → s.heap.get? c = some o → h'.get? c = some o) → Q (some (.ref s.heap.objs.size)) { s with heap := h', toks := tk }) : wpAny (model prog w) A (pyNext (.ref z)) Q E s := by
  have hT : s.TypeIs (.ref z) "zip" := ⟨_, hz, rfl⟩
  unfold pyNext
  refine wpAny_bind (wpAny_attempt (wpAny_callSpecial?_slot (name := Str.ofString "__next__") hT F.slot_zip_next (wpAny_call_entry F.slot_zip_next hT F.entry_zip_next ?_ (F.args_zip_next_1 _))))
  exact next_item2 S D1 D2 hz hTI hTO st1 st2 hi1 hi2 fun x1 x2 h2 tk p1 p2 q1 q2 u1 u2 q3 q4 => wpAny_pure (hQ x1 x2 h2 tk p1 p2 q1 q2 u1 u2 q3 q4)
theorem py_end2 {z TI TO i1 i2 : Addr} {fp1 fp2 : List Addr} {n : Nat} {P1 P2 : Nat → Value → Prop} {St1 St2 : Nat → Heap → Prop} {a1 a2 : Value} {Q : Option Value → Shared → Prop} (hh : A.handled = none) (S : Sep2 z TI TO i1 i2 fp1 fp2) (D1 : Draws prog w A.in1 i1 fp1 n P1 St1) (D2 : Draws prog w A.in1 i2 fp2 n P2 St2)
    (hz : ZipO s.heap z TI TO .none b) (hTI : TupO s.heap TI #[.ref i1, .ref i2]) (hTO : TupO s.heap TO #[a1, a2]) (st1 : St1 n s.heap) (st2 : St2 n s.heap)
    (hQ : ∀ h', (∀ c o, c ≠ z → c ≠ TO → c ≠ i1 → c ≠ i2 → s.heap.get? c = some o → h'.get? c = some o) → Q none { s with heap := h' }) : wpAny (model prog w) A (pyNext (.ref z)) Q E s := by
  have hT : s.TypeIs (.ref z) "zip" := ⟨_, hz, rfl⟩
  unfold pyNext
  refine wpAny_bind (wpAny_attempt (wpAny_callSpecial?_slot (name := Str.ofString "__next__") hT F.slot_zip_next (wpAny_call_entry F.slot_zip_next hT F.entry_zip_next ?_ (F.args_zip_next_1 _))))
  refine next_end2 (A := A.in1) hh S D1 D2 hz hTI hTO st1 st2 fun h2 e kk he => ?_
  obtain ⟨o, ho, hc⟩ := he
  exact wpAny_bind (wpAny_isInstance (T := "StopIteration") (b := true) ⟨o, ho, hc⟩ isSubtype_stop (wpAny_pure (hQ _ kk)))
theorem typeCall_strict2 (v1 v2 x : Value) : checkTypeCall "zip" ⟨[v1, v2], [(Str.ofString "strict", x)]⟩ = pure () := by kernel_rfl
theorem newCall_strict2 (v1 v2 x : Value) : checkBuiltinCall "zip.__new__" ⟨[.type "zip", v1, v2], [(Str.ofString "strict", x)]⟩ = pure () := by kernel_rfl
theorem initArgs_strict2 (obj v1 v2 x : Value) : argsOk "object.__init__" ⟨[obj, v1, v2], [(Str.ofString "strict", x)]⟩ := by unfold argsOk; kernel_rfl
abbrev sT2 (h : Heap) (o1 o2 : Obj) : Heap := (((h.push o1).push o2).push { cls := .type "tuple", data := .seq #[.ref h.objs.size, .ref (h.push o1).objs.size] })
abbrev sO2 (h : Heap) (o1 o2 : Obj) : Heap := (sT2 h o1 o2).push { cls := .type "tuple", data := .seq #[.none, .none] }
abbrev sZ2 (h : Heap) (o1 o2 : Obj) : Heap := (sO2 h o1 o2).push { cls := .type "zip", data := .fields #[.none, .bool false, .bool true, .ref ((h.push o1).push o2).objs.size, .ref (sT2 h o1 o2).objs.size] }
theorem meets_strict2 {v1 v2 : Value} {o1 o2 : Obj} {G1 G2 : Heap → Prop} (B1 : Begins v1 o1 G1) (B2 : Begins v2 o2 G2) :
    Meets (Builtin.«zip.__new__» ⟨[.type "zip", v1, v2], [(Str.ofString "strict", .bool true)]⟩) (fun _ R s => (G1 s.heap ∧ G2 s.heap) ∧ R (.ok (.ret (.ref (sO2 s.heap o1 o2).objs.size))) { s with heap := (sZ2 s.heap o1 o2) }) :=
  .of_wp fun prog w A R s h => by
    obtain ⟨hp, g, d, tk, os⟩ := s
    obtain ⟨⟨h1, h2⟩, h⟩ := h
    have hsub := sub_zip
    have e1 : (Str.ofString "strict" != ("strict" : Str)) = false := by decide +kernel
    have w1 : ∀ {A' : Around} {E : Value → Shared → Prop} {Q : Value → Shared → Prop}, Q (.ref hp.objs.size) ⟨(hp.push o1), g, d, tk, os⟩ → wpAny (model prog w) A' (pyIter v1) Q E ⟨hp, g, d, tk, os⟩ := fun q => B1.iter prog w _ _ ⟨hp, g, d, tk, os⟩ _ (B1.keeps _ _ h1 fun c u e => e) q
    have w2 : ∀ {A' : Around} {E : Value → Shared → Prop} {Q : Value → Shared → Prop}, Q (.ref (hp.push o1).objs.size) ⟨((hp.push o1).push o2), g, d, tk, os⟩ → wpAny (model prog w) A' (pyIter v2) Q E ⟨(hp.push o1), g, d, tk, os⟩ := fun q => B2.iter prog w _ _ ⟨(hp.push o1), g, d, tk, os⟩ _ (B2.keeps _ _ h2 fun c u e => (Heap.get?_push_of_some _ e)) q
    wp_walk using w1, w2
    exact ⟨_, rfl, h⟩
/-- zip(.., strict=True) of 2: its new cells -/
theorem begins_strict2 {v1 v2 : Value} {o1 o2 : Obj} {G1 G2 : Heap → Prop} {Q : Value → Shared → Prop} (B1 : Begins v1 o1 G1) (B2 : Begins v2 o2 G2) (h1 : G1 s.heap) (h2 : G2 s.heap)
    (h : ∀ h', ZipO h' (s.heap.objs.size + 4) (s.heap.objs.size + 2) (s.heap.objs.size + 3) .none true → TupO h' (s.heap.objs.size + 2) #[.ref s.heap.objs.size, .ref (s.heap.objs.size + 1)] → TupO h' (s.heap.objs.size + 3) #[.none, .none] → h'.get? s.heap.objs.size = some o1 → h'.get? (s.heap.objs.size + 1) = some o2 → (∀ c o, s.heap.get? c = some o → h'.get? c = some o) → Q (.ref (s.heap.objs.size + 4)) { s with heap := h' }) :
    wpAny (model prog w) A (call (.type "zip") [v1, v2] [(Str.ofString "strict", .bool true)]) Q E s := by
  refine callType_newKw F.called_zip (by decide) (typeCall_strict2 _ _ _) (newCall_strict2 _ _ _) (fun obj => initArgs_strict2 obj _ _ _) F.entry_zip_new (meets_strict2 B1 B2) ⟨⟨h1, h2⟩, ?_⟩
  have z1 : (s.heap.push o1).objs.size = s.heap.objs.size + 1 := by rw [Heap.size_push]
  have z2 : ((s.heap.push o1).push o2).objs.size = s.heap.objs.size + 2 := by rw [Heap.size_push, z1]
  have z3 : (sT2 s.heap o1 o2).objs.size = s.heap.objs.size + 3 := by rw [Heap.size_push, z2]
  have z4 : (sO2 s.heap o1 o2).objs.size = s.heap.objs.size + 4 := by rw [Heap.size_push, z3]
  have z5 : (sZ2 s.heap o1 o2).objs.size = s.heap.objs.size + 5 := by rw [Heap.size_push, z4]
  have q0 : (sZ2 s.heap o1 o2).get? s.heap.objs.size = some o1 := (Heap.get?_push_of_some _ (Heap.get?_push_of_some _ (Heap.get?_push_of_some _ (Heap.get?_push_of_some _ (Heap.get?_push_size _ B1.free)))))
  have q1 : (sZ2 s.heap o1 o2).get? (s.heap.push o1).objs.size = some o2 := (Heap.get?_push_of_some _ (Heap.get?_push_of_some _ (Heap.get?_push_of_some _ (Heap.get?_push_size _ B2.free))))
  rw [z1] at q1
  have q2 : (sZ2 s.heap o1 o2).get? ((s.heap.push o1).push o2).objs.size = some ({ cls := .type "tuple", data := .seq #[.ref s.heap.objs.size, .ref (s.heap.push o1).objs.size] } : Obj) := (Heap.get?_push_of_some _ (Heap.get?_push_of_some _ (Heap.get?_push_size _ rfl)))
  rw [z2] at q2
  have q3 : (sZ2 s.heap o1 o2).get? (sT2 s.heap o1 o2).objs.size = some ({ cls := .type "tuple", data := .seq #[.none, .none] } : Obj) := (Heap.get?_push_of_some _ (Heap.get?_push_size _ rfl))
  rw [z3] at q3
  have q4 : (sZ2 s.heap o1 o2).get? (sO2 s.heap o1 o2).objs.size = some ({ cls := .type "zip", data := .fields #[.none, .bool false, .bool true, .ref ((s.heap.push o1).push o2).objs.size, .ref (sT2 s.heap o1 o2).objs.size] } : Obj) := (Heap.get?_push_size _ rfl)
  rw [z4] at q4
  rw [z1] at q2
  rw [z3, z2] at q4
  show _ ∧ _
  rw [z4]
  exact ⟨⟨_, q4, rfl⟩, h _ q4 q2 q3 q0 q1 fun c o e => (Heap.get?_push_of_some _ (Heap.get?_push_of_some _ (Heap.get?_push_of_some _ (Heap.get?_push_of_some _ (Heap.get?_push_of_some _ e)))))⟩
end
/-- the cells of a zip over 3 iterators lie apart -/
structure Sep3 (z TI TO i1 i2 i3 : Addr) (fp1 fp2 fp3 : List Addr) : Prop where
  zTO : z ≠ TO
  zTI : z ≠ TI
  TOTI : TO ≠ TI
  m1 : i1 ∈ fp1
  z1 : z ∉ fp1
  T1 : TO ∉ fp1
  I1 : TI ≠ i1
  s2_1 : i2 ∉ fp1
  s3_1 : i3 ∉ fp1
  m2 : i2 ∈ fp2
  z2 : z ∉ fp2
  T2 : TO ∉ fp2
  I2 : TI ≠ i2
  s1_2 : i1 ∉ fp2
  s3_2 : i3 ∉ fp2
  m3 : i3 ∈ fp3
  z3 : z ∉ fp3
  T3 : TO ∉ fp3
  I3 : TI ≠ i3
  s1_3 : i1 ∉ fp3
  s2_3 : i2 ∉ fp3
section
variable {prog : Program} {w : World} {A : Around} {E : Value → Shared → Prop} {s : Shared} {b : Bool}
theorem next_item3 {z TI TO i1 i2 i3 : Addr} {fp1 fp2 fp3 : List Addr} {n1 n2 n3 i : Nat} {P1 P2 P3 : Nat → Value → Prop} {St1 St2 St3 : Nat → Heap → Prop} {a1 a2 a3 : Value} {Q : Value → Shared → Prop} (S : Sep3 z TI TO i1 i2 i3 fp1 fp2 fp3) (D1 : Draws prog w A i1 fp1 n1 P1 St1) (D2 : Draws prog w A i2 fp2 n2 P2 St2) (D3 : Draws prog w A i3 fp3 n3 P3 St3)
    (hz : ZipO s.heap z TI TO .none b) (hTI : TupO s.heap TI #[.ref i1, .ref i2, .ref i3]) (hTO : TupO s.heap TO #[a1, a2, a3]) (st1 : St1 i s.heap) (st2 : St2 i s.heap) (st3 : St3 i s.heap) (hi1 : i < n1) (hi2 : i < n2) (hi3 : i < n3)
    (hQ : ∀ x1 x2 x3 h' tk, P1 i x1 → P2 i x2 → P3 i x3 → ZipO h' z TI TO (rawInt s.heap.objs.size) b → TupO h' TO #[x1, x2, x3] → St1 (i + 1) h' → St2 (i + 1) h' → St3 (i + 1) h' → TupO h' s.heap.objs.size #[x1, x2, x3] →
      (∀ c o, c ≠ z → c ≠ TO → c ≠ i1 → c ≠ i2 → c ≠ i3 → s.heap.get? c = some o → h'.get? c = some o) → Q (.ref s.heap.objs.size) { s with heap := h', toks := tk }) :
    wpAny (model prog w) A (Builtin.«zip.__next__» ⟨[.ref z], []⟩) (fun fin s' => ∃ v, fin = .done (.ret v) ∧ Q v s') E s := by
  obtain ⟨hp, g, d, tk0, os⟩ := s
  refine wpAny_bind (m := field (.ref z) 2) (wpAny_field hz rfl (x := .bool b) rfl ?_)
  refine wpAny_bind (m := field (.ref z) 3) (wpAny_field hz rfl (x := .ref TI) rfl ?_)
  refine wpAny_bind (wpAny_seqItems hTI rfl ?_)
  show wpAny _ _ (Builtin.SmallTypes.ownedTupleIsFree (.ref z) >>= _) _ _ _
  rw [val_b]
  refine wpAny_bind ?_
  unfold Builtin.SmallTypes.ownedTupleIsFree
  refine wpAny_bind (wpAny_field hz rfl (x := .none) rfl (wpAny_pure ?_))
  simp only [if_true]
  refine wpAny_bind (wpAny_rule (wpAny_bind (wpAny_field hz rfl (x := .ref TO) rfl ?_)))
  refine wpAny_bind (wpAny_setField_rec hz (by simp) fun g0 hz0 hs0 => wpAny_bind ?_)
  replace hs0 : Heap.SameBut z hp g0 := hs0
  replace hz0 : ZipO g0 z TI TO .ellipsis b := hz0
  have hT0 : TupO g0 TO #[a1, a2, a3] := hs0.extBut _ _ S.zTO.symm hTO
  have t1_0 : St1 i g0 := D1.frame _ _ _ st1 fun c hc o e => hs0.extBut c o (fun q => S.z1 (q ▸ hc)) e
  have t2_0 : St2 i g0 := D2.frame _ _ _ st2 fun c hc o e => hs0.extBut c o (fun q => S.z2 (q ▸ hc)) e
  have t3_0 : St3 i g0 := D3.frame _ _ _ st3 fun c hc o e => hs0.extBut c o (fun q => S.z3 (q ▸ hc)) e
  have k0 : ∀ c o, c ≠ z → c ≠ TO → c ≠ i1 → c ≠ i2 → c ≠ i3 → hp.get? c = some o → g0.get? c = some o := fun c o q0 _ _ _ _ e => hs0.extBut c o q0 e
  simp only [List.zipIdx_cons, List.zipIdx_nil, List.forIn_cons, List.forIn_nil]
  refine wpAny_bind (wpAny_bind (wpAny_onRaise (m := zdraw b (.ref i1)) (zdraw_item (s := ⟨g0, g, d, tk0, os⟩) D1 hi1 t1_0 fun x1 d1 tk1 p1 n1 hd1 => ?_)))
  replace hd1 : Heap.SameBut i1 g0 d1 := hd1
  have hU1 : TupO d1 TO #[a1, a2, a3] := hd1.extBut _ _ (fun q => S.T1 (q ▸ S.m1)) hT0
  refine wpAny_bind (wpAny_seqItems (s := ⟨d1, g, d, tk1, os⟩) hU1 rfl ?_)
  refine wpAny_bind (upd_tup (s := ⟨d1, g, d, tk1, os⟩) hU1 (by simp) fun g1 hT1 hs1 => ?_)
  replace hs1 : Heap.SameBut TO d1 g1 := hs1
  replace hT1 : TupO g1 TO #[x1, a2, a3] := hT1
  have hz1 : ZipO g1 z TI TO .ellipsis b := hs1.extBut _ _ S.zTO (hd1.extBut _ _ (fun q => S.z1 (q ▸ S.m1)) hz0)
  have t1_1 : St1 (i + 1) g1 := D1.frame _ _ _ n1 fun c hc o e => hs1.extBut c o (fun q => S.T1 (q ▸ hc)) e
  have t2_1 : St2 i g1 := D2.frame _ _ _ t2_0 fun c hc o e => hs1.extBut c o (fun q => S.T2 (q ▸ hc)) (hd1.extBut c o (fun q => S.s1_2 (q ▸ hc)) e)
  have t3_1 : St3 i g1 := D3.frame _ _ _ t3_0 fun c hc o e => hs1.extBut c o (fun q => S.T3 (q ▸ hc)) (hd1.extBut c o (fun q => S.s1_3 (q ▸ hc)) e)
  have k1 : ∀ c o, c ≠ z → c ≠ TO → c ≠ i1 → c ≠ i2 → c ≠ i3 → hp.get? c = some o → g1.get? c = some o := fun c o qz qT q1 q2 q3 e => hs1.extBut c o qT (hd1.extBut c o q1 (k0 c o qz qT q1 q2 q3 e))
  have e1 : g1.objs.size = g0.objs.size := by rw [hs1.1, hd1.1]
  refine wpAny_bind (wpAny_letGo (wpAny_pure ?_))
  refine wpAny_bind (wpAny_bind (wpAny_onRaise (m := zdraw b (.ref i2)) (zdraw_item (s := ⟨g1, g, d, tk1, os⟩) D2 hi2 t2_1 fun x2 d2 tk2 p2 n2 hd2 => ?_)))
  replace hd2 : Heap.SameBut i2 g1 d2 := hd2
  have hU2 : TupO d2 TO #[x1, a2, a3] := hd2.extBut _ _ (fun q => S.T2 (q ▸ S.m2)) hT1
  refine wpAny_bind (wpAny_seqItems (s := ⟨d2, g, d, tk2, os⟩) hU2 rfl ?_)
  refine wpAny_bind (upd_tup (s := ⟨d2, g, d, tk2, os⟩) hU2 (by simp) fun g2 hT2 hs2 => ?_)
  replace hs2 : Heap.SameBut TO d2 g2 := hs2
  replace hT2 : TupO g2 TO #[x1, x2, a3] := hT2
  have hz2 : ZipO g2 z TI TO .ellipsis b := hs2.extBut _ _ S.zTO (hd2.extBut _ _ (fun q => S.z2 (q ▸ S.m2)) hz1)
  have t1_2 : St1 (i + 1) g2 := D1.frame _ _ _ t1_1 fun c hc o e => hs2.extBut c o (fun q => S.T1 (q ▸ hc)) (hd2.extBut c o (fun q => S.s2_1 (q ▸ hc)) e)
  have t2_2 : St2 (i + 1) g2 := D2.frame _ _ _ n2 fun c hc o e => hs2.extBut c o (fun q => S.T2 (q ▸ hc)) e
  have t3_2 : St3 i g2 := D3.frame _ _ _ t3_1 fun c hc o e => hs2.extBut c o (fun q => S.T3 (q ▸ hc)) (hd2.extBut c o (fun q => S.s2_3 (q ▸ hc)) e)
  have k2 : ∀ c o, c ≠ z → c ≠ TO → c ≠ i1 → c ≠ i2 → c ≠ i3 → hp.get? c = some o → g2.get? c = some o := fun c o qz qT q1 q2 q3 e => hs2.extBut c o qT (hd2.extBut c o q2 (k1 c o qz qT q1 q2 q3 e))
  have e2 : g2.objs.size = g1.objs.size := by rw [hs2.1, hd2.1]
  refine wpAny_bind (wpAny_letGo (wpAny_pure ?_))
  refine wpAny_bind (wpAny_bind (wpAny_onRaise (m := zdraw b (.ref i3)) (zdraw_item (s := ⟨g2, g, d, tk2, os⟩) D3 hi3 t3_2 fun x3 d3 tk3 p3 n3 hd3 => ?_)))
  replace hd3 : Heap.SameBut i3 g2 d3 := hd3
  have hU3 : TupO d3 TO #[x1, x2, a3] := hd3.extBut _ _ (fun q => S.T3 (q ▸ S.m3)) hT2
  refine wpAny_bind (wpAny_seqItems (s := ⟨d3, g, d, tk3, os⟩) hU3 rfl ?_)
  refine wpAny_bind (upd_tup (s := ⟨d3, g, d, tk3, os⟩) hU3 (by simp) fun g3 hT3 hs3 => ?_)
  replace hs3 : Heap.SameBut TO d3 g3 := hs3
  replace hT3 : TupO g3 TO #[x1, x2, x3] := hT3
  have hz3 : ZipO g3 z TI TO .ellipsis b := hs3.extBut _ _ S.zTO (hd3.extBut _ _ (fun q => S.z3 (q ▸ S.m3)) hz2)
  have t1_3 : St1 (i + 1) g3 := D1.frame _ _ _ t1_2 fun c hc o e => hs3.extBut c o (fun q => S.T1 (q ▸ hc)) (hd3.extBut c o (fun q => S.s3_1 (q ▸ hc)) e)
  have t2_3 : St2 (i + 1) g3 := D2.frame _ _ _ t2_2 fun c hc o e => hs3.extBut c o (fun q => S.T2 (q ▸ hc)) (hd3.extBut c o (fun q => S.s3_2 (q ▸ hc)) e)
  have t3_3 : St3 (i + 1) g3 := D3.frame _ _ _ n3 fun c hc o e => hs3.extBut c o (fun q => S.T3 (q ▸ hc)) e
  have k3 : ∀ c o, c ≠ z → c ≠ TO → c ≠ i1 → c ≠ i2 → c ≠ i3 → hp.get? c = some o → g3.get? c = some o := fun c o qz qT q1 q2 q3 e => hs3.extBut c o qT (hd3.extBut c o q3 (k2 c o qz qT q1 q2 q3 e))
  have e3 : g3.objs.size = g2.objs.size := by rw [hs3.1, hd3.1]
  refine wpAny_bind (wpAny_letGo (wpAny_pure ?_))
  refine wpAny_pure ?_
  refine wpAny_bind (wpAny_seqItems (s := ⟨g3, g, d, tk3, os⟩) hT3 rfl ?_)
  refine wpAny_bind (wpAny_newTuple ?_)
  have hsz : g3.objs.size = hp.objs.size := by rw [e3, e2, e1, hs0.1]
  have hlt : z < g3.objs.size := Heap.lt_size hz3
  refine wpAny_bind ?_
  unfold Builtin.SmallTypes.ownedTupleHandOut
  have hy : ZipO (g3.push { cls := .type "tuple", data := .seq #[x1, x2, x3] }) z TI TO .ellipsis b := Heap.get?_push_of_some _ hz3
  refine wpAny_bind (wpAny_setField_rec hy (by simp) fun u1 hu1 hv1 => wpAny_setField_rec hu1 (by simp) fun u2 hu2 hv2 => ?_)
  have up : ∀ c o, c ≠ z → g3.get? c = some o → u2.get? c = some o := fun c o q e => hv2.extBut c o q (hv1.extBut c o q (Heap.get?_push_of_some _ e))
  have hN : TupO u2 g3.objs.size #[x1, x2, x3] := hv2.extBut _ _ (Nat.ne_of_gt hlt) (hv1.extBut _ _ (Nat.ne_of_gt hlt) (Heap.get?_push_size _ rfl))
  have hZ : ZipO u2 z TI TO (rawInt g3.objs.size) b := hu2
  rw [hsz] at hN hZ
  refine wpAny_pure ⟨_, rfl, ?_⟩
  show Q (.ref g3.objs.size) ⟨u2, g, d, tk3, os⟩
  rw [hsz]
  exact hQ x1 x2 x3 u2 tk3 p1 p2 p3 hZ (up _ _ S.zTO.symm hT3) (D1.frame _ _ _ t1_3 fun c hc o e => up c o (fun q => S.z1 (q ▸ hc)) e) (D2.frame _ _ _ t2_3 fun c hc o e => up c o (fun q => S.z2 (q ▸ hc)) e) (D3.frame _ _ _ t3_3 fun c hc o e => up c o (fun q => S.z3 (q ▸ hc)) e) hN fun c o qz qT q1 q2 q3 e => up c o qz (k3 c o qz qT q1 q2 q3 e)
theorem next_end3 {z TI TO i1 i2 i3 : Addr} {fp1 fp2 fp3 : List Addr} {n : Nat} {P1 P2 P3 : Nat → Value → Prop} {St1 St2 St3 : Nat → Heap → Prop} {a1 a2 a3 : Value} {Q : Fin → Shared → Prop} (hh : A.handled = none) (S : Sep3 z TI TO i1 i2 i3 fp1 fp2 fp3) (D1 : Draws prog w A i1 fp1 n P1 St1) (D2 : Draws prog w A i2 fp2 n P2 St2) (D3 : Draws prog w A i3 fp3 n P3 St3)
    (hz : ZipO s.heap z TI TO .none b) (hTI : TupO s.heap TI #[.ref i1, .ref i2, .ref i3]) (hTO : TupO s.heap TO #[a1, a2, a3]) (st1 : St1 n s.heap) (st2 : St2 n s.heap) (st3 : St3 n s.heap)
    (hE : ∀ h' e, (∀ c o, c ≠ z → c ≠ TO → c ≠ i1 → c ≠ i2 → c ≠ i3 → s.heap.get? c = some o → h'.get? c = some o) → (∃ o, h'.get? e = some o ∧ o.cls = .type "StopIteration") → E (.ref e) { s with heap := h' }) :
    wpAny (model prog w) A (Builtin.«zip.__next__» ⟨[.ref z], []⟩) Q E s := by
  obtain ⟨hp, g, d, tk0, os⟩ := s
  refine wpAny_bind (m := field (.ref z) 2) (wpAny_field hz rfl (x := .bool b) rfl ?_)
  refine wpAny_bind (m := field (.ref z) 3) (wpAny_field hz rfl (x := .ref TI) rfl ?_)
  refine wpAny_bind (wpAny_seqItems hTI rfl ?_)
  show wpAny _ _ (Builtin.SmallTypes.ownedTupleIsFree (.ref z) >>= _) _ _ _
  rw [val_b]
  refine wpAny_bind ?_
  unfold Builtin.SmallTypes.ownedTupleIsFree
  refine wpAny_bind (wpAny_field hz rfl (x := .none) rfl (wpAny_pure ?_))
  simp only [if_true]
  refine wpAny_bind (wpAny_rule (wpAny_bind (wpAny_field hz rfl (x := .ref TO) rfl ?_)))
  refine wpAny_bind (wpAny_setField_rec hz (by simp) fun g0 hz0 hs0 => wpAny_bind ?_)
  replace hs0 : Heap.SameBut z hp g0 := hs0
  replace hz0 : ZipO g0 z TI TO .ellipsis b := hz0
  have t1_0 : St1 n g0 := D1.frame _ _ _ st1 fun c hc o e => hs0.extBut c o (fun q => S.z1 (q ▸ hc)) e
  have t2_0 : St2 n g0 := D2.frame _ _ _ st2 fun c hc o e => hs0.extBut c o (fun q => S.z2 (q ▸ hc)) e
  have t3_0 : St3 n g0 := D3.frame _ _ _ st3 fun c hc o e => hs0.extBut c o (fun q => S.z3 (q ▸ hc)) e
  simp only [List.zipIdx_cons, List.zipIdx_nil, List.forIn_cons, List.forIn_nil]
  refine wpAny_bind (wpAny_bind (wpAny_onRaise ?_))
  cases b with
  | false =>
    refine wpAny_bind (m := Builtin.SmallTypes.nextOf (.ref i1)) (D1.done ⟨g0, g, d, tk0, os⟩ _ _ t1_0 fun y e hy he => ?_)
    replace hy : Heap.ExtBut i1 g0 y := hy
    obtain ⟨oe, hoe, hce⟩ := he
    replace hoe : y.get? e = some oe := hoe
    have hzy : ZipO y z TI TO .ellipsis false := hy _ _ (fun q => S.z1 (q ▸ S.m1)) hz0
    have hez : e ≠ z := fun x => by subst x; rw [hzy] at hoe; cases hoe; simp at hce
    refine wpAny_setField_rec (s := ⟨y, g, d, tk0, os⟩) hzy (by simp) fun y2 _ hv => ?_
    replace hv : Heap.SameBut z y y2 := hv
    exact hE y2 e (fun c o qz qT q1 q2 q3 x => hv.extBut c o qz (hy c o q1 (hs0.extBut c o qz x))) ⟨oe, hv.extBut _ _ hez hoe, hce⟩
  | true =>
    refine zend_strict (s := ⟨g0, g, d, tk0, os⟩) D1 t1_0 fun y hy => ?_
    replace hy : Heap.ExtBut i1 g0 y := hy
    have hzy : ZipO y z TI TO .ellipsis true := hy _ _ (fun q => S.z1 (q ▸ S.m1)) hz0
    have t2_1 : St2 n y := D2.frame _ _ _ t2_0 fun c hc o e => hy c o (fun q => S.s1_2 (q ▸ hc)) e
    have t3_1 : St3 n y := D3.frame _ _ _ t3_0 fun c hc o e => hy c o (fun q => S.s1_3 (q ▸ hc)) e
    refine wpAny_bind (wpAny_setField_rec (s := ⟨y, g, d, tk0, os⟩) hzy (by simp) fun y1 _ hv1 => ?_)
    replace hv1 : Heap.SameBut z y y1 := hv1
    have r2_1 : St2 n y1 := D2.frame _ _ _ t2_1 fun c hc o e => hv1.extBut c o (fun q => S.z2 (q ▸ hc)) e
    have r3_1 : St3 n y1 := D3.frame _ _ _ t3_1 fun c hc o e => hv1.extBut c o (fun q => S.z3 (q ▸ hc)) e
    have k1 : ∀ c o, c ≠ z → c ≠ TO → c ≠ i1 → c ≠ i2 → c ≠ i3 → hp.get? c = some o → y1.get? c = some o := fun c o qz qT q1 q2 q3 e => hv1.extBut c o qz (hy c o q1 (hs0.extBut c o qz e))
    refine wpAny_bind ?_
    refine wpAny_bind ?_
    simp only [List.drop_succ_cons, List.drop_zero, List.zipIdx_cons, List.zipIdx_nil, List.forIn_cons, List.forIn_nil]
    refine wpAny_bind (wpAny_bind (zend_strict (s := ⟨y1, g, d, tk0, os⟩) D2 r2_1 fun y2 hy2 => ?_))
    replace hy2 : Heap.ExtBut i2 y1 y2 := hy2
    have k2 : ∀ c o, c ≠ z → c ≠ TO → c ≠ i1 → c ≠ i2 → c ≠ i3 → hp.get? c = some o → y2.get? c = some o := fun c o qz qT q1 q2 q3 e => hy2 c o q2 (k1 c o qz qT q1 q2 q3 e)
    have r3_2 : St3 n y2 := D3.frame _ _ _ r3_1 fun c hc o e => hy2 c o (fun q => S.s2_3 (q ▸ hc)) e
    refine wpAny_pure ?_
    refine wpAny_bind (wpAny_bind (zend_strict (s := ⟨y2, g, d, tk0, os⟩) D3 r3_2 fun y3 hy3 => ?_))
    replace hy3 : Heap.ExtBut i3 y2 y3 := hy3
    have k3 : ∀ c o, c ≠ z → c ≠ TO → c ≠ i1 → c ≠ i2 → c ≠ i3 → hp.get? c = some o → y3.get? c = some o := fun c o qz qT q1 q2 q3 e => hy3 c o q3 (k2 c o qz qT q1 q2 q3 e)
    refine wpAny_pure ?_
    refine wpAny_pure ?_
    exact wpAny_bind (wpAny_rule (stop_it (s := ⟨y3, g, d, tk0, os⟩) hh fun h2 e kk he => hE h2 e (fun c o qz qT q1 q2 q3 x => kk c o (k3 c o qz qT q1 q2 q3 x)) he))
theorem py_item3 {z TI TO i1 i2 i3 : Addr} {fp1 fp2 fp3 : List Addr} {n1 n2 n3 i : Nat} {P1 P2 P3 : Nat → Value → Prop} {St1 St2 St3 : Nat → Heap → Prop} {a1 a2 a3 : Value} {Q : Option Value → Shared → Prop} (S : Sep3 z TI TO i1 i2 i3 fp1 fp2 fp3) (D1 : Draws prog w A.in1 i1 fp1 n1 P1 St1) (D2 : Draws prog w A.in1 i2 fp2 n2 P2 St2) (D3 : Draws prog w A.in1 i3 fp3 n3 P3 St3)
    (hz : ZipO s.heap z TI TO .none b) (hTI : TupO s.heap TI #[.ref i1, .ref i2, .ref i3]) (hTO : TupO s.heap TO #[a1, a2, a3]) (st1 : St1 i s.heap) (st2 : St2 i s.heap) (st3 : St3 i s.heap) (hi1 : i < n1) (hi2 : i < n2) (hi3 : i < n3)
    (hQ : ∀ x1 x2 x3 h' tk, P1 i x1 → P2 i x2 → P3 i x3 → ZipO h' z TI TO (rawInt s.heap.objs.size) b → TupO h' TO #[x1, x2, x3] → St1 (i + 1) h' → St2 (i + 1) h' → St3 (i + 1) h' → TupO h' s.heap.objs.size #[x1, x2, x3] →
      (∀ c o, c ≠ z → c ≠ TO → c ≠ i1 → c ≠ i2 → c ≠ i3 → s.heap.get? c = some o → h'.get? c = some o) → Q (some (.ref s.heap.objs.size)) { s with heap := h', toks := tk }) : wpAny (model prog w) A (pyNext (.ref z)) Q E s := by
  have hT : s.TypeIs (.ref z) "zip" := ⟨_, hz, rfl⟩
  unfold pyNext
  refine wpAny_bind (wpAny_attempt (wpAny_callSpecial?_slot (name := Str.ofString "__next__") hT F.slot_zip_next (wpAny_call_entry F.slot_zip_next hT F.entry_zip_next ?_ (F.args_zip_next_1 _))))
  exact next_item3 S D1 D2 D3 hz hTI hTO st1 st2 st3 hi1 hi2 hi3 fun x1 x2 x3 h2 tk p1 p2 p3 q1 q2 u1 u2 u3 q3 q4 => wpAny_pure (hQ x1 x2 x3 h2 tk p1 p2 p3 q1 q2 u1 u2 u3 q3 q4)
theorem py_end3 {z TI TO i1 i2 i3 : Addr} {fp1 fp2 fp3 : List Addr} {n : Nat} {P1 P2 P3 : Nat → Value → Prop} {St1 St2 St3 : Nat → Heap → Prop} {a1 a2 a3 : Value} {Q : Option Value → Shared → Prop} (hh : A.handled = none) (S : Sep3 z TI TO i1 i2 i3 fp1 fp2 fp3) (D1 : Draws prog w A.in1 i1 fp1 n P1 St1) (D2 : Draws prog w A.in1 i2 fp2 n P2 St2) (D3 : Draws prog w A.in1 i3 fp3 n P3 St3)
    (hz : ZipO s.heap z TI TO .none b) (hTI : TupO s.heap TI #[.ref i1, .ref i2, .ref i3]) (hTO : TupO s.heap TO #[a1, a2, a3]) (st1 : St1 n s.heap) (st2 : St2 n s.heap) (st3 : St3 n s.heap)
    (hQ : ∀ h', (∀ c o, c ≠ z → c ≠ TO → c ≠ i1 → c ≠ i2 → c ≠ i3 → s.heap.get? c = some o → h'.get? c = some o) → Q none { s with heap := h' }) : wpAny (model prog w) A (pyNext (.ref z)) Q E s := by
  have hT : s.TypeIs (.ref z) "zip" := ⟨_, hz, rfl⟩
  unfold pyNext
  refine wpAny_bind (wpAny_attempt (wpAny_callSpecial?_slot (name := Str.ofString "__next__") hT F.slot_zip_next (wpAny_call_entry F.slot_zip_next hT F.entry_zip_next ?_ (F.args_zip_next_1 _))))
  refine next_end3 (A := A.in1) hh S D1 D2 D3 hz hTI hTO st1 st2 st3 fun h2 e kk he => ?_
  obtain ⟨o, ho, hc⟩ := he
  exact wpAny_bind (wpAny_isInstance (T := "StopIteration") (b := true) ⟨o, ho, hc⟩ isSubtype_stop (wpAny_pure (hQ _ kk)))
theorem typeCall_strict3 (v1 v2 v3 x : Value) : checkTypeCall "zip" ⟨[v1, v2, v3], [(Str.ofString "strict", x)]⟩ = pure () := by kernel_rfl
theorem newCall_strict3 (v1 v2 v3 x : Value) : checkBuiltinCall "zip.__new__" ⟨[.type "zip", v1, v2, v3], [(Str.ofString "strict", x)]⟩ = pure () := by kernel_rfl
theorem initArgs_strict3 (obj v1 v2 v3 x : Value) : argsOk "object.__init__" ⟨[obj, v1, v2, v3], [(Str.ofString "strict", x)]⟩ := by unfold argsOk; kernel_rfl
abbrev sT3 (h : Heap) (o1 o2 o3 : Obj) : Heap := ((((h.push o1).push o2).push o3).push { cls := .type "tuple", data := .seq #[.ref h.objs.size, .ref (h.push o1).objs.size, .ref ((h.push o1).push o2).objs.size] })
abbrev sO3 (h : Heap) (o1 o2 o3 : Obj) : Heap := (sT3 h o1 o2 o3).push { cls := .type "tuple", data := .seq #[.none, .none, .none] }
abbrev sZ3 (h : Heap) (o1 o2 o3 : Obj) : Heap := (sO3 h o1 o2 o3).push { cls := .type "zip", data := .fields #[.none, .bool false, .bool true, .ref (((h.push o1).push o2).push o3).objs.size, .ref (sT3 h o1 o2 o3).objs.size] }
theorem meets_strict3 {v1 v2 v3 : Value} {o1 o2 o3 : Obj} {G1 G2 G3 : Heap → Prop} (B1 : Begins v1 o1 G1) (B2 : Begins v2 o2 G2) (B3 : Begins v3 o3 G3) :
    Meets (Builtin.«zip.__new__» ⟨[.type "zip", v1, v2, v3], [(Str.ofString "strict", .bool true)]⟩) (fun _ R s => (G1 s.heap ∧ G2 s.heap ∧ G3 s.heap) ∧ R (.ok (.ret (.ref (sO3 s.heap o1 o2 o3).objs.size))) { s with heap := (sZ3 s.heap o1 o2 o3) }) :=
  .of_wp fun prog w A R s h => by
    obtain ⟨hp, g, d, tk, os⟩ := s
    obtain ⟨⟨h1, h2, h3⟩, h⟩ := h
    have hsub := sub_zip
    have e1 : (Str.ofString "strict" != ("strict" : Str)) = false := by decide +kernel
    have w1 : ∀ {A' : Around} {E : Value → Shared → Prop} {Q : Value → Shared → Prop}, Q (.ref hp.objs.size) ⟨(hp.push o1), g, d, tk, os⟩ → wpAny (model prog w) A' (pyIter v1) Q E ⟨hp, g, d, tk, os⟩ := fun q => B1.iter prog w _ _ ⟨hp, g, d, tk, os⟩ _ (B1.keeps _ _ h1 fun c u e => e) q
    have w2 : ∀ {A' : Around} {E : Value → Shared → Prop} {Q : Value → Shared → Prop}, Q (.ref (hp.push o1).objs.size) ⟨((hp.push o1).push o2), g, d, tk, os⟩ → wpAny (model prog w) A' (pyIter v2) Q E ⟨(hp.push o1), g, d, tk, os⟩ := fun q => B2.iter prog w _ _ ⟨(hp.push o1), g, d, tk, os⟩ _ (B2.keeps _ _ h2 fun c u e => (Heap.get?_push_of_some _ e)) q
    have w3 : ∀ {A' : Around} {E : Value → Shared → Prop} {Q : Value → Shared → Prop}, Q (.ref ((hp.push o1).push o2).objs.size) ⟨(((hp.push o1).push o2).push o3), g, d, tk, os⟩ → wpAny (model prog w) A' (pyIter v3) Q E ⟨((hp.push o1).push o2), g, d, tk, os⟩ := fun q => B3.iter prog w _ _ ⟨((hp.push o1).push o2), g, d, tk, os⟩ _ (B3.keeps _ _ h3 fun c u e => (Heap.get?_push_of_some _ (Heap.get?_push_of_some _ e))) q
    wp_walk using w1, w2, w3
    exact ⟨_, rfl, h⟩
/-- zip(.., strict=True) of 3: its new cells -/
theorem begins_strict3 {v1 v2 v3 : Value} {o1 o2 o3 : Obj} {G1 G2 G3 : Heap → Prop} {Q : Value → Shared → Prop} (B1 : Begins v1 o1 G1) (B2 : Begins v2 o2 G2) (B3 : Begins v3 o3 G3) (h1 : G1 s.heap) (h2 : G2 s.heap) (h3 : G3 s.heap)
    (h : ∀ h', ZipO h' (s.heap.objs.size + 5) (s.heap.objs.size + 3) (s.heap.objs.size + 4) .none true → TupO h' (s.heap.objs.size + 3) #[.ref s.heap.objs.size, .ref (s.heap.objs.size + 1), .ref (s.heap.objs.size + 2)] → TupO h' (s.heap.objs.size + 4) #[.none, .none, .none] → h'.get? s.heap.objs.size = some o1 → h'.get? (s.heap.objs.size + 1) = some o2 → h'.get? (s.heap.objs.size + 2) = some o3 → (∀ c o, s.heap.get? c = some o → h'.get? c = some o) → Q (.ref (s.heap.objs.size + 5)) { s with heap := h' }) :
    wpAny (model prog w) A (call (.type "zip") [v1, v2, v3] [(Str.ofString "strict", .bool true)]) Q E s := by
  refine callType_newKw F.called_zip (by decide) (typeCall_strict3 _ _ _ _) (newCall_strict3 _ _ _ _) (fun obj => initArgs_strict3 obj _ _ _ _) F.entry_zip_new (meets_strict3 B1 B2 B3) ⟨⟨h1, h2, h3⟩, ?_⟩
  have z1 : (s.heap.push o1).objs.size = s.heap.objs.size + 1 := by rw [Heap.size_push]
  have z2 : ((s.heap.push o1).push o2).objs.size = s.heap.objs.size + 2 := by rw [Heap.size_push, z1]
  have z3 : (((s.heap.push o1).push o2).push o3).objs.size = s.heap.objs.size + 3 := by rw [Heap.size_push, z2]
  have z4 : (sT3 s.heap o1 o2 o3).objs.size = s.heap.objs.size + 4 := by rw [Heap.size_push, z3]
  have z5 : (sO3 s.heap o1 o2 o3).objs.size = s.heap.objs.size + 5 := by rw [Heap.size_push, z4]
  have z6 : (sZ3 s.heap o1 o2 o3).objs.size = s.heap.objs.size + 6 := by rw [Heap.size_push, z5]
  have q0 : (sZ3 s.heap o1 o2 o3).get? s.heap.objs.size = some o1 := (Heap.get?_push_of_some _ (Heap.get?_push_of_some _ (Heap.get?_push_of_some _ (Heap.get?_push_of_some _ (Heap.get?_push_of_some _ (Heap.get?_push_size _ B1.free))))))
  have q1 : (sZ3 s.heap o1 o2 o3).get? (s.heap.push o1).objs.size = some o2 := (Heap.get?_push_of_some _ (Heap.get?_push_of_some _ (Heap.get?_push_of_some _ (Heap.get?_push_of_some _ (Heap.get?_push_size _ B2.free)))))
  rw [z1] at q1
  have q2 : (sZ3 s.heap o1 o2 o3).get? ((s.heap.push o1).push o2).objs.size = some o3 := (Heap.get?_push_of_some _ (Heap.get?_push_of_some _ (Heap.get?_push_of_some _ (Heap.get?_push_size _ B3.free))))
  rw [z2] at q2
  have q3 : (sZ3 s.heap o1 o2 o3).get? (((s.heap.push o1).push o2).push o3).objs.size = some ({ cls := .type "tuple", data := .seq #[.ref s.heap.objs.size, .ref (s.heap.push o1).objs.size, .ref ((s.heap.push o1).push o2).objs.size] } : Obj) := (Heap.get?_push_of_some _ (Heap.get?_push_of_some _ (Heap.get?_push_size _ rfl)))
  rw [z3] at q3
  have q4 : (sZ3 s.heap o1 o2 o3).get? (sT3 s.heap o1 o2 o3).objs.size = some ({ cls := .type "tuple", data := .seq #[.none, .none, .none] } : Obj) := (Heap.get?_push_of_some _ (Heap.get?_push_size _ rfl))
  rw [z4] at q4
  have q5 : (sZ3 s.heap o1 o2 o3).get? (sO3 s.heap o1 o2 o3).objs.size = some ({ cls := .type "zip", data := .fields #[.none, .bool false, .bool true, .ref (((s.heap.push o1).push o2).push o3).objs.size, .ref (sT3 s.heap o1 o2 o3).objs.size] } : Obj) := (Heap.get?_push_size _ rfl)
  rw [z5] at q5
  rw [z2, z1] at q3
  rw [z4, z3] at q5
  show _ ∧ _
  rw [z5]
  exact ⟨⟨_, q5, rfl⟩, h _ q5 q3 q4 q0 q1 q2 fun c o e => (Heap.get?_push_of_some _ (Heap.get?_push_of_some _ (Heap.get?_push_of_some _ (Heap.get?_push_of_some _ (Heap.get?_push_of_some _ (Heap.get?_push_of_some _ e))))))⟩
end
end CZ

namespace CZ
open PySem PySem.Spec PyProof.Rows L2
/-- a list (false) or a tuple (true) that is read -/
def SqK (K : PySem.W.Frag) (H : Hp) (p : Bool × Addr) (xs : List V) : Prop := if p.1 = true then SqT K H p.2 xs else SqL K H p.2 xs
def SqIt (h : Heap) (it : Addr) (p : Bool × Addr) (i : Nat) : Prop := if p.1 = true then h.IsTupleIter it p.2 i else h.IsListIter it p.2 i
def SeqIs (h : Heap) (p : Bool × Addr) (its : List Value) : Prop := if p.1 = true then h.IsTuple p.2 its.toArray else h.IsList p.2 its.toArray
/-- the iterator's object as it begins -/
def itO (p : Bool × Addr) : Obj := if p.1 = true then { cls := .type "tuple_iterator", data := .fields #[.ref p.2, .int 0 0] } else { cls := .type "list_iterator", data := .fields #[.ref p.2, .int 0 0] }
theorem SqIt.at {h h' : Heap} {it : Addr} {p : Bool × Addr} {i : Nat} (x : SqIt h it p i) (k : ∀ o, h.get? it = some o → h'.get? it = some o) : SqIt h' it p i := by
  obtain ⟨b, a⟩ := p
  cases b
  · exact Heap.IsListIter.at (show h.IsListIter it a i from x) k
  · exact Heap.IsTupleIter.at (show h.IsTupleIter it a i from x) k
theorem SqIt.obj {h : Heap} {it : Addr} {p : Bool × Addr} {i : Nat} (x : SqIt h it p i) : ∃ o, h.get? it = some o ∧ ∀ v, o.data ≠ .cell v := by
  obtain ⟨b, a⟩ := p
  cases b
  · obtain ⟨o, e, _, d⟩ := (show h.IsListIter it a i from x)
    exact ⟨o, e, fun v q => by rw [d] at q; cases q⟩
  · obtain ⟨o, e, _, d⟩ := (show h.IsTupleIter it a i from x)
    exact ⟨o, e, fun v q => by rw [d] at q; cases q⟩
theorem SqIt.begin {h : Heap} {it : Addr} {p : Bool × Addr} (e : h.get? it = some (itO p)) : SqIt h it p 0 := by
  obtain ⟨b, a⟩ := p
  cases b
  · exact ⟨_, e, rfl, rfl⟩
  · exact ⟨_, e, rfl, rfl⟩
theorem begins_of (p : Bool × Addr) (its : List Value) : Begins (.ref p.2) (itO p) (fun h => SeqIs h p its) := by
  obtain ⟨b, a⟩ := p
  cases b
  · exact begins_list a its.toArray
  · exact begins_tuple a its.toArray
theorem draws_of {prog : Program} {w : World} {A : Around} (hh : A.handled = none) (it : Addr) (p : Bool × Addr) (ne : p.2 ≠ it) (its : List Value) :
    Draws prog w A it [it, p.2] its.toArray.size (fun i v => its.toArray[i]? = some v) (fun i h => SqIt h it p i ∧ SeqIs h p its) := by
  obtain ⟨b, a⟩ := p
  cases b
  · exact Draws.list hh it a ne its.toArray
  · exact Draws.tuple hh it a ne its.toArray
section
variable {X : Cx} {pins : List (Addr × Obj)} {σ : L2.St} {H : Hp} {s : Shared} {p : Bool × Addr} {xs ys : List V}
theorem sq_seq (I : Inv X pins σ H s) (h : SqK X.K H p xs) : ∃ its : List Value, Vals xs its ∧ SeqIs s.heap p its ∧ p.2 < s.heap.objs.size := by
  obtain ⟨b, a⟩ := p
  cases b
  · obtain ⟨its, rv, q, _⟩ := I.list (show SqL X.K H a xs from h)
    exact ⟨its, rv, q.isList, q.lt⟩
  · obtain ⟨its, rv, q, _⟩ := I.tuple (show SqT X.K H a xs from h)
    obtain ⟨o, ho, _⟩ := id q
    exact ⟨its, rv, q, Heap.lt_size ho⟩
theorem sq_inj (I : Inv X pins σ H s) (h : SqK X.K H p xs) (h2 : SqK X.K H p ys) : xs = ys := by
  obtain ⟨b, a⟩ := p
  cases b
  · exact I.list_inj (show SqL X.K H a xs from h) h2
  · exact I.tuple_inj (show SqT X.K H a xs from h) h2
end
/-- what a zip of lists and tuples of one length gives -/
def ItZ (K : PySem.W.Frag) (l : List (Bool × Addr)) : It :=
  ⟨fun i H => ∃ vs : List V, Paired (fun p v => ∃ xs, SqK K H p xs ∧ xs[i]? = some v) l vs,
    fun i H v H2 => ∃ (T : Addr) (vs : List V), v = .ref T ∧ H T = none ∧ H2 = upd H T (.tup vs) ∧ Paired (fun p v => ∀ xs, SqK K H p xs → xs[i]? = some v) l vs,
    fun i H => ∀ p ∈ l, ∃ xs, SqK K H p xs ∧ xs.length = i⟩
def YRow (xss : List (List V)) : Nat → Hp → V → Hp → Prop := fun i H v H2 => ∃ (T : Addr) (vs : List V), v = .ref T ∧ H T = none ∧ H2 = upd H T (.tup vs) ∧ Paired (fun (xs : List V) v => xs[i]? = some v) xss vs
theorem pair_go {K : PySem.W.Frag} {H : Hp} {i : Nat} : ∀ {l : List (Bool × Addr)} {xss : List (List V)}, Paired (fun p xs => SqK K H p xs) l xss → (∀ xs ∈ xss, i < xs.length) → ∃ vs, Paired (fun p v => ∃ xs, SqK K H p xs ∧ xs[i]? = some v) l vs
  | _, _, .nil, _ => ⟨[], .nil⟩
  | _, _, .cons (b := xs) r t, h => by
    obtain ⟨vs, q⟩ := pair_go t fun ys hy => h ys (List.mem_cons_of_mem _ hy)
    have hi := h xs List.mem_cons_self
    exact ⟨xs[i] :: vs, .cons ⟨xs, r, List.getElem?_eq_getElem hi⟩ q⟩
theorem pair_row {K : PySem.W.Frag} {H : Hp} {i : Nat} : ∀ {l : List (Bool × Addr)} {xss : List (List V)} {vs : List V}, Paired (fun p xs => SqK K H p xs) l xss → Paired (fun p v => ∀ xs, SqK K H p xs → xs[i]? = some v) l vs → Paired (fun (xs : List V) v => xs[i]? = some v) xss vs
  | _, _, _, .nil, .nil => .nil
  | _, _, _, .cons r t, .cons q u => .cons (q _ r) (pair_row t u)
theorem pair_stop {K : PySem.W.Frag} {H : Hp} {n : Nat} : ∀ {l : List (Bool × Addr)} {xss : List (List V)}, Paired (fun p xs => SqK K H p xs) l xss → (∀ xs ∈ xss, xs.length = n) → ∀ p ∈ l, ∃ xs, SqK K H p xs ∧ xs.length = n
  | _, _, .nil, _, _, hp => nomatch hp
  | _, _, .cons r t, h, p, hp => by
    rcases List.mem_cons.mp hp with e | hp
    · rw [e]
      exact ⟨_, r, h _ List.mem_cons_self⟩
    · exact pair_stop t (fun ys hy => h ys (List.mem_cons_of_mem _ hy)) p hp
theorem walk_rows {K : PySem.W.Frag} {l : List (Bool × Addr)} {xss : List (List V)} {n : Nat} (hn : ∀ xs ∈ xss, xs.length = n) : Walk (ItZ K l) n (fun H => Paired (fun p xs => SqK K H p xs) l xss) (YRow xss) :=
  ⟨fun i H hi q => pair_go q fun xs hx => by rw [hn xs hx]; exact hi, fun H q => pair_stop q hn, fun i H x H2 _ q y => by
    obtain ⟨T, vs, h1, h2, h3, h4⟩ := y
    exact ⟨T, vs, h1, h2, h3, pair_row q h4⟩⟩
/-- the reading of zip(..): which are tuples is told by the flags -/
def iZ (K : PySem.W.Frag) (fl : List Bool) (ta : TA) : TI := fun σ H R => ta σ H fun vs H1 => ∃ l : List Addr, vs = l.map V.ref ∧ l.length = fl.length ∧ (∀ p ∈ fl.zip l, ∃ xs, SqK K H1 p xs) ∧ R (ItZ K (fl.zip l)) H1
theorem nin_new {M a : Nat} (j k : Nat) (h : a < M) (hjk : j ≠ k) : M + j ∉ [M + k, a] := by
  simp only [List.mem_cons, List.mem_nil_iff, or_false, not_or]
  omega
theorem looks_ty {M : Model} {h : Heap} (T : String) (_ : True) : ∃ k, (k = Keeper.frame ∨ k = Keeper.machine ∨ k = Keeper.boundFrame) ∧ PySem.W.Looks M h (keeperOf (.type T)) k := ⟨_, .inr (.inl rfl), PySem.W.Looks.of_pure rfl⟩
end CZ

namespace CZ
open PySem PySem.Spec PyProof.Rows L2
theorem turn_z2 {P : Program} {w : World} {K : PySem.W.Frag} {elts : List Expr} {kk : Nat} {tpos : Pos} {z TI TO i1 i2 : Addr} {p1 p2 : Bool × Addr} {b : Bool} (S : Sep2 z TI TO i1 i2 [i1, p1.2] [i2, p2.2]) (ne1 : p1.2 ≠ i1) (ne2 : p2.2 ≠ i2) :
    Turn P w K (.Tuple elts kk tpos) (ItZ K [p1, p2]) [z, TI, TO, i1, i2] z (fun i h => ZipO h z TI TO .none b ∧ TupO h TI #[.ref i1, .ref i2] ∧ (∃ a1 a2, TupO h TO #[a1, a2]) ∧ SqIt h i1 p1 i ∧ SqIt h i2 p2 i) where
  mem := by simp
  obj := fun i h st c hc => by
    obtain ⟨hz, hTI, ⟨a1, a2, hTO⟩, h1, h2⟩ := st
    have e : c = z ∨ c = TI ∨ c = TO ∨ c = i1 ∨ c = i2 := by simpa using hc
    rcases e with q | q | q | q | q
    · rw [q]; exact ⟨_, hz, fun v q => nomatch q⟩
    · rw [q]; exact ⟨_, hTI, fun v q => nomatch q⟩
    · rw [q]; exact ⟨_, hTO, fun v q => nomatch q⟩
    · rw [q]; exact h1.obj
    · rw [q]; exact h2.obj
  keep := fun i h h2 st k => by
    obtain ⟨hz, hTI, ⟨a1, a2, hTO⟩, h1, h2⟩ := st
    exact ⟨k z (by simp) _ hz, k TI (by simp) _ hTI, ⟨a1, a2, k TO (by simp) _ hTO⟩, h1.at fun o q => k i1 (by simp) o q, h2.at fun o q => k i2 (by simp) o q⟩
  item := by
    intro X hP hw hK hc i pins s σ H E I hf st hg
    subst hP hw hK
    obtain ⟨hz, hTI, ⟨a1, a2, hTO⟩, h1, h2⟩ := st
    obtain ⟨vs, hv⟩ := hg
    cases hv with
    | cons r1 hv1 =>
      rename_i v1 ws1
      obtain ⟨xs1, hq1, hx1⟩ := r1
      obtain ⟨its1, rv1, q1, _⟩ := sq_seq I hq1
      obtain ⟨u1, hu1, ru1⟩ := rv1.get hx1
      have g1 : its1.toArray[i]? = some u1 := by simpa using hu1
      have l1 : i < its1.toArray.size := by have := (List.getElem?_eq_some_iff.mp hu1).1; simpa using this
      cases hv1 with
      | cons r2 hv2 =>
        rename_i v2 ws2
        obtain ⟨xs2, hq2, hx2⟩ := r2
        obtain ⟨its2, rv2, q2, _⟩ := sq_seq I hq2
        obtain ⟨u2, hu2, ru2⟩ := rv2.get hx2
        have g2 : its2.toArray[i]? = some u2 := by simpa using hu2
        have l2 : i < its2.toArray.size := by have := (List.getElem?_eq_some_iff.mp hu2).1; simpa using this
        cases hv2
        have hzl : z < s.heap.objs.size := Heap.lt_size hz
        refine py_item2 S (draws_of (A := X.A.in1) (I.ok.hd hc) i1 p1 ne1 its1) (draws_of (A := X.A.in1) (I.ok.hd hc) i2 p2 ne2 its2) hz hTI hTO ⟨h1, q1⟩ ⟨h2, q2⟩ l1 l2 fun x1 x2 hA tk y1 y2 z2 TO2 n1 n2 hT hk => ?_
        obtain rfl : u1 = x1 := Option.some.inj (g1.symm.trans y1)
        obtain rfl : u2 = x2 := Option.some.inj (g2.symm.trans y2)
        refine ⟨_, rfl, go_zip (s := { s with heap := hA, toks := tk }) z2 fun hB z3 sb => ?_⟩
        replace sb : Heap.SameBut z hA hB := sb
        have hT2 : hB.get? s.heap.objs.size = some { cls := .type "tuple", data := .seq #[u1, u2] } := (sb.2 _ (Nat.ne_of_gt hzl)).trans hT
        have new : ObjOk X.prog X.w (upd H s.heap.objs.size (.tup [v1, v2])) hB s.heap.objs.size (.tup [v1, v2]) := ⟨by show 2 ≤ sizeLine; decide, [u1, u2], (.cons ru1 (.cons ru2 .nil)), ⟨_, hT2, rfl, _, rfl⟩⟩
        have I1 : Inv X pins σ (upd H s.heap.objs.size (.tup [v1, v2])) { s with heap := hB, toks := tk } := I.turnedNew (t' := tk) (ch := [z, TI, TO, i1, i2]) (fun c o hb q => (sb.2 c (fun q => hb (by simp [q]))).trans (hk c o (fun q => hb (by simp [q])) (fun q => hb (by simp [q])) (fun q => hb (by simp [q])) (fun q => hb (by simp [q])) q)) hf (Nat.le_refl _) new
        refine ⟨.ref s.heap.objs.size, _, I1, rfl, ⟨_, _, rfl, I.hok.fresh (Nat.le_refl _), rfl, (.cons (fun l hl => by rw [sq_inj I hl hq1]; exact hx1) (.cons (fun l hl => by rw [sq_inj I hl hq2]; exact hx2) .nil))⟩, ⟨z3, (sb.2 _ S.zTI.symm).trans (hk _ _ S.zTI.symm S.TOTI.symm S.I1 S.I2 hTI), ⟨u1, u2, (sb.2 _ S.zTO.symm).trans TO2⟩, (n1.1.at fun o q => (sb.2 _ (fun q => S.z1 (by rw [← q]; exact S.m1))).trans q), (n2.1.at fun o q => (sb.2 _ (fun q => S.z2 (by rw [← q]; exact S.m2))).trans q)⟩, fun c hcm => ?_⟩
        have hlt : c < s.heap.objs.size := by
          have e : c = z ∨ c = TI ∨ c = TO ∨ c = i1 ∨ c = i2 := by simpa using hcm
          rcases e with q | q | q | q | q
          · rw [q]; exact hzl
          · rw [q]; exact Heap.lt_size hTI
          · rw [q]; exact Heap.lt_size hTO
          · rw [q]; obtain ⟨_, e1, _⟩ := h1.obj; exact Heap.lt_size e1
          · rw [q]; obtain ⟨_, e1, _⟩ := h2.obj; exact Heap.lt_size e1
        rw [upd_ne (Nat.ne_of_lt hlt)]
        exact (hf c hcm).1
  done := by
    intro X hP hw hK hc i pins s σ H E I hf st hg
    subst hP hw hK
    obtain ⟨hz, hTI, ⟨a1, a2, hTO⟩, h1, h2⟩ := st
    obtain ⟨xs1, hq1, hx1⟩ := hg p1 (by simp)
    obtain ⟨its1, rv1, q1, _⟩ := sq_seq I hq1
    have l1 : its1.toArray.size = i := by have := rv1.length; simp; omega
    have D1 := draws_of (prog := X.prog) (w := X.w) (A := X.A.in1) (I.ok.hd hc) i1 p1 ne1 its1
    rw [l1] at D1
    obtain ⟨xs2, hq2, hx2⟩ := hg p2 (by simp)
    obtain ⟨its2, rv2, q2, _⟩ := sq_seq I hq2
    have l2 : its2.toArray.size = i := by have := rv2.length; simp; omega
    have D2 := draws_of (prog := X.prog) (w := X.w) (A := X.A.in1) (I.ok.hd hc) i2 p2 ne2 its2
    rw [l2] at D2
    exact py_end2 (I.ok.hd hc) S D1 D2 hz hTI hTO ⟨h1, q1⟩ ⟨h2, q2⟩ fun h2 hk => ⟨rfl, I.turnedL (t' := s.toks) (ch := [z, TI, TO, i1, i2]) (fun c o hb q => hk c o (fun q => hb (by simp [q])) (fun q => hb (by simp [q])) (fun q => hb (by simp [q])) (fun q => hb (by simp [q])) q) hf⟩
  self := fun A i s Q E st h => iter_zip st.1 h
theorem sep_new2 {M : Nat} {p1 p2 : Bool × Addr} (h1 : p1.2 < M) (h2 : p2.2 < M) : Sep2 (M + 4) (M + 2) (M + 3) M (M + 1) [M, p1.2] [M + 1, p2.2] where
  zTO := by show (M + 4 : Nat) ≠ M + 3; omega
  zTI := by show (M + 4 : Nat) ≠ M + 2; omega
  TOTI := by show (M + 3 : Nat) ≠ M + 2; omega
  m1 := by simp
  z1 := nin_new (a := p1.2) 4 0 h1 (by decide)
  T1 := nin_new (a := p1.2) 3 0 h1 (by decide)
  I1 := by show (M + 2 : Nat) ≠ M; omega
  s2_1 := nin_new (a := p1.2) 1 0 h1 (by decide)
  m2 := by simp
  z2 := nin_new (a := p2.2) 4 1 h2 (by decide)
  T2 := nin_new (a := p2.2) 3 1 h2 (by decide)
  I2 := by show (M + 2 : Nat) ≠ M + 1; omega
  s1_2 := nin_new (a := p2.2) 0 1 h2 (by decide)
theorem pi_z2s {X : Cx} {e1 e2 : Expr} {ta : TA} {p pos tpos : Pos} {elts : List Expr} {kk : Nat} {jj : Nat} {kp kp2 : Pos} {fl : List Bool} (hfl : fl.length = 2) (hg : Gl X "zip") (hm : X.mg "zip" = none) (ha : PA X [e1, e2] ta)
    (hs : starEach [e1, e2] X.env = (false, eval e1 X.env) :: starEach [e2] X.env := by rfl) (hpl : (backTo pos (starEach [e2] X.env)).any (·.1) = false := by rfl) :
    PI X (.Tuple elts kk tpos) (.Call (.Name "zip" p) [e1, e2] [⟨some "strict", .Constant (.bool true) jj kp, kp2⟩] pos) (iZ X.K fl ta) := by
  refine ⟨fun pins s σ H R I h => ?_⟩
  refine wpAny_Call_Name_kw (ld_blt I hg hm PyProof.Rows.boot_zip ?_)
  refine PySem.W.callWith_of (P := fun _ => True) ?_ (fun h _ => looks_ty "zip" True.intro) ?_
  · show ((backTo pos (starEach _ X.env)).any (·.1) || false) = false
    rw [hs, Bool.or_false]
    exact hpl
  have he : backTo pos (starEach [e1, e2] X.env) = (false, eval e1 X.env) :: backTo pos (starEach [e2] X.env) := by rw [hs]; rfl
  rw [he]
  refine PyProof.Rows.evalArgs_kwB rfl ?_
  rw [← he]
  refine thn (ha.run pos pins s σ H _ I h) fun us s0 ⟨vs, H1, I0, r1, q1⟩ => ?_
  refine PyProof.Rows.kws_cons (Constant_bool (PyProof.Rows.kws_nil ⟨True.intro, ?_⟩))
  have I1 := I0
  obtain ⟨l, ev, el, hl, q1⟩ := q1
  subst ev
  obtain ⟨b1, b2, rfl⟩ : ∃ b1 b2 : Bool, fl = [b1, b2] := match fl, hfl with | [_, _], _ => ⟨_, _, rfl⟩
  obtain ⟨c1, c2, rfl⟩ : ∃ c1 c2 : Addr, l = [c1, c2] := match l, el with | [_, _], _ => ⟨_, _, rfl⟩
  cases r1 with
  | cons r_1 rr1 =>
    cases r_1
    cases rr1 with
    | cons r_2 rr2 =>
      cases r_2
      cases rr2
      obtain ⟨xs1, hq1⟩ := hl (b1, c1) (by simp)
      obtain ⟨its1, rv1, g1, lt1⟩ := sq_seq I1 hq1
      obtain ⟨xs2, hq2⟩ := hl (b2, c2) (by simp)
      obtain ⟨its2, rv2, g2, lt2⟩ := sq_seq I1 hq2
      have frs : ∀ c, c ∈ [s0.heap.objs.size + 4, s0.heap.objs.size + 2, s0.heap.objs.size + 3, s0.heap.objs.size, s0.heap.objs.size + 1] → FpOk X pins H1 c := fun c hcm => by
        have e : c = s0.heap.objs.size + 4 ∨ c = s0.heap.objs.size + 2 ∨ c = s0.heap.objs.size + 3 ∨ c = s0.heap.objs.size ∨ c = s0.heap.objs.size + 1 := by simpa using hcm
        have hle : s0.heap.objs.size ≤ c := by
          rcases e with q | q | q | q | q
          · rw [q]; exact Nat.le_add_right _ _
          · rw [q]; exact Nat.le_add_right _ _
          · rw [q]; exact Nat.le_add_right _ _
          · rw [q]; exact Nat.le_refl _
          · rw [q]; exact Nat.le_add_right _ _
        exact I1.fpOk hle (I1.hok.fresh hle)
      refine begins_strict2 (begins_of (b1, c1) its1) (begins_of (b2, c2) its2) g1 g2 fun hA hz hTI hTO y1 y2 kk => iter_zip hz ?_
      have I2 : Inv X pins σ H1 { s0 with heap := hA } := I1.kept (t' := s0.toks) kk
      exact ⟨_, [s0.heap.objs.size + 4, s0.heap.objs.size + 2, s0.heap.objs.size + 3, s0.heap.objs.size, s0.heap.objs.size + 1], _, _, H1, rfl, I2, turn_z2 (sep_new2 lt1 lt2) (Nat.ne_of_lt lt1) (Nat.ne_of_lt (Nat.lt_of_lt_of_le lt2 (Nat.le_add_right _ 1))), ⟨hz, hTI, ⟨_, _, hTO⟩, SqIt.begin y1, SqIt.begin y2⟩, frs, q1⟩
theorem pi_z2 {X : Cx} {e1 e2 : Expr} {ta : TA} {p pos tpos : Pos} {elts : List Expr} {kk : Nat} {fl : List Bool} (hfl : fl.length = 2) (hg : Gl X "zip") (hm : X.mg "zip" = none) (ha : PA X [e1, e2] ta)
    (hs : starEach [e1, e2] X.env = (false, eval e1 X.env) :: starEach [e2] X.env := by rfl) (hpl : (backTo pos (starEach [e2] X.env)).any (·.1) = false := by rfl) :
    PI X (.Tuple elts kk tpos) (.Call (.Name "zip" p) [e1, e2] [] pos) (iZ X.K fl ta) := by
  refine ⟨fun pins s σ H R I h => ?_⟩
  refine Call_ (ld_blt I hg hm PyProof.Rows.boot_zip (PyProof.Rows.callWith_type1 (thn (ha.run pos pins s σ H _ I h) fun us s0 ⟨vs, H1, I1, r1, q1⟩ => ?_) hs hpl))
  obtain ⟨l, ev, el, hl, q1⟩ := q1
  subst ev
  obtain ⟨b1, b2, rfl⟩ : ∃ b1 b2 : Bool, fl = [b1, b2] := match fl, hfl with | [_, _], _ => ⟨_, _, rfl⟩
  obtain ⟨c1, c2, rfl⟩ : ∃ c1 c2 : Addr, l = [c1, c2] := match l, el with | [_, _], _ => ⟨_, _, rfl⟩
  cases r1 with
  | cons r_1 rr1 =>
    cases r_1
    cases rr1 with
    | cons r_2 rr2 =>
      cases r_2
      cases rr2
      obtain ⟨xs1, hq1⟩ := hl (b1, c1) (by simp)
      obtain ⟨its1, rv1, g1, lt1⟩ := sq_seq I1 hq1
      obtain ⟨xs2, hq2⟩ := hl (b2, c2) (by simp)
      obtain ⟨its2, rv2, g2, lt2⟩ := sq_seq I1 hq2
      have frs : ∀ c, c ∈ [s0.heap.objs.size + 4, s0.heap.objs.size + 2, s0.heap.objs.size + 3, s0.heap.objs.size, s0.heap.objs.size + 1] → FpOk X pins H1 c := fun c hcm => by
        have e : c = s0.heap.objs.size + 4 ∨ c = s0.heap.objs.size + 2 ∨ c = s0.heap.objs.size + 3 ∨ c = s0.heap.objs.size ∨ c = s0.heap.objs.size + 1 := by simpa using hcm
        have hle : s0.heap.objs.size ≤ c := by
          rcases e with q | q | q | q | q
          · rw [q]; exact Nat.le_add_right _ _
          · rw [q]; exact Nat.le_add_right _ _
          · rw [q]; exact Nat.le_add_right _ _
          · rw [q]; exact Nat.le_refl _
          · rw [q]; exact Nat.le_add_right _ _
        exact I1.fpOk hle (I1.hok.fresh hle)
      refine zip_begins2 (begins_of (b1, c1) its1) (begins_of (b2, c2) its2) g1 g2 fun hA hz hTI hTO y1 y2 _ kk => iter_zip (b := false) hz ?_
      have I2 : Inv X pins σ H1 { s0 with heap := hA } := I1.kept (t' := s0.toks) kk
      exact ⟨_, [s0.heap.objs.size + 4, s0.heap.objs.size + 2, s0.heap.objs.size + 3, s0.heap.objs.size, s0.heap.objs.size + 1], _, _, H1, rfl, I2, turn_z2 (sep_new2 lt1 lt2) (Nat.ne_of_lt lt1) (Nat.ne_of_lt (Nat.lt_of_lt_of_le lt2 (Nat.le_add_right _ 1))), ⟨hz, hTI, ⟨_, _, hTO⟩, SqIt.begin y1, SqIt.begin y2⟩, frs, q1⟩
theorem turn_z3 {P : Program} {w : World} {K : PySem.W.Frag} {elts : List Expr} {kk : Nat} {tpos : Pos} {z TI TO i1 i2 i3 : Addr} {p1 p2 p3 : Bool × Addr} {b : Bool} (S : Sep3 z TI TO i1 i2 i3 [i1, p1.2] [i2, p2.2] [i3, p3.2]) (ne1 : p1.2 ≠ i1) (ne2 : p2.2 ≠ i2) (ne3 : p3.2 ≠ i3) :
    Turn P w K (.Tuple elts kk tpos) (ItZ K [p1, p2, p3]) [z, TI, TO, i1, i2, i3] z (fun i h => ZipO h z TI TO .none b ∧ TupO h TI #[.ref i1, .ref i2, .ref i3] ∧ (∃ a1 a2 a3, TupO h TO #[a1, a2, a3]) ∧ SqIt h i1 p1 i ∧ SqIt h i2 p2 i ∧ SqIt h i3 p3 i) where
  mem := by simp
  obj := fun i h st c hc => by
    obtain ⟨hz, hTI, ⟨a1, a2, a3, hTO⟩, h1, h2, h3⟩ := st
    have e : c = z ∨ c = TI ∨ c = TO ∨ c = i1 ∨ c = i2 ∨ c = i3 := by simpa using hc
    rcases e with q | q | q | q | q | q
    · rw [q]; exact ⟨_, hz, fun v q => nomatch q⟩
    · rw [q]; exact ⟨_, hTI, fun v q => nomatch q⟩
    · rw [q]; exact ⟨_, hTO, fun v q => nomatch q⟩
    · rw [q]; exact h1.obj
    · rw [q]; exact h2.obj
    · rw [q]; exact h3.obj
  keep := fun i h h2 st k => by
    obtain ⟨hz, hTI, ⟨a1, a2, a3, hTO⟩, h1, h2, h3⟩ := st
    exact ⟨k z (by simp) _ hz, k TI (by simp) _ hTI, ⟨a1, a2, a3, k TO (by simp) _ hTO⟩, h1.at fun o q => k i1 (by simp) o q, h2.at fun o q => k i2 (by simp) o q, h3.at fun o q => k i3 (by simp) o q⟩
  item := by
    intro X hP hw hK hc i pins s σ H E I hf st hg
    subst hP hw hK
    obtain ⟨hz, hTI, ⟨a1, a2, a3, hTO⟩, h1, h2, h3⟩ := st
    obtain ⟨vs, hv⟩ := hg
    cases hv with
    | cons r1 hv1 =>
      rename_i v1 ws1
      obtain ⟨xs1, hq1, hx1⟩ := r1
      obtain ⟨its1, rv1, q1, _⟩ := sq_seq I hq1
      obtain ⟨u1, hu1, ru1⟩ := rv1.get hx1
      have g1 : its1.toArray[i]? = some u1 := by simpa using hu1
      have l1 : i < its1.toArray.size := by have := (List.getElem?_eq_some_iff.mp hu1).1; simpa using this
      cases hv1 with
      | cons r2 hv2 =>
        rename_i v2 ws2
        obtain ⟨xs2, hq2, hx2⟩ := r2
        obtain ⟨its2, rv2, q2, _⟩ := sq_seq I hq2
        obtain ⟨u2, hu2, ru2⟩ := rv2.get hx2
        have g2 : its2.toArray[i]? = some u2 := by simpa using hu2
        have l2 : i < its2.toArray.size := by have := (List.getElem?_eq_some_iff.mp hu2).1; simpa using this
        cases hv2 with
        | cons r3 hv3 =>
          rename_i v3 ws3
          obtain ⟨xs3, hq3, hx3⟩ := r3
          obtain ⟨its3, rv3, q3, _⟩ := sq_seq I hq3
          obtain ⟨u3, hu3, ru3⟩ := rv3.get hx3
          have g3 : its3.toArray[i]? = some u3 := by simpa using hu3
          have l3 : i < its3.toArray.size := by have := (List.getElem?_eq_some_iff.mp hu3).1; simpa using this
          cases hv3
          have hzl : z < s.heap.objs.size := Heap.lt_size hz
          refine py_item3 S (draws_of (A := X.A.in1) (I.ok.hd hc) i1 p1 ne1 its1) (draws_of (A := X.A.in1) (I.ok.hd hc) i2 p2 ne2 its2) (draws_of (A := X.A.in1) (I.ok.hd hc) i3 p3 ne3 its3) hz hTI hTO ⟨h1, q1⟩ ⟨h2, q2⟩ ⟨h3, q3⟩ l1 l2 l3 fun x1 x2 x3 hA tk y1 y2 y3 z2 TO2 n1 n2 n3 hT hk => ?_
          obtain rfl : u1 = x1 := Option.some.inj (g1.symm.trans y1)
          obtain rfl : u2 = x2 := Option.some.inj (g2.symm.trans y2)
          obtain rfl : u3 = x3 := Option.some.inj (g3.symm.trans y3)
          refine ⟨_, rfl, go_zip (s := { s with heap := hA, toks := tk }) z2 fun hB z3 sb => ?_⟩
          replace sb : Heap.SameBut z hA hB := sb
          have hT2 : hB.get? s.heap.objs.size = some { cls := .type "tuple", data := .seq #[u1, u2, u3] } := (sb.2 _ (Nat.ne_of_gt hzl)).trans hT
          have new : ObjOk X.prog X.w (upd H s.heap.objs.size (.tup [v1, v2, v3])) hB s.heap.objs.size (.tup [v1, v2, v3]) := ⟨by show 3 ≤ sizeLine; decide, [u1, u2, u3], (.cons ru1 (.cons ru2 (.cons ru3 .nil))), ⟨_, hT2, rfl, _, rfl⟩⟩
          have I1 : Inv X pins σ (upd H s.heap.objs.size (.tup [v1, v2, v3])) { s with heap := hB, toks := tk } := I.turnedNew (t' := tk) (ch := [z, TI, TO, i1, i2, i3]) (fun c o hb q => (sb.2 c (fun q => hb (by simp [q]))).trans (hk c o (fun q => hb (by simp [q])) (fun q => hb (by simp [q])) (fun q => hb (by simp [q])) (fun q => hb (by simp [q])) (fun q => hb (by simp [q])) q)) hf (Nat.le_refl _) new
          refine ⟨.ref s.heap.objs.size, _, I1, rfl, ⟨_, _, rfl, I.hok.fresh (Nat.le_refl _), rfl, (.cons (fun l hl => by rw [sq_inj I hl hq1]; exact hx1) (.cons (fun l hl => by rw [sq_inj I hl hq2]; exact hx2) (.cons (fun l hl => by rw [sq_inj I hl hq3]; exact hx3) .nil)))⟩, ⟨z3, (sb.2 _ S.zTI.symm).trans (hk _ _ S.zTI.symm S.TOTI.symm S.I1 S.I2 S.I3 hTI), ⟨u1, u2, u3, (sb.2 _ S.zTO.symm).trans TO2⟩, (n1.1.at fun o q => (sb.2 _ (fun q => S.z1 (by rw [← q]; exact S.m1))).trans q), (n2.1.at fun o q => (sb.2 _ (fun q => S.z2 (by rw [← q]; exact S.m2))).trans q), (n3.1.at fun o q => (sb.2 _ (fun q => S.z3 (by rw [← q]; exact S.m3))).trans q)⟩, fun c hcm => ?_⟩
          have hlt : c < s.heap.objs.size := by
            have e : c = z ∨ c = TI ∨ c = TO ∨ c = i1 ∨ c = i2 ∨ c = i3 := by simpa using hcm
            rcases e with q | q | q | q | q | q
            · rw [q]; exact hzl
            · rw [q]; exact Heap.lt_size hTI
            · rw [q]; exact Heap.lt_size hTO
            · rw [q]; obtain ⟨_, e1, _⟩ := h1.obj; exact Heap.lt_size e1
            · rw [q]; obtain ⟨_, e1, _⟩ := h2.obj; exact Heap.lt_size e1
            · rw [q]; obtain ⟨_, e1, _⟩ := h3.obj; exact Heap.lt_size e1
          rw [upd_ne (Nat.ne_of_lt hlt)]
          exact (hf c hcm).1
  done := by
    intro X hP hw hK hc i pins s σ H E I hf st hg
    subst hP hw hK
    obtain ⟨hz, hTI, ⟨a1, a2, a3, hTO⟩, h1, h2, h3⟩ := st
    obtain ⟨xs1, hq1, hx1⟩ := hg p1 (by simp)
    obtain ⟨its1, rv1, q1, _⟩ := sq_seq I hq1
    have l1 : its1.toArray.size = i := by have := rv1.length; simp; omega
    have D1 := draws_of (prog := X.prog) (w := X.w) (A := X.A.in1) (I.ok.hd hc) i1 p1 ne1 its1
    rw [l1] at D1
    obtain ⟨xs2, hq2, hx2⟩ := hg p2 (by simp)
    obtain ⟨its2, rv2, q2, _⟩ := sq_seq I hq2
    have l2 : its2.toArray.size = i := by have := rv2.length; simp; omega
    have D2 := draws_of (prog := X.prog) (w := X.w) (A := X.A.in1) (I.ok.hd hc) i2 p2 ne2 its2
    rw [l2] at D2
    obtain ⟨xs3, hq3, hx3⟩ := hg p3 (by simp)
    obtain ⟨its3, rv3, q3, _⟩ := sq_seq I hq3
    have l3 : its3.toArray.size = i := by have := rv3.length; simp; omega
    have D3 := draws_of (prog := X.prog) (w := X.w) (A := X.A.in1) (I.ok.hd hc) i3 p3 ne3 its3
    rw [l3] at D3
    exact py_end3 (I.ok.hd hc) S D1 D2 D3 hz hTI hTO ⟨h1, q1⟩ ⟨h2, q2⟩ ⟨h3, q3⟩ fun h2 hk => ⟨rfl, I.turnedL (t' := s.toks) (ch := [z, TI, TO, i1, i2, i3]) (fun c o hb q => hk c o (fun q => hb (by simp [q])) (fun q => hb (by simp [q])) (fun q => hb (by simp [q])) (fun q => hb (by simp [q])) (fun q => hb (by simp [q])) q) hf⟩
  self := fun A i s Q E st h => iter_zip st.1 h
theorem sep_new3 {M : Nat} {p1 p2 p3 : Bool × Addr} (h1 : p1.2 < M) (h2 : p2.2 < M) (h3 : p3.2 < M) : Sep3 (M + 5) (M + 3) (M + 4) M (M + 1) (M + 2) [M, p1.2] [M + 1, p2.2] [M + 2, p3.2] where
  zTO := by show (M + 5 : Nat) ≠ M + 4; omega
  zTI := by show (M + 5 : Nat) ≠ M + 3; omega
  TOTI := by show (M + 4 : Nat) ≠ M + 3; omega
  m1 := by simp
  z1 := nin_new (a := p1.2) 5 0 h1 (by decide)
  T1 := nin_new (a := p1.2) 4 0 h1 (by decide)
  I1 := by show (M + 3 : Nat) ≠ M; omega
  s2_1 := nin_new (a := p1.2) 1 0 h1 (by decide)
  s3_1 := nin_new (a := p1.2) 2 0 h1 (by decide)
  m2 := by simp
  z2 := nin_new (a := p2.2) 5 1 h2 (by decide)
  T2 := nin_new (a := p2.2) 4 1 h2 (by decide)
  I2 := by show (M + 3 : Nat) ≠ M + 1; omega
  s1_2 := nin_new (a := p2.2) 0 1 h2 (by decide)
  s3_2 := nin_new (a := p2.2) 2 1 h2 (by decide)
  m3 := by simp
  z3 := nin_new (a := p3.2) 5 2 h3 (by decide)
  T3 := nin_new (a := p3.2) 4 2 h3 (by decide)
  I3 := by show (M + 3 : Nat) ≠ M + 2; omega
  s1_3 := nin_new (a := p3.2) 0 2 h3 (by decide)
  s2_3 := nin_new (a := p3.2) 1 2 h3 (by decide)
theorem pi_z3s {X : Cx} {e1 e2 e3 : Expr} {ta : TA} {p pos tpos : Pos} {elts : List Expr} {kk : Nat} {jj : Nat} {kp kp2 : Pos} {fl : List Bool} (hfl : fl.length = 3) (hg : Gl X "zip") (hm : X.mg "zip" = none) (ha : PA X [e1, e2, e3] ta)
    (hs : starEach [e1, e2, e3] X.env = (false, eval e1 X.env) :: starEach [e2, e3] X.env := by rfl) (hpl : (backTo pos (starEach [e2, e3] X.env)).any (·.1) = false := by rfl) :
    PI X (.Tuple elts kk tpos) (.Call (.Name "zip" p) [e1, e2, e3] [⟨some "strict", .Constant (.bool true) jj kp, kp2⟩] pos) (iZ X.K fl ta) := by
  refine ⟨fun pins s σ H R I h => ?_⟩
  refine wpAny_Call_Name_kw (ld_blt I hg hm PyProof.Rows.boot_zip ?_)
  refine PySem.W.callWith_of (P := fun _ => True) ?_ (fun h _ => looks_ty "zip" True.intro) ?_
  · show ((backTo pos (starEach _ X.env)).any (·.1) || false) = false
    rw [hs, Bool.or_false]
    exact hpl
  have he : backTo pos (starEach [e1, e2, e3] X.env) = (false, eval e1 X.env) :: backTo pos (starEach [e2, e3] X.env) := by rw [hs]; rfl
  rw [he]
  refine PyProof.Rows.evalArgs_kwB rfl ?_
  rw [← he]
  refine thn (ha.run pos pins s σ H _ I h) fun us s0 ⟨vs, H1, I0, r1, q1⟩ => ?_
  refine PyProof.Rows.kws_cons (Constant_bool (PyProof.Rows.kws_nil ⟨True.intro, ?_⟩))
  have I1 := I0
  obtain ⟨l, ev, el, hl, q1⟩ := q1
  subst ev
  obtain ⟨b1, b2, b3, rfl⟩ : ∃ b1 b2 b3 : Bool, fl = [b1, b2, b3] := match fl, hfl with | [_, _, _], _ => ⟨_, _, _, rfl⟩
  obtain ⟨c1, c2, c3, rfl⟩ : ∃ c1 c2 c3 : Addr, l = [c1, c2, c3] := match l, el with | [_, _, _], _ => ⟨_, _, _, rfl⟩
  cases r1 with
  | cons r_1 rr1 =>
    cases r_1
    cases rr1 with
    | cons r_2 rr2 =>
      cases r_2
      cases rr2 with
      | cons r_3 rr3 =>
        cases r_3
        cases rr3
        obtain ⟨xs1, hq1⟩ := hl (b1, c1) (by simp)
        obtain ⟨its1, rv1, g1, lt1⟩ := sq_seq I1 hq1
        obtain ⟨xs2, hq2⟩ := hl (b2, c2) (by simp)
        obtain ⟨its2, rv2, g2, lt2⟩ := sq_seq I1 hq2
        obtain ⟨xs3, hq3⟩ := hl (b3, c3) (by simp)
        obtain ⟨its3, rv3, g3, lt3⟩ := sq_seq I1 hq3
        have frs : ∀ c, c ∈ [s0.heap.objs.size + 5, s0.heap.objs.size + 3, s0.heap.objs.size + 4, s0.heap.objs.size, s0.heap.objs.size + 1, s0.heap.objs.size + 2] → FpOk X pins H1 c := fun c hcm => by
          have e : c = s0.heap.objs.size + 5 ∨ c = s0.heap.objs.size + 3 ∨ c = s0.heap.objs.size + 4 ∨ c = s0.heap.objs.size ∨ c = s0.heap.objs.size + 1 ∨ c = s0.heap.objs.size + 2 := by simpa using hcm
          have hle : s0.heap.objs.size ≤ c := by
            rcases e with q | q | q | q | q | q
            · rw [q]; exact Nat.le_add_right _ _
            · rw [q]; exact Nat.le_add_right _ _
            · rw [q]; exact Nat.le_add_right _ _
            · rw [q]; exact Nat.le_refl _
            · rw [q]; exact Nat.le_add_right _ _
            · rw [q]; exact Nat.le_add_right _ _
          exact I1.fpOk hle (I1.hok.fresh hle)
        refine begins_strict3 (begins_of (b1, c1) its1) (begins_of (b2, c2) its2) (begins_of (b3, c3) its3) g1 g2 g3 fun hA hz hTI hTO y1 y2 y3 kk => iter_zip hz ?_
        have I2 : Inv X pins σ H1 { s0 with heap := hA } := I1.kept (t' := s0.toks) kk
        exact ⟨_, [s0.heap.objs.size + 5, s0.heap.objs.size + 3, s0.heap.objs.size + 4, s0.heap.objs.size, s0.heap.objs.size + 1, s0.heap.objs.size + 2], _, _, H1, rfl, I2, turn_z3 (sep_new3 lt1 lt2 lt3) (Nat.ne_of_lt lt1) (Nat.ne_of_lt (Nat.lt_of_lt_of_le lt2 (Nat.le_add_right _ 1))) (Nat.ne_of_lt (Nat.lt_of_lt_of_le lt3 (Nat.le_add_right _ 2))), ⟨hz, hTI, ⟨_, _, _, hTO⟩, SqIt.begin y1, SqIt.begin y2, SqIt.begin y3⟩, frs, q1⟩
theorem pi_z3 {X : Cx} {e1 e2 e3 : Expr} {ta : TA} {p pos tpos : Pos} {elts : List Expr} {kk : Nat} {fl : List Bool} (hfl : fl.length = 3) (hg : Gl X "zip") (hm : X.mg "zip" = none) (ha : PA X [e1, e2, e3] ta)
    (hs : starEach [e1, e2, e3] X.env = (false, eval e1 X.env) :: starEach [e2, e3] X.env := by rfl) (hpl : (backTo pos (starEach [e2, e3] X.env)).any (·.1) = false := by rfl) :
    PI X (.Tuple elts kk tpos) (.Call (.Name "zip" p) [e1, e2, e3] [] pos) (iZ X.K fl ta) := by
  refine ⟨fun pins s σ H R I h => ?_⟩
  refine Call_ (ld_blt I hg hm PyProof.Rows.boot_zip (PyProof.Rows.callWith_type1 (thn (ha.run pos pins s σ H _ I h) fun us s0 ⟨vs, H1, I1, r1, q1⟩ => ?_) hs hpl))
  obtain ⟨l, ev, el, hl, q1⟩ := q1
  subst ev
  obtain ⟨b1, b2, b3, rfl⟩ : ∃ b1 b2 b3 : Bool, fl = [b1, b2, b3] := match fl, hfl with | [_, _, _], _ => ⟨_, _, _, rfl⟩
  obtain ⟨c1, c2, c3, rfl⟩ : ∃ c1 c2 c3 : Addr, l = [c1, c2, c3] := match l, el with | [_, _, _], _ => ⟨_, _, _, rfl⟩
  cases r1 with
  | cons r_1 rr1 =>
    cases r_1
    cases rr1 with
    | cons r_2 rr2 =>
      cases r_2
      cases rr2 with
      | cons r_3 rr3 =>
        cases r_3
        cases rr3
        obtain ⟨xs1, hq1⟩ := hl (b1, c1) (by simp)
        obtain ⟨its1, rv1, g1, lt1⟩ := sq_seq I1 hq1
        obtain ⟨xs2, hq2⟩ := hl (b2, c2) (by simp)
        obtain ⟨its2, rv2, g2, lt2⟩ := sq_seq I1 hq2
        obtain ⟨xs3, hq3⟩ := hl (b3, c3) (by simp)
        obtain ⟨its3, rv3, g3, lt3⟩ := sq_seq I1 hq3
        have frs : ∀ c, c ∈ [s0.heap.objs.size + 5, s0.heap.objs.size + 3, s0.heap.objs.size + 4, s0.heap.objs.size, s0.heap.objs.size + 1, s0.heap.objs.size + 2] → FpOk X pins H1 c := fun c hcm => by
          have e : c = s0.heap.objs.size + 5 ∨ c = s0.heap.objs.size + 3 ∨ c = s0.heap.objs.size + 4 ∨ c = s0.heap.objs.size ∨ c = s0.heap.objs.size + 1 ∨ c = s0.heap.objs.size + 2 := by simpa using hcm
          have hle : s0.heap.objs.size ≤ c := by
            rcases e with q | q | q | q | q | q
            · rw [q]; exact Nat.le_add_right _ _
            · rw [q]; exact Nat.le_add_right _ _
            · rw [q]; exact Nat.le_add_right _ _
            · rw [q]; exact Nat.le_refl _
            · rw [q]; exact Nat.le_add_right _ _
            · rw [q]; exact Nat.le_add_right _ _
          exact I1.fpOk hle (I1.hok.fresh hle)
        refine zip_begins3 (begins_of (b1, c1) its1) (begins_of (b2, c2) its2) (begins_of (b3, c3) its3) g1 g2 g3 fun hA hz hTI hTO y1 y2 y3 _ kk => iter_zip (b := false) hz ?_
        have I2 : Inv X pins σ H1 { s0 with heap := hA } := I1.kept (t' := s0.toks) kk
        exact ⟨_, [s0.heap.objs.size + 5, s0.heap.objs.size + 3, s0.heap.objs.size + 4, s0.heap.objs.size, s0.heap.objs.size + 1, s0.heap.objs.size + 2], _, _, H1, rfl, I2, turn_z3 (sep_new3 lt1 lt2 lt3) (Nat.ne_of_lt lt1) (Nat.ne_of_lt (Nat.lt_of_lt_of_le lt2 (Nat.le_add_right _ 1))) (Nat.ne_of_lt (Nat.lt_of_lt_of_le lt3 (Nat.le_add_right _ 2))), ⟨hz, hTI, ⟨_, _, _, hTO⟩, SqIt.begin y1, SqIt.begin y2, SqIt.begin y3⟩, frs, q1⟩
end CZ

namespace CS
open PySem PySem.Spec PyProof.Rows L2
/-! ### rules beside the layer's -/
section
variable {X : Cx}
/-- a product, whatever the reason that it fits -/
theorem op_mulI : OpR X (binaryOp .Mult) (rI IntMulOk fun i j => .int (i * j)) := opI fun _ _ _ _ _ _ _ hc q => mul_int q hc
/-- list + list, however each is known -/
def rCatR (K : PySem.W.Frag) : R2 := fun x y H Q => ∃ l b xs zs, x = .ref l ∧ y = .ref b ∧ SqL K H l xs ∧ SqL K H b zs ∧ xs.length + zs.length ≤ sizeLine ∧ ∀ p, H p = none → Q (.ref p) (upd H p (.lst (xs ++ zs)))
theorem op_catR : OpR X (binaryOp .Add) (rCatR X.K) := by
  intro pins s σ H x y v u Q I rx ry h
  obtain ⟨l, b, xs, zs, rfl, rfl, hH, hB, hz, q⟩ := h
  cases rx
  cases ry
  obtain ⟨its, r, p1, _⟩ := I.list hH
  obtain ⟨its2, r2, p2, _⟩ := I.list hB
  obtain ⟨⟨cls, dd, data, sl⟩, ho, hc, n, hd⟩ := id p1.isList
  obtain ⟨⟨cls2, dd2, data2, sl2⟩, ho2, hc2, n2, hd2⟩ := id p2.isList
  simp only at hc hd hc2 hd2
  subst hc hd hc2 hd2
  have l1 := r.length
  have l2 := r2.length
  have ea : its.toArray ++ its2.toArray = (its ++ its2).toArray := by simp
  refine concat_meets ⟨_, ho, rfl⟩ ⟨_, ho2, rfl⟩ noFill_list_add seq_list_add PySem.F.slot_list_add PySem.F.entry_list_add (PySem.F.args_list_add_2 _ _) (list_addW l b its.toArray its2.toArray n n2 dd dd2 sl sl2 (by rw [List.size_toArray, List.size_toArray]; omega)) ⟨ho, ho2, ?_⟩
  rw [ea]
  exact ⟨.ref _, _, I.lnew (t' := s.toks) (r.append r2) (by rw [List.length_append]; omega), rfl, q _ I.fresh⟩
theorem pi_or {tg it : Expr} {w1 w2 : TI} (h1 : PI X tg it w1) (h2 : PI X tg it w2) : PI X tg it (fun σ H R => w1 σ H R ∨ w2 σ H R) :=
  ⟨fun pins s σ H R I h => h.elim (fun z => h1.run pins s σ H R I z) fun z => h2.run pins s σ H R I z⟩
end
/-! ### calls by keywords alone -/
def pick {α : Type} (js : List Nat) (l : List α) : List α := js.filterMap fun j => l[j]?
theorem vals_pick {xs : List V} {us : List Value} (r : Vals xs us) : ∀ js : List Nat, Vals (pick js xs) (pick js us)
  | [] => .nil
  | j :: js => by
    have ih := vals_pick r js
    unfold pick at ih ⊢
    cases e : xs[j]? with
    | none =>
      have e2 := r.none_of e
      rw [List.filterMap_cons_none (by rw [e]), List.filterMap_cons_none (by rw [e2])]
      exact ih
    | some x =>
      obtain ⟨u, e2, ru⟩ := r.get e
      rw [List.filterMap_cons_some (by rw [e]), List.filterMap_cons_some (by rw [e2])]
      exact .cons ru ih
theorem kbn_of {K : PySem.W.Frag} {x qual : Str} {st : Stmt} {f : Addr} {fd : FuncData} {ps : List Str} (F : Fun K x qual st f fd) (n : Nat) (ks : List Str) (js : List Nat)
    (h : ∀ (kV doc pm : Value) (an : Option Addr) (cdv ct : Value) (us ws : List Value), us.length = n → ws.length = ks.length → bindArgs (PySem.W.fnOf x qual (defArgs st) (defBody st) (defScope st) .none kV doc pm an cdv ct) ⟨us, ks.zip ws⟩ = pure (ps.zip (pick js (us ++ ws)))) :
    KBn K fd ps n ks (fun us ws => pick js (us ++ ws)) (fun vs zs => pick js (vs ++ zs)) := by
  obtain ⟨oc, od, kV, doc, pm, an, cdv, ct, osl, rfl, lk, hcd⟩ := F.ex
  exact ⟨fun s us ws _ h1 h2 => .of_eq (h kV doc pm an cdv ct us ws h1 h2), fun r1 r2 => vals_pick (r1.append r2) js⟩
section
variable {X : Cx} {CX : CXT} {k n : Nat} {f C : Addr} {fd : FuncData} {ps ks : List Str} {sp : Sp} {E : XK} {x m : Str} {p pos apos : Pos} {o : Expr} {kws : List Keyword} {ta : TE} {tk : TA} {g : List Value → List Value → List Value} {gV : List V → List V → List V}
theorem run_kw {pins : List (Addr × Obj)} {σ : L2.St} {H : Hp} {s : Shared} {Q : VK} {us ws : List Value} {vs zs : List V} (F : FnOk X.prog X.w X.K X.mg X.base CX k f fd ps sp) (hr : Room k X.A) (hb : KBn X.K fd ps n ks g gV) (hx : Passes CX X E)
    (I : Inv X pins σ H s) (r : Vals vs us) (rz : Vals zs ws) (l1 : vs.length = n) (l2 : zs.length = ks.length) (h : sp (gV vs zs) H Q E) : wpAny (model X.prog X.w) X.A (call (.ref f) us (ks.zip ws)) (EP X pins σ Q) X.xe s := by
  refine wpAny_call (codeAny_mono (F.run X.A X.stack s H ⟨us, ks.zip ws⟩ (g us ws) (gV vs zs) Q E hr I.env0 (hb.to s us ws I.kIn (r.length.symm.trans l1) (rz.length.symm.trans l2)) (hb.rel r rz) h) fun res s2 hq => ?_)
  cases res with
  | error e => exact hx pins σ H s e s2 I hq
  | ok fl =>
    cases fl with
    | ret u => exact I.after hq
    | next => exact False.elim hq
    | brk => exact False.elim hq
    | cont => exact False.elim hq
/-- f(k = v, ..) -/
def tCallKw (m : Nat) (sp : Sp) (gV : List V → List V → List V) (E : XK) (tk : TA) : TE := fun σ H Q => tk σ H fun zs H1 => zs.length = m ∧ sp (gV [] zs) H1 Q E
theorem pe_callKw (F : FnOk X.prog X.w X.K X.mg X.base CX k f fd ps sp) (hr : Room k X.A) (hg : Gl X x) (hm : X.mg x = some (.ref f)) (hk : PySem.W.keepIn X.K (.ref f) = true) (hb : KBn X.K fd ps 0 ks g gV) (hx : Passes CX X E) (hkw : PK X kws tk)
    (hall : (backToKw pos (keywordEach kws X.env)).all (·.1.isSome) = true := by rfl) (hks : (backToKw pos (keywordEach kws X.env)).filterMap (·.1) = ks := by rfl) (hdb : (x == ("__debug__" : Str)) = false := by decide)
    (hpl : ((backTo pos (starEach [] X.env)).any (·.1) || (backToKw pos (keywordEach kws X.env)).any (·.1.isNone)) = false := by rfl) :
    PE X (.Call (.Name x p) [] kws pos) (tCallKw ks.length sp gV E tk) := by
  refine ⟨fun pins s σ H Q I h => ?_⟩
  refine wpAny_Call_Name_kw (ld_glob I hg hm ?_ hdb)
  refine PySem.W.callWith_KW0 (h₀ := X.base) I.ok.mod.kin hk hall (thn (hkw.run pos pins s σ H _ I h) fun ws s2 ⟨zs, H2, I2, rz, l2, q2⟩ => ⟨I2.kIn, ?_⟩) hpl
  rw [hks]
  exact run_kw (us := []) (vs := []) F hr hb hx I2 .nil rz rfl l2 q2
/-- o.m(k = v, ..) -/
def tMethKw (C : Addr) (m : Str) (n : Nat) (sp : Sp) (gV : List V → List V → List V) (E : XK) (ta : TE) (tk : TA) : TE := fun σ H Q => ta σ H fun x H1 => ∃ a dx fs, x = .ref a ∧ H1 a = some (.ins C dx fs) ∧ fs.lookup m = none ∧
  tk σ H1 fun zs H2 => zs.length = n ∧ sp (gV [x] zs) H2 Q E
theorem pe_methKw {pl : Sem Bool} (he : PE X o ta) (c : Cls X.K C) (hm : Meth X.K C m f) (F : FnOk X.prog X.w X.K X.mg X.base CX k f fd ps sp) (hr : Room k X.A) (hb : KBn X.K fd ps 1 ks g gV) (hx : Passes CX X E) (hkw : PK X kws tk)
    (hall : (backToKw pos (keywordEach kws X.env)).all (·.1.isSome) = true := by rfl) (hks : (backToKw pos (keywordEach kws X.env)).filterMap (·.1) = ks := by rfl)
    (hpl : ((backTo pos (starEach [] X.env)).any (·.1) || (backToKw pos (keywordEach kws X.env)).any (·.1.isNone)) = false := by rfl)
    (ht : eval (.Call (.Attribute o m apos) [] kws pos) X.env = (do
      let ov ← eval o X.env
      standAt apos.atName
      let (f, first) ← holding [ov] (getMethod ov m pl)
      callWith pos f first (backTo pos (starEach [] X.env)) (backToKw pos (keywordEach kws X.env))) := by rfl) :
    PE X (.Call (.Attribute o m apos) [] kws pos) (tMethKw C m ks.length sp gV E ta tk) := by
  refine ⟨fun pins s σ H Q I h => ?_⟩
  refine PySem.W.methodCall_KW (pl := pl) (thn (he.run pins s σ H _ I h) fun u s1 ⟨x, H1, I1, rx, a, dx, fs, ex, ea, l, q⟩ => ?_) ht
  subst ex
  obtain rfl : u = Value.ref a := rx
  refine getmeth_ok I1 ea c hm l ?_
  refine PySem.W.callWith_KW0 (first := [.ref a]) (h₀ := X.base) I.ok.mod.kin hm.kp hall (thn (hkw.run pos pins s1 σ H1 _ I1 q) fun ws s2 ⟨zs, H2, I2, rz, l2, q2⟩ => ⟨I2.kIn, ?_⟩) hpl
  rw [hks]
  exact run_kw (us := [.ref a]) (vs := [.ref a]) F hr hb hx I2 (.cons rfl .nil) rz rfl l2 q2
end
/-! ### heaps that grow -/
abbrev Ex (H H2 : Hp) : Prop := Evl.Ex H H2
theorem exr {H : Hp} : Ex H H := fun _ _ h => h
theorem exn {H : Hp} {p : Addr} {o : HO} (h : H p = none) : Ex H (upd H p o) := Evl.Ex.new h
theorem SqK.mono {K : PySem.W.Frag} {H H2 : Hp} {p : Bool × Addr} {xs : List V} (e : Ex H H2) (h : CZ.SqK K H p xs) : CZ.SqK K H2 p xs := by
  obtain ⟨b, a⟩ := p
  cases b
  · exact Evl.ex_l e h
  · exact Evl.ex_t e h
/-- a comprehension whose element and tests leave all that stood: out i is what stands behind i turns -/
theorem lc_out {J : It} {n : Nat} {G : Hp → Prop} {Y : Nat → Hp → V → Hp → Prop} (w : Walk J n G Y) {g : TG} {tt : TT} {te : TE} {vs : List Nat} {σ : L2.St} {H1 : Hp} {D : Addr} {Qd : Hp → Prop} (out : Nat → List V) (h0 : out 0 = []) (hD : H1 D = none)
    (hlen : ∀ i, i < n → (out i).length < sizeLine) (hG : ∀ H, Ex H1 H → G H)
    (hs : ∀ i x H H2 (Nx : Hp → Prop), i < n → Ex H1 H → H D = some (.lst (out i)) → Y i H x H2 →
      (∀ y H5, Ex H H5 → out (i + 1) = out i ++ [y] → ∃ acc, H5 D = some (.lst acc) ∧ acc.length < sizeLine ∧ Nx (upd H5 D (.lst (acc ++ [y])))) → (∀ H4, Ex H H4 → out (i + 1) = out i → Nx H4) →
      g x (wipe σ vs) H2 fun σ2 H3 => wipe σ2 vs = wipe σ vs ∧ tt σ2 H3 fun b H4 => if b = true then te σ2 H4 fun y H5 => ∃ acc, H5 D = some (.lst acc) ∧ acc.length < sizeLine ∧ Nx (upd H5 D (.lst (acc ++ [y]))) else Nx H4)
    (hd : ∀ H, Ex H1 H → H D = some (.lst (out n)) → Qd H) :
    ∃ W : Nat → Nat → Hp → Prop, (∃ m, W 0 m (upd H1 D (.lst []))) ∧ ∀ i m H, W i m H →
      (J.stop i H ∧ Qd H) ∨ (J.go i H ∧ ∃ Nx : Hp → Prop, (∀ H2, Nx H2 → ∃ m2, m2 < m ∧ W (i + 1) m2 H2) ∧ ∀ x H2, J.yld i H x H2 → g x (wipe σ vs) H2 fun σ2 H3 => wipe σ2 vs = wipe σ vs ∧ tt σ2 H3 fun b H4 =>
        if b = true then te σ2 H4 fun y H5 => ∃ acc, H5 D = some (.lst acc) ∧ acc.length < sizeLine ∧ Nx (upd H5 D (.lst (acc ++ [y]))) else Nx H4) := by
  refine lc_it w (fun i H => Ex H1 H ∧ H D = some (.lst (out i))) ⟨exn hD, by rw [upd_same, h0]⟩ (fun i H _ p => hG H p.1) (fun i x H H2 hi p y => ?_) (fun H p => hd H p.1 p.2)
  refine hs i x H H2 _ hi p.1 p.2 y (fun y2 H5 e eo => ⟨out i, e D _ p.2, hlen i hi, fun b o q => ?_, by rw [upd_same, eo]⟩) (fun H4 e eo => ⟨fun b o q => e b o (p.1 b o q), by rw [eo]; exact e D _ p.2⟩)
  rw [upd_ne (ne_of_none q hD)]
  exact e b o (p.1 b o q)
/-- .. whose list is known: vals -/
theorem lc_vals {J : It} {n : Nat} {G : Hp → Prop} {Y : Nat → Hp → V → Hp → Prop} (w : Walk J n G Y) {g : TG} {te : TE} {vs : List Nat} {σ : L2.St} {H1 : Hp} {D : Addr} {Qd : Hp → Prop} (vals : List V) (hn : vals.length = n) (hl : n ≤ 10000000) (hD : H1 D = none)
    (hG : ∀ H, Ex H1 H → G H)
    (hs : ∀ i x H H2 (R : VK), i < n → Ex H1 H → Y i H x H2 → (∀ y H5, Ex H H5 → vals[i]? = some y → R y H5) → g x (wipe σ vs) H2 fun σ2 H3 => wipe σ2 vs = wipe σ vs ∧ te σ2 H3 R)
    (hg : ∀ x σ2 H2 (R R2 : L2.St → Hp → Prop), (∀ σ3 H3, R σ3 H3 → R2 σ3 H3) → g x σ2 H2 R → g x σ2 H2 R2)
    (hd : ∀ H, Ex H1 H → H D = some (.lst vals) → Qd H) :
    ∃ W : Nat → Nat → Hp → Prop, (∃ m, W 0 m (upd H1 D (.lst []))) ∧ ∀ i m H, W i m H →
      (J.stop i H ∧ Qd H) ∨ (J.go i H ∧ ∃ Nx : Hp → Prop, (∀ H2, Nx H2 → ∃ m2, m2 < m ∧ W (i + 1) m2 H2) ∧ ∀ x H2, J.yld i H x H2 → g x (wipe σ vs) H2 fun σ2 H3 => wipe σ2 vs = wipe σ vs ∧ tYes σ2 H3 fun b H4 =>
        if b = true then te σ2 H4 fun y H5 => ∃ acc, H5 D = some (.lst acc) ∧ acc.length < sizeLine ∧ Nx (upd H5 D (.lst (acc ++ [y]))) else Nx H4) := by
  refine lc_out w (fun i => vals.take i) rfl hD (fun i hi => ?_) hG (fun i x H H2 Nx hi e hDi y kA _ => ?_) (fun H e h => hd H e ?_)
  · rw [List.length_take]
    exact Nat.lt_of_le_of_lt (Nat.le_trans (Nat.min_le_right _ _) (by rw [hn]; exact hl)) (by decide)
  · refine hg _ _ _ _ _ (fun σ3 H3 q => ⟨q.1, ?_⟩) (hs i x H H2 (fun y H5 => ∃ acc, H5 D = some (.lst acc) ∧ acc.length < sizeLine ∧ Nx (upd H5 D (.lst (acc ++ [y])))) hi e y fun y2 H5 e5 ev => kA y2 H5 e5 ?_)
    · exact q.2
    · rw [List.take_add_one, ev]
      rfl
  · rw [h, List.take_of_length_le (by rw [hn]; exact Nat.le_refl _)]
theorem gmono_name {i : Nat} : ∀ x σ2 H2 (R R2 : L2.St → Hp → Prop), (∀ σ3 H3, R σ3 H3 → R2 σ3 H3) → gName i x σ2 H2 R → gName i x σ2 H2 R2 := fun _ _ _ _ _ h q => h _ _ q
theorem gmono_nil : ∀ vs σ2 H2 (R R2 : L2.St → Hp → Prop), (∀ σ3 H3, R σ3 H3 → R2 σ3 H3) → gNil vs σ2 H2 R → gNil vs σ2 H2 R2 := fun _ _ _ _ _ h q => ⟨q.1, h _ _ q.2⟩
theorem gmono_cons {t : TG} {u : TGs} (ht : ∀ x σ2 H2 (R R2 : L2.St → Hp → Prop), (∀ σ3 H3, R σ3 H3 → R2 σ3 H3) → t x σ2 H2 R → t x σ2 H2 R2) (hu : ∀ x σ2 H2 (R R2 : L2.St → Hp → Prop), (∀ σ3 H3, R σ3 H3 → R2 σ3 H3) → u x σ2 H2 R → u x σ2 H2 R2) :
    ∀ vs σ2 H2 (R R2 : L2.St → Hp → Prop), (∀ σ3 H3, R σ3 H3 → R2 σ3 H3) → gCons t u vs σ2 H2 R → gCons t u vs σ2 H2 R2 := fun vs σ2 H2 R R2 h q => by
  obtain ⟨v, r, e, q⟩ := q
  exact ⟨v, r, e, ht _ _ _ _ _ (fun σ3 H3 z => hu _ _ _ _ _ h z) q⟩
theorem gmono_tup {K : PySem.W.Frag} {n : Nat} {t : TGs} (ht : ∀ x σ2 H2 (R R2 : L2.St → Hp → Prop), (∀ σ3 H3, R σ3 H3 → R2 σ3 H3) → t x σ2 H2 R → t x σ2 H2 R2) :
    ∀ v σ2 H2 (R R2 : L2.St → Hp → Prop), (∀ σ3 H3, R σ3 H3 → R2 σ3 H3) → gTup K n t v σ2 H2 R → gTup K n t v σ2 H2 R2 := fun v σ2 H2 R R2 h q => by
  obtain ⟨a, xs, e, h1, h2, q⟩ := q
  exact ⟨a, xs, e, h1, h2, ht _ _ _ _ _ h q⟩
/-! ### a list or a tuple walked -/
def ItS (K : PySem.W.Frag) (p : Bool × Addr) : It := if p.1 = true then Itt K p.2 else Itl K p.2
def iSeq (K : PySem.W.Frag) (tl : TE) : TI := fun σ H R => tl σ H fun x H1 => ∃ p : Bool × Addr, x = .ref p.2 ∧ (∃ xs, CZ.SqK K H1 p xs) ∧ R (ItS K p) H1
theorem pi_seq {X : Cx} {tg l : Expr} {tl : TE} (hl : PE X l tl) : PI X tg l (iSeq X.K tl) := by
  refine ⟨fun pins s σ H R I h => ?_⟩
  refine thn (hl.run pins s σ H _ I h) fun v s1 ⟨x, H1, I1, r1, q1⟩ => ?_
  obtain ⟨⟨b, a⟩, ex, ⟨xs, hq⟩, q⟩ := q1
  subst ex
  cases r1
  obtain ⟨its, rv, g, lt⟩ := CZ.sq_seq I1 hq
  have fp : ∀ c ∈ [s1.heap.objs.size], FpOk X pins H1 c := fun c hc => by
    have e : c = s1.heap.objs.size := by simpa using hc
    rw [e]
    exact I1.fpOk (Nat.le_refl _) (I1.hok.fresh (Nat.le_refl _))
  refine (CZ.begins_of (b, a) its).iter _ _ _ _ s1 _ g ?_
  have I2 : Inv X pins σ H1 { s1 with heap := s1.heap.push (CZ.itO (b, a)) } := I1.kept (t' := s1.toks) fun c o e => Heap.get?_push_of_some _ e
  cases b
  · exact ⟨_, [s1.heap.objs.size], _, _, H1, rfl, I2, turn_list a _, ⟨_, Heap.get?_push_size _ rfl, rfl, rfl⟩, fp, q⟩
  · exact ⟨_, [s1.heap.objs.size], _, _, H1, rfl, I2, turn_tuple a _, ⟨_, Heap.get?_push_size _ rfl, rfl, rfl⟩, fp, q⟩
theorem walk_seq {K : PySem.W.Frag} {p : Bool × Addr} {xs : List V} : Walk (ItS K p) xs.length (fun H => CZ.SqK K H p xs) (YAt xs) := by
  obtain ⟨b, a⟩ := p
  cases b
  · exact walk_list
  · exact walk_tup
theorem itt {c : Bool} {A B : Prop} (h : c = true) (a : A) : if c = true then A else B := by rw [if_pos h]; exact a
theorem itf {c : Bool} {A B : Prop} (h : c = false) (b : B) : if c = true then A else B := by rw [h, if_neg Bool.false_ne_true]; exact b
theorem map_get {α : Type} {f : α → V} {l : List α} {i : Nat} {x : V} (h : (l.map f)[i]? = some x) : ∃ n, l[i]? = some n ∧ x = f n := by
  rw [List.getElem?_map] at h
  cases e : l[i]? with
  | none => rw [e] at h; cases h
  | some n => rw [e] at h; exact ⟨n, rfl, (Option.some.inj h).symm⟩
end CS

namespace CE
open PySem PySem.Spec PyProof.Rows L2 CZ
/-! ### enumerate over a list or a tuple -/
theorem enumO_new {v : Value} {oo : Obj} {Hq : Heap → Prop} (bg : Begins v oo Hq) :
    Meets (Builtin.«enumerate.__new__» ⟨[.type "enumerate", v], []⟩) (fun _ R t => Hq t.heap ∧
      R (.ok (.ret (.ref (t.heap.push oo).objs.size))) { t with heap := (t.heap.push oo).push { cls := .type "enumerate", data := .fields #[.none, .bool false, .ref t.heap.objs.size, rawInt 0, .none, .none] } }) :=
  .of_wp fun pg wo Ar R t hyp => by
    obtain ⟨hh, gg, dd, tt, oq⟩ := t
    obtain ⟨start, goal⟩ := hyp
    have es := PySem.sub_enumerate
    have go1 : ∀ {A2 : Around} {E2 : Value → Shared → Prop} {Q2 : Value → Shared → Prop}, Q2 (.ref hh.objs.size) ⟨hh.push oo, gg, dd, tt, oq⟩ → wpAny (model pg wo) A2 (pyIter v) Q2 E2 ⟨hh, gg, dd, tt, oq⟩ :=
      fun z => bg.iter pg wo _ _ ⟨hh, gg, dd, tt, oq⟩ _ start z
    wp_walk using go1
    refine wpAny_stack_any fun stk => wpAny_pure ?_
    split
    · rename_i cc _ _ _ _ _
      cases (cc == Value.type "enumerate")
      all_goals
        wp_walk using go1
        exact ⟨_, rfl, goal⟩
    · wp_walk using go1
      exact ⟨_, rfl, goal⟩
theorem enum_of {pg : Program} {wo : World} {Ar : Around} {Ex1 : Value → Shared → Prop} {t : Shared} {v : Value} {oo : Obj} {Hq : Heap → Prop} {Qe : Value → Shared → Prop} (bg : Begins v oo Hq) (start : Hq t.heap)
    (goal : ∀ hN, IsEnum hN (t.heap.objs.size + 1) t.heap.objs.size 0 .none → hN.get? t.heap.objs.size = some oo → (∀ c ob, t.heap.get? c = some ob → hN.get? c = some ob) → Qe (.ref (t.heap.objs.size + 1)) { t with heap := hN }) :
    wpAny (model pg wo) Ar (call (.type "enumerate") [v]) Qe Ex1 t := by
  refine callType_new F.called_enumerate (by decide) (F.typeCall_enumerate_1 _) (F.newCall_enumerate_1 _) (fun ob => F.args_object_init_2 ob _) F.entry_enumerate_new (enumO_new bg) ⟨start, ?_⟩
  have size1 : (t.heap.push oo).objs.size = t.heap.objs.size + 1 := Heap.size_push ..
  have isE : IsEnum ((t.heap.push oo).push { cls := .type "enumerate", data := .fields #[.none, .bool false, .ref t.heap.objs.size, rawInt 0, .none, .none] }) (t.heap.objs.size + 1) t.heap.objs.size 0 .none := by
    have at1 := Heap.get?_push_size (t.heap.push oo) (o := { cls := .type "enumerate", data := .fields #[.none, .bool false, .ref t.heap.objs.size, rawInt 0, .none, .none] }) rfl
    rw [size1] at at1
    exact at1
  show _ ∧ _
  rw [size1]
  exact ⟨⟨_, isE, rfl⟩, goal _ isE (Heap.get?_push_of_some _ (Heap.get?_push_size _ bg.free)) fun c ob z => Heap.get?_push_of_some _ (Heap.get?_push_of_some _ z)⟩
/-- what stands at p, each item in a new pair -/
def ItE (K : PySem.W.Frag) (p : Bool × Addr) : It :=
  ⟨fun i H => ∃ (xs : List V) (x : V), SqK K H p xs ∧ xs[i]? = some x, fun i H v H2 => ∃ T x, v = .ref T ∧ H T = none ∧ H2 = upd H T (.tup [.int (i : Nat), x]) ∧ ∀ xs, SqK K H p xs → xs[i]? = some x, fun i H => ∃ xs : List V, SqK K H p xs ∧ xs.length = i⟩
theorem turn_e {P : Program} {w : World} {K : PySem.W.Frag} {elts : List Expr} {kk : Nat} {tpos : Pos} {en it : Addr} {p : Bool × Addr} (n1 : p.2 ≠ it) (n2 : en ≠ it) (n3 : en ≠ p.2) :
    Turn P w K (.Tuple elts kk tpos) (ItE K p) [en, it] en (fun i h => (∃ old, IsEnum h en it ((i : Nat) : Int) old) ∧ SqIt h it p i) where
  mem := by simp
  obj := fun i h st c hc => by
    obtain ⟨⟨old, ie⟩, si⟩ := st
    have e : c = en ∨ c = it := by simpa using hc
    rcases e with q | q
    · rw [q]; exact ⟨_, ie, fun v q => nomatch q⟩
    · rw [q]; exact si.obj
  keep := fun i h h2 st k => by
    obtain ⟨⟨old, ie⟩, si⟩ := st
    exact ⟨⟨old, k en (by simp) _ ie⟩, si.at fun o q => k it (by simp) o q⟩
  item := by
    intro X hP hw hK hc i pins s σ H E I hf st hg
    subst hP hw hK
    obtain ⟨⟨old, ie⟩, si⟩ := st
    obtain ⟨xs, x, hq, hx⟩ := hg
    obtain ⟨its, rv, sq, _⟩ := sq_seq I hq
    obtain ⟨u, hu, ru⟩ := rv.get hx
    have gu : its.toArray[i]? = some u := by simpa using hu
    have lu : i < its.toArray.size := by
      have := (List.getElem?_eq_some_iff.mp hu).1
      simpa using this
    have enl : en < s.heap.objs.size := Heap.lt_size ie
    have itl : it < s.heap.objs.size := by
      obtain ⟨_, q, _⟩ := si.obj
      exact Heap.lt_size q
    refine PySem.wpAny_pyNext_enum_itemD (draws_of (A := X.A.in1) (I.ok.hd hc) it p n1 its) ie ⟨si, sq⟩ lu n2 (by simp [n2, n3]) fun x1 hA tk hx1 out ⟨si2, _⟩ hT hsz hk => ?_
    obtain rfl : u = x1 := Option.some.inj (gu.symm.trans hx1)
    refine ⟨_, rfl, wpAny_letOwnedTupleGo_enum (s := { s with heap := hA, toks := tk + 1 }) out fun hB isB sb => ?_⟩
    replace sb : Heap.SameBut en hA hB := sb
    have hT2 : hB.get? s.heap.objs.size = some { cls := .type "tuple", data := .seq #[.int i tk, u] } := (sb.2 _ (Nat.ne_of_gt enl)).trans hT
    have made : ObjOk X.prog X.w (upd H s.heap.objs.size (.tup [.int (i : Nat), x])) hB s.heap.objs.size (.tup [.int (i : Nat), x]) := ⟨by show 2 ≤ sizeLine; decide, [.int i tk, u], .cons ⟨_, rfl⟩ (.cons ru .nil), ⟨_, hT2, rfl, _, rfl⟩⟩
    have I1 : Inv X pins σ (upd H s.heap.objs.size (.tup [.int (i : Nat), x])) { s with heap := hB, toks := tk + 1 } :=
      I.turnedNew (t' := tk + 1) (ch := [en, it]) (fun c ob hb q => (sb.2 c (fun z => hb (by simp [z]))).trans (hk c ob (fun z => hb (by simp [z])) (fun z => hb (by simp [z])) q)) hf (Nat.le_refl _) made
    refine ⟨.ref s.heap.objs.size, _, I1, rfl, ⟨_, x, rfl, I.hok.fresh (Nat.le_refl _), rfl, fun ys hy => by rw [sq_inj I hy hq]; exact hx⟩, ⟨⟨u, ?_⟩, si2.at fun o q => (sb.2 it n2.symm).trans q⟩, fun c hcm => ?_⟩
    · have next : ((i + 1 : Nat) : Int) = (i : Int) + 1 := by omega
      rw [next]
      exact isB
    · have small : c < s.heap.objs.size := by
        have e : c = en ∨ c = it := by simpa using hcm
        rcases e with q | q
        · rw [q]; exact enl
        · rw [q]; exact itl
      rw [upd_ne (Nat.ne_of_lt small)]
      exact (hf c hcm).1
  done := by
    intro X hP hw hK hc i pins s σ H E I hf st hg
    subst hP hw hK
    obtain ⟨⟨old, ie⟩, si⟩ := st
    obtain ⟨xs, hq, hx⟩ := hg
    obtain ⟨its, rv, sq, _⟩ := sq_seq I hq
    have li : its.toArray.size = i := by
      have := rv.length
      simp
      omega
    have dr := draws_of (prog := X.prog) (w := X.w) (A := X.A.in1) (I.ok.hd hc) it p n1 its
    rw [li] at dr
    exact PySem.wpAny_pyNext_enum_endD dr ie ⟨si, sq⟩ fun hA eb => ⟨rfl, I.turnedL (t' := s.toks) (ch := [en, it]) (fun c ob hb q => eb c ob (fun z => hb (by simp [z])) q) hf⟩
  self := fun A i s Q E st h => let ⟨⟨_, ie⟩, _⟩ := st; wpAny_pyIter_enum ie h
theorem walk_e {K : PySem.W.Frag} {p : Bool × Addr} {xs : List V} : Walk (ItE K p) xs.length (fun H => SqK K H p xs) (YPair (fun i => some (.int (i : Nat))) (fun i => xs[i]?)) :=
  ⟨fun i _ hi q => ⟨xs, xs[i], q, by simp [hi]⟩, fun _ q => ⟨xs, q, rfl⟩, fun i H v H2 _ q y => by
    obtain ⟨T, x, h1, h2, h3, h4⟩ := y
    exact ⟨T, _, x, h1, h2, h3, rfl, h4 xs q⟩⟩
/-- enumerate(e), e a list or a tuple -/
def iE (K : PySem.W.Frag) (ta : TA) : TI := fun σ H R => ta σ H fun vs H1 => ∃ p : Bool × Addr, vs = [.ref p.2] ∧ (∃ xs, SqK K H1 p xs) ∧ R (ItE K p) H1
theorem pi_e {X : Cx} {e : Expr} {ta : TA} {po pos tpos : Pos} {elts : List Expr} {kk : Nat} (hg : Gl X "enumerate") (hm : X.mg "enumerate" = none) (ha : PA X [e] ta) (hs : starEach [e] X.env = [(false, eval e X.env)] := by rfl) :
    PI X (.Tuple elts kk tpos) (.Call (.Name "enumerate" po) [e] [] pos) (iE X.K ta) := by
  refine ⟨fun pins s σ H R I h => ?_⟩
  refine Call_ (ld_blt I hg hm boot_enumerate (PyProof.Rows.callWith_type1 (thn (ha.run pos pins s σ H _ I h) fun us s0 ⟨vs, H1, I1, r1, q1⟩ => ?_) hs rfl))
  obtain ⟨p, ev, ⟨xs, hq⟩, q1⟩ := q1
  subst ev
  cases r1 with
  | cons r rr =>
    cases rr
    cases r
    obtain ⟨its, rv, sq, lt⟩ := sq_seq I1 hq
    refine enum_of (begins_of p its) sq fun hN ie io kk2 => wpAny_pyIter_enum ie ?_
    have I2 : Inv X pins σ H1 { s0 with heap := hN } := I1.kept (t' := s0.toks) kk2
    refine ⟨s0.heap.objs.size + 1, [s0.heap.objs.size + 1, s0.heap.objs.size], _, _, H1, rfl, I2, turn_e (Nat.ne_of_lt lt) (Nat.succ_ne_self _) (Nat.ne_of_gt (Nat.lt_succ_of_lt lt)), ⟨⟨.none, ie⟩, SqIt.begin io⟩, fun c hc => ?_, q1⟩
    have le : s0.heap.objs.size ≤ c := by
      have e : c = s0.heap.objs.size + 1 ∨ c = s0.heap.objs.size := by simpa using hc
      rcases e with z | z
      · rw [z]; exact Nat.le_add_right _ _
      · rw [z]; exact Nat.le_refl _
    exact I1.fpOk le (I1.hok.fresh le)
end CE

namespace CL
open PySem PySem.Spec PyProof.Rows L2
/-! ### set(l) of a list of ints -/
section
variable {pg : Program} {wo : World} {Ar : Around} {Ee : Value → Shared → Prop} {t : Shared}
set_option maxRecDepth 100000 in
set_option maxHeartbeats 3200000 in
theorem set_of_list {l : Addr} {its : Array Value} (ns : List Int) {Qe : Value → Shared → Prop} (calm : Ar.handled = none) (isl : t.heap.IsList l its) (intsA : IntsAre its.toList ns) (few : ns.length + 1 < scanBound)
    (goal : ∀ (hN : Heap) (k c : Nat), SetR wo hN t.heap.objs.size (fun j => decide (j ∈ ns)) c → c ≤ ns.length → (∀ b ob, t.heap.get? b = some ob → hN.get? b = some ob) → Qe (.ref t.heap.objs.size) { t with heap := hN, toks := k }) :
    wpAny (model pg wo) Ar (call (.type "set") [.ref l]) Qe Ee t := by
  have len : its.size = ns.length := by
    have z := IntsAre.length intsA
    rw [Array.length_toList] at z
    exact z
  obtain ⟨cc, tail, mro⟩ := PySem.F.called_set.mro
  have made := PySem.F.called_set.made
  have sub := PySem.F.called_set.sub
  refine wpAny_call (codeAny_of_tree ?_)
  show wpAny _ _ (callAny (.type "set") _) _ _ _
  refine wpAny_pure ⟨Code.quiet_builtin _ (by decide +kernel), codeAny_builtin PySem.F.entry_type_call ?_⟩
  rw [Around.under_plain (weight_type_call_type "set" [.ref l] []) rfl]
  have noType := PySem.F.called_set.notType
  have creates := PySem.F.called_set.canCreate
  have checked := PySem.F.typeCall_set_1 (.ref l)
  repeat (any_goals (first | assumption | wp_step))
  refine codeAny_mono (code_set_led1 (.ref l) (E := Ee) (Q₁ := fun ob t1 => ob = .ref t.heap.objs.size ∧ t1 = { t with heap := t.heap.push { cls := .type "set", dict := none, data := .set #[] 0 (.fresh 0 0 (!wo.params.followText "set-order")) } }) ⟨rfl, rfl⟩) fun r t1 hr => ?_
  cases r with
  | error e => exact hr
  | ok fl =>
    cases fl with
    | ret ob =>
      obtain ⟨rfl, rfl⟩ := hr
      have hS : (t.heap.push { cls := .type "set", dict := none, data := .set #[] 0 (.fresh 0 0 (!wo.params.followText "set-order")) }).get? t.heap.objs.size = some { cls := .type "set", dict := none, data := .set #[] 0 (.fresh 0 0 (!wo.params.followText "set-order")) } := Heap.get?_push_size _ rfl
      have tS : Shared.TypeIs { t with heap := t.heap.push { cls := .type "set", dict := none, data := .set #[] 0 (.fresh 0 0 (!wo.params.followText "set-order")) } } (.ref t.heap.objs.size) "set" := ⟨_, hS, rfl⟩
      have ini := PySem.F.called_set.init.lookup
      have bnd := PySem.F.called_set.init.bind (.ref t.heap.objs.size)
      repeat (any_goals (first | assumption | wp_step))
      refine codeAny_mono (codeAny_call_builtin (R := wants (fun r t2 => r = .none ∧ ∃ hN k c, t2 = { t with heap := hN, toks := k } ∧ SetR wo hN t.heap.objs.size (fun j => decide (j ∈ ns)) c ∧ c ≤ ns.length ∧
          (∀ b ob, t.heap.get? b = some ob → hN.get? b = some ob)) Ee) PySem.F.called_set.init.plain PySem.F.entry_set_init (check_set_init_1 tS ?_)) fun r2 t2 hr2 => ?_
      · obtain ⟨ol, hol, hcl, nl, hdl⟩ := id isl
        obtain ⟨ocls, odict, odata, oslots⟩ := ol
        simp only at hcl hdl
        subst hcl
        subst hdl
        have hol2 : (t.heap.push { cls := .type "set", dict := none, data := .set #[] 0 (.fresh 0 0 (!wo.params.followText "set-order")) }).get? l = some { cls := .type "list", dict := odict, data := .seq its nl, slots := oslots } := Heap.get?_push_of_some _ hol
        have s1 := PySem.F.sub_list_set
        have s2 := PySem.F.sub_list_frozenset
        have nd : (Value.type "list" == Value.type "dict") = false := by decide
        have isl2 : (t.heap.push { cls := .type "set", dict := none, data := .set #[] 0 (.fresh 0 0 (!wo.params.followText "set-order")) }).IsList l its := ⟨_, hol2, rfl, nl, rfl⟩
        unfold Builtin.«set.__init__» noKeywords Builtin.Frozenset.updateFrom
        generalize hPI : pyIter = PIt
        wp_walk
        subst hPI
        refine wpAny_pyIter_list isl2 ?_
        refine wpAny_bind (wpAny_runValue ?_)
        have lS : l < t.heap.objs.size := Heap.lt_size hol
        have calm3 : Ar.in1.in1.in1.handled = none := by simp [calm]
        have neI : l ≠ (t.heap.push { cls := .type "set", dict := none, data := .set #[] 0 (.fresh 0 0 (!wo.params.followText "set-order")) }).objs.size := by
          rw [Heap.size_push]
          exact Nat.ne_of_lt (Nat.lt_succ_of_lt lS)
        have notF : t.heap.objs.size ∉ [(t.heap.push { cls := .type "set", dict := none, data := .set #[] 0 (.fresh 0 0 (!wo.params.followText "set-order")) }).objs.size, l] := by
          rw [Heap.size_push]
          simp only [List.mem_cons, List.not_mem_nil, or_false, not_or]
          exact ⟨Nat.ne_of_lt (Nat.lt_succ_self _), Nat.ne_of_gt lS⟩
        have vals : ∀ (i : Nat) (v : Value), its[i]? = some v → ∃ k u, ns[i]? = some k ∧ v = .int k u := fun i v hv => by
          have hi : i < ns.length := by
            rw [← len]
            exact (Array.getElem?_eq_some_iff.mp hv).1
          obtain ⟨u, e⟩ := PyProof.Rows.IntsAre.int_at intsA i v (by rw [Array.getElem?_toList]; exact hv)
          refine ⟨ns[i], u, List.getElem?_eq_getElem hi, ?_⟩
          rw [e, List.getD_eq_getElem?_getD, List.getElem?_eq_getElem hi] <;> rfl
        refine set_update_ints ((Walks.list calm3 _ l neI its).toS) t.heap.objs.size notF ns len few vals (its.size - 0) 0 _ (by omega) (Nat.zero_le _) ⟨⟨_, Heap.get?_push_size _ rfl, rfl, rfl⟩, (isl2.push _)⟩ ?first ?last
        case first =>
          exact ⟨0, Nat.le_refl 0, setR_new_at (Heap.get?_push_of_some _ hS)⟩
        case last =>
          intro t3 c3 mv hc3 hS3
          obtain ⟨hN, g3, d3, k3, os3⟩ := t3
          obtain rfl : g3 = t.gens := mv.gens
          obtain rfl : d3 = t.drawn := mv.drawn
          obtain rfl : os3 = t.os := mv.os
          show wpAny _ _ _ _ _ _
          refine wpAny_pure ?_
          show wpAny _ _ (ret Value.none) _ _ _
          rw [len] at hc3
          refine wpAny_pure ⟨rfl, hN, k3, c3, rfl, hS3, hc3, fun b ob e => ?_⟩
          have b0 : b < t.heap.objs.size := Heap.lt_size e
          have b2 : b ≠ (t.heap.push { cls := .type "set", dict := none, data := .set #[] 0 (.fresh 0 0 (!wo.params.followText "set-order")) }).objs.size := by
            rw [Heap.size_push]
            exact Nat.ne_of_lt (Nat.lt_succ_of_lt b0)
          exact mv.heap b ob (by simp only [List.mem_cons, List.not_mem_nil, or_false, not_or]; exact ⟨Nat.ne_of_lt b0, b2⟩) (Heap.get?_push_of_some _ (Heap.get?_push_of_some _ e))
      · cases r2 with
        | error e => exact hr2
        | ok fl2 =>
          cases fl2 with
          | ret r =>
            obtain ⟨rfl, hN, k, c2, rfl, hS2, hc2, hk2⟩ := hr2
            repeat (any_goals (first | assumption | wp_step))
            exact goal _ _ _ hS2 hc2 hk2
          | _ => exact hr2.elim
    | _ => exact hr.elim
end
/-- set(l), l a list of ints -/
def rSetI (K : PySem.W.Frag) (w : World) : List V → Hp → VK → Prop := fun vs H Q => ∃ (a : Addr) (ns : List Int), vs = [V.ref a] ∧ SqL K H a (ns.map V.int) ∧ ns.length + 1 < scanBound ∧ ∀ p c, H p = none → c ≤ ns.length → Q (.ref p) (upd H p (SetO w p (fun j => decide (j ∈ ns)) c))
theorem call_setI {X : Cx} (hc : X.calm = true) : CallR X (.type "set") (rSetI X.K X.w) := by
  intro pins s σ H vs us Q I r h
  obtain ⟨a, ns, rfl, hl, few, q⟩ := h
  rw [Vals.ref1 r]
  obtain ⟨its, rv, pl, _⟩ := I.list hl
  refine set_of_list ns (I.ok.hd hc) pl.isList (by rw [List.toList_toArray]; exact intsAre_of rv) few fun hN k c new hcl keep => ?_
  exact ⟨.ref _, upd H s.heap.objs.size (SetO X.w s.heap.objs.size (fun j => decide (j ∈ ns)) c), I.laid (t' := k) keep (Nat.le_refl _) (setO_new new), rfl, q _ c (I.hok.fresh (Nat.le_refl _)) hcl⟩
end CL

namespace CS
open PySem PySem.Spec PyProof.Rows L2
/-! ### more rules beside the layer's -/
section
variable {X : Cx}
/-- o.f as a target -/
def gFld (K : PySem.W.Frag) (to : TE) (f : Str) : TG := fun v σ H Q => to σ H fun x H1 => ∃ a C dx fs, x = .ref a ∧ H1 a = some (.ins C dx fs) ∧ Cls K C ∧ NoAttr K C f ∧ fs.length < 1000 ∧ Q σ (upd H1 a (.ins C dx (putF f v fs)))
theorem pg_fld {o : Expr} {f : Str} {pos : Pos} {to : TE} (ho : PE X o to) : PG X (.Attribute o f pos) (gFld X.K to f) := by
  refine ⟨fun pins s σ H v u Q I r h => ?_⟩
  rw [assign_Attribute]
  refine wpAny_bind (wpAny_holding (thn (ho.run pins s σ H _ I h) fun ov s1 ⟨x, H1, I1, r1, a, C, dx, fs, ex, ea, c, n, l, q⟩ => ?_))
  subst ex
  obtain rfl : ov = Value.ref a := r1
  refine wpAny_bind (wpAny_standAt (wpAny_bind (wpAny_holding (setattr_ok I1 ea c n l r fun s3 I3 => ?_))))
  exact wpAny_release ⟨σ, _, I3, q⟩
theorem pe_fldK {e : Expr} {f : Str} {pos : Pos} {ta : TE} (K : PySem.W.Frag) (hk : X.K = K) (he : PE X e ta) (hb : attributeBase e f X.env (eval e X.env) = eval e X.env) : PE X (.Attribute e f pos) (tFld K ta f) := by
  subst hk
  exact pe_fld he hb
def rLenQ (K : PySem.W.Frag) : List V → Hp → VK → Prop := fun xs H Q => ∃ p ys, xs = [.ref p] ∧ (SqL K H p ys ∨ SqT K H p ys) ∧ Q (.int ys.length) H
def rListQ (K : PySem.W.Frag) : List V → Hp → VK → Prop := fun xs H Q => ∃ p ys, xs = [.ref p] ∧ (SqL K H p ys ∨ SqT K H p ys) ∧ ∀ l, H l = none → Q (.ref l) (upd H l (.lst ys))
def rTupleQ (K : PySem.W.Frag) : List V → Hp → VK → Prop := fun xs H Q => ∃ p ys, xs = [.ref p] ∧ ((SqL K H p ys ∧ ∀ l, H l = none → Q (.ref l) (upd H l (.tup ys))) ∨ (SqT K H p ys ∧ Q (.ref p) H))
/-- // by a divisor of either sign -/
def CDivNW (_ j : Int) : Prop := j ≠ 0 ∧ j.natAbs.log2 < 9000
theorem op_fdivNW : OpR X (binaryOp .FloorDiv) (rI CDivNW fun i j => .int (i.fdiv j)) := opI fun _ _ _ _ _ _ _ hc q => floordiv_int hc.1 q (.inl (PyProof.noPylong_of_log2 hc.2))
theorem wide_divN {i j : Int} {b : Nat} (h : j ≠ 0) (hb : j.natAbs < 2 ^ b) (h0 : 0 < b) (h9 : b ≤ 9000) : CDivNW i j := ⟨h, Nat.lt_of_lt_of_le (PySem.Flt.log2_lt_of h0 hb) h9⟩
theorem kit_self {K : PySem.W.Frag} {C : Addr} : PySem.W.kitOne K (.ref C) (.ref C) = some true := by
  unfold PySem.W.kitOne
  rw [if_pos (by simp)]
theorem pe_revLK {e : Expr} {te : TE} {k : Nat} {p1 p2 p3 pos : Pos} (K : PySem.W.Frag) (hk : X.K = K) (he : PE X e te) : PE X (.Subscript e (.Slice none none (some (.UnaryOp .USub (.Constant (.int 1) k p1) p2)) p3) pos) (tRevL K te) := by
  subst hk
  exact pe_revL he
/-- x in s, a list or a tuple of data -/
def rInQ (K : PySem.W.Frag) : R2 := fun x y H Q => ∃ d ds, Dp K H x d ∧ (Dp K H y (.list ds) ∨ Dp K H y (.tuple ds)) ∧ SeqAt.shaped d = true ∧ SeqAt.shaped (.list ds) = true ∧ Q (.bl (ds.any fun z => PyData.eqv z d)) H
def rNotInQ (K : PySem.W.Frag) : R2 := fun x y H Q => ∃ d ds, Dp K H x d ∧ (Dp K H y (.list ds) ∨ Dp K H y (.tuple ds)) ∧ SeqAt.shaped d = true ∧ SeqAt.shaped (.list ds) = true ∧ Q (.bl (!ds.any fun z => PyData.eqv z d)) H
theorem op_inQ (hu : X.A.units + 65 < cLine) : OpR X (compareOp .In) (rInQ X.K) := by
  intro pins s σ H x y v u Q I rx ry h
  obtain ⟨d, ds, hd, he, sd, se, q⟩ := h
  obtain ⟨as, r1⟩ := Dp.reads I d x v hd rx
  rcases he with he | he
  · obtain ⟨bs, r2⟩ := Dp.reads I (.list ds) y u he ry
    exact SeqAt.in_list_reads r2 r1 (SeqAt.canLay_of_shaped se) (SeqAt.canLay_of_shaped sd) (room_in_shaped sd hu) ⟨.bl _, H, I, rfl, q⟩
  · obtain ⟨bs, r2⟩ := Dp.reads I (.tuple ds) y u he ry
    exact SeqAt.in_tuple_reads r2 r1 (SeqAt.canLay_of_shaped se) (SeqAt.canLay_of_shaped sd) (room_in_shaped sd hu) ⟨.bl _, H, I, rfl, q⟩
theorem op_notInQ (hu : X.A.units + 65 < cLine) : OpR X (compareOp .NotIn) (rNotInQ X.K) := by
  intro pins s σ H x y v u Q I rx ry h
  obtain ⟨d, ds, hd, he, sd, se, q⟩ := h
  obtain ⟨as, r1⟩ := Dp.reads I d x v hd rx
  rcases he with he | he
  · obtain ⟨bs, r2⟩ := Dp.reads I (.list ds) y u he ry
    exact SeqAt.notIn_list_reads r2 r1 (SeqAt.canLay_of_shaped se) (SeqAt.canLay_of_shaped sd) (room_in_shaped sd hu) ⟨.bl _, H, I, rfl, q⟩
  · obtain ⟨bs, r2⟩ := Dp.reads I (.tuple ds) y u he ry
    exact SeqAt.notIn_tuple_reads r2 r1 (SeqAt.canLay_of_shaped se) (SeqAt.canLay_of_shaped sd) (room_in_shaped sd hu) ⟨.bl _, H, I, rfl, q⟩
end
end CS

-- dictcomps
namespace CD
open PySem PySem.Spec PyProof.Rows L2
/-- d[key] = v where the key is a tuple, within a comprehension -/
theorem putT {X : Cx} {pins : List (Addr × Obj)} {σ : L2.St} {H : Hp} {s : Shared} {E : Value → Shared → Prop} {D b : Addr} {kvs : List (List L2.Key × V)} {k : List L2.Key} {v : V} {r : Value} {Q : Unit → Shared → Prop} (hu : X.A.units + 1 < cLine)
    (I : Inv X pins σ H s) (hD : H D = some (.dT kvs)) (hz : kvs.length < sizeLine) (hb : H b = some (.tup (k.map kV))) (rv : RelV v r) (h : ∀ s2, Inv X pins σ (upd H D (.dT (putK kvs k v))) s2 → Q () s2) : wpAny (model X.prog X.w) X.A (dictSet D (.ref b) r) Q E s := by
  obtain ⟨z, hd, xs, rel, dd⟩ := dt_of I.hok hD
  have l1 : xs.length ≤ sizeLine := Paired.length rel ▸ z
  have l2 : (putK kvs k v).length ≤ sizeLine := Nat.le_trans (length_putK kvs k v) hz
  have hroom : (tupleKind (mixKind X.prog X.w)).room X.A := Nat.lt_of_succ_lt hu
  refine wpAny_dictSet_heap (hsz := l1) hroom (key_of I.hok hb) dd fun g dg sb => h _ ?_
  obtain ⟨q, es, ep, hq, c2, c3, c4, _, c5⟩ := dg
  refine d_write I (by rw [hD]; exact True.intro) sb ⟨q, hq⟩ ⟨l2, hd, _, (rel.put k hb rv).keeps (fun c ys ec => ?_), q, es, ep, hq, c2, c3, c4, c5⟩
  rw [upd_ne (ne_of ec hD (fun z => nomatch z))]
  exact ec
section
variable {X : Cx}
/-- {k: v for target in iter if ..} where the keys are tuples -/
def tDcT (wi : TI) (g : TG) (tt : TT) (tk tv : TE) (vs : List Nat) : TE := fun σ H Q => wi σ H fun J H1 => ∀ D, H1 D = none → ∃ W : Nat → Nat → Hp → Prop, (∃ m, W 0 m (upd H1 D (.dT []))) ∧ ∀ i m H, W i m H →
  (J.stop i H ∧ Q (.ref D) H) ∨ (J.go i H ∧ ∃ Nx : Hp → Prop, (∀ H', Nx H' → ∃ m', m' < m ∧ W (i + 1) m' H') ∧ ∀ x H', J.yld i H x H' → g x (wipe σ vs) H' fun σ2 H2 => wipe σ2 vs = wipe σ vs ∧ tt σ2 H2 fun b H3 =>
    if b = true then tk σ2 H3 fun y H4 => tv σ2 H4 fun z H5 => ∃ kvs k b, y = .ref b ∧ H5 b = some (.tup (k.map kV)) ∧ H5 D = some (.dT kvs) ∧ kvs.length < sizeLine ∧ Nx (upd H5 D (.dT (putK kvs k z))) else Nx H3)
theorem dcT_run {pins : List (Addr × Obj)} {s : Shared} {σ : L2.St} {H : Hp} {Q : VK} {kx vx tg iter : Expr} {ifs : List Expr} {scope : Scope} {own : List (Str × Nat)} {pos pos' : Pos} {wi : TI} {g : TG} {tt : TT} {tk tv : TE} {use : Option (Value → Sem Unit)} {Qf : Value → Shared → Prop}
    (hu : X.A.units + 1 < cLine) (calm : X.calm = true) (nod : X.N.Nodup) (I : Inv X pins σ H s) (hi : PI X tg iter wi) (ok : BlkOk X.N X.env.scope scope own)
    (gg : ∀ (s : Shared) (H : Hp) (C : Addr) (cl : List (Str × Addr)) (fp : List Addr), PG (X.blk s H scope (compEnvC scope cl C X.env) fp) tg g)
    (gt : ∀ (s : Shared) (H : Hp) (C : Addr) (cl : List (Str × Addr)) (fp : List Addr), PTs (X.blk s H scope (compEnvC scope cl C X.env) fp) ifs tt)
    (gk : ∀ (s : Shared) (H : Hp) (C : Addr) (cl : List (Str × Addr)) (fp : List Addr), PE (X.blk s H scope (compEnvC scope cl C X.env) fp) kx tk)
    (gv : ∀ (s : Shared) (H : Hp) (C : Addr) (cl : List (Str × Addr)) (fp : List Addr), PE (X.blk s H scope (compEnvC scope cl C X.env) fp) vx tv) (fold : ∀ x, foldedSetIterable iter X.env x = pure x)
    (h : tDcT wi g tt tk tv (own.map (·.2)) σ H Q)
    (post : ∀ D C s' m H', Inv X pins σ H' s' → Q (.ref D) H' → s'.heap.Ns C m → FpOk X pins H' C → compPost (model X.prog X.w) X.A X.xe use Qf (.ref D) C (.ok .next) s') :
    wpAny (model X.prog X.w) X.A (comprehension (.DictComp kx vx [⟨tg, iter, ifs, 0⟩] scope pos) scope X.env pos' newDict false (eval iter X.env) use) Qf X.xe s := by
  have hasC : ∀ y ∈ scope.names, y.2 = .free → ∃ c, X.env.cells.lookup y.1 = some c := fun y hy e => I.ok.has _ (ok.free y hy e)
  refine wpAny_comprehension_free (use := use) rfl fold (closure_ok hasC) ok.kind (fun y hy e => by rw [ok.uniq y hy, e]) (thn (hi.run pins s σ H _ I h) fun xv s1 hx => thn hx fun itv s2 h2 => ?_)
  obtain ⟨it, fp, tn, J, H2, rfl, I2, T, at2, free2, q⟩ := h2
  refine wpAny_newObj_type (newEnv_comp ?_)
  generalize eD : s2.heap.objs.size = D
  have newD : H2 D = none := I2.hok.fresh (Nat.le_of_eq eD)
  obtain ⟨W, ⟨m0, w0⟩, turn⟩ := q D newD
  generalize es3 : ({ s2 with heap := s2.heap.push { cls := .type "dict", data := .dict #[] } } : Shared) = s3
  have hp3 : s3.heap = s2.heap.push { cls := .type "dict", data := .dict #[] } := by rw [← es3]
  generalize eH3 : upd H2 D (.dT []) = H3
  have I3 : Inv X pins σ H3 s3 := by
    subst es3 eH3
    refine I2.laid (t' := s2.toks) (fun b o e => Heap.get?_push_of_some _ e) (Nat.le_of_eq eD) ?_
    subst eD
    exact dt_empty s2.heap I2.big
  have low : ∀ b ∈ fp, b < s2.heap.objs.size := fun b hb => let ⟨_, e, _⟩ := T.obj _ _ at2 b hb; Heap.lt_size e
  have free3 : ∀ b ∈ fp, FpOk X pins H3 b ∧ b < s3.heap.objs.size := fun b hb => by
    have lt := low b hb
    refine ⟨⟨?_, (free2 b hb).2⟩, by rw [hp3, Heap.size_push]; exact Nat.lt_succ_of_lt lt⟩
    rw [← eH3, upd_ne (by rw [← eD]; exact Nat.ne_of_lt lt)]
    exact (free2 b hb).1
  have at3 : tn 0 s3.heap := T.keep _ _ _ at2 fun b _ o e => hp3 ▸ Heap.get?_push_of_some _ e
  have I4 := block_start I3 ok nod free3
  generalize eC : s3.heap.objs.size = C at I4
  generalize ecl : cellsFrom (C + 1) scope.names (cloFrom X.env.cells scope.names []) = cl at I4
  have pg := gg s3 H3 C cl fp
  have pt := gt s3 H3 C cl fp
  have pk := gk s3 H3 C cl fp
  have pv := gv s3 H3 C cl fp
  have none3 : ∀ b ∈ fp, H3 b = none := fun b hb => (free3 b hb).1.1
  subst ecl eC
  generalize ece : compEnvC scope (cellsFrom (s3.heap.objs.size + 1) scope.names (cloFrom X.env.cells scope.names [])) s3.heap.objs.size X.env = ce at I4 pg pt pk pv
  have loc : ce.locals = s3.heap.objs.size := by subst ece; rfl
  generalize es4 : ({ s3 with heap := pushCells (s3.heap.push { cls := .type "dict", data := .dict #[] }) scope.names } : Shared) = s4 at I4
  have at4 : tn 0 s4.heap := T.keep _ _ _ at3 fun b _ o e => es4 ▸ pushCells_keeps _ _ _ _ (Heap.get?_push_of_some _ e)
  have wEq : W 0 m0 H3 := eH3 ▸ w0
  have quiet : ∀ {τ : L2.St} {G : Hp} {t : Shared}, Inv (X.blk s3 H3 scope ce fp) [] τ G t → (∀ b ∈ fp, G b = none) → ∀ b ∈ fp, FpOk (X.blk s3 H3 scope ce fp) [] G b := fun {τ G t} J hn b hb =>
    ⟨hn b hb, (J.ok.exf b hb).1, J.ok.exfs b hb, .inl hb, (J.ok.exf b hb).2, fun p hp => absurd (show p ∈ ([] : List (Addr × Obj)) ++ [] from hp) (by simp)⟩
  have run : codeAny (model X.prog X.w) X.A (.compLoop (.DictComp kx vx [⟨tg, iter, ifs, 0⟩] scope pos) 0 (.ref it) (.ref D) ce) (compPost (model X.prog X.w) X.A X.xe use Qf (.ref D) s3.heap.objs.size) s4 := by
    refine compLoop_anyD (fun n t => ∃ i G, Inv (X.blk s3 H3 scope ce fp) [] (wipe σ (own.map (·.2))) G t ∧ tn i t.heap ∧ (∀ b ∈ fp, G b = none) ∧ W i n G) ?_ m0 ⟨0, H3, I4, at4, none3, wEq⟩
    rintro n t5 ⟨i, G5, I5, at5, n5, w5⟩
    rcases turn i n G5 w5 with ⟨stop, qq⟩ | ⟨go, Nx, hNx, step⟩
    · refine thnF (T.done (X.blk s3 H3 scope ce fp) rfl rfl rfl calm i [] t5 _ G5 (fun _ _ => False) I5 (quiet I5 n5) at5 stop) fun r t6 ⟨er, I6⟩ => ?_
      subst er
      have I7 : Inv X pins σ G5 t6 := I3.call' (ch := fp) I6.os I6.base I6.hok I6.bare fun b hb => let z := (free3 b hb).1.2; ⟨z.2.2.1, z.1, z.2.2.2.1, z.2.2.2.2⟩
      have nC : G5 s3.heap.objs.size = none := loc ▸ (show G5 ce.locals = none from I6.free)
      obtain ⟨m, hn, _⟩ := I6.loc
      replace hn : t6.heap.Ns s3.heap.objs.size m := loc ▸ (show t6.heap.Ns ce.locals m from hn)
      exact post D s3.heap.objs.size t6 m G5 I7 qq hn (I3.fpOk (Nat.le_refl _) nC)
    · refine thnF (T.item (X.blk s3 H3 scope ce fp) rfl rfl rfl calm i [] t5 _ G5 (fun _ _ => False) I5 (quiet I5 n5) at5 go) fun r t6 ⟨u, er, h6⟩ => ?_
      subst er
      refine thnF h6 fun _ t7 ⟨x, G7, I7, r7, y7, at7, n7⟩ => ?_
      refine thnF (pg.run _ t7 _ G7 x u _ (I7.pinned (quiet I7 n7) (T.obj _ _ at7)) r7 (step x G7 y7)) fun _ t8 ⟨σ8, G8, I8, hw, q8⟩ => ?_
      refine thnF (pt.run _ t8 σ8 G8 _ I8 q8) fun b t9 ⟨G9, I9, q9⟩ => ?_
      have fin : ∀ {t : Shared} {G : Hp}, Inv (X.blk s3 H3 scope ce fp) ([] ++ pinsAt fp t7.heap) σ8 G t → Nx G → ∃ m, m < n ∧ ∃ j G2, Inv (X.blk s3 H3 scope ce fp) [] (wipe σ (own.map (·.2))) G2 t ∧ tn j t.heap ∧ (∀ b ∈ fp, G2 b = none) ∧ W j m G2 := fun {t G} IG nx => by
        obtain ⟨m2, lt, w2⟩ := hNx G nx
        have stay : ∀ b ∈ fp, ∀ o, t7.heap.get? b = some o → t.heap.get? b = some o ∧ G b = none := fun b hb o e => ⟨(IG.pin (b, o) (List.mem_append_right _ (List.mem_append_right _ (mem_pinsAt hb e)))).1, (IG.pin (b, o) (List.mem_append_right _ (List.mem_append_right _ (mem_pinsAt hb e)))).2.1⟩
        have len : (wipe σ (own.map (·.2))).length = σ8.length := by rw [← hw, wipe_length]
        refine ⟨m2, lt, i + 1, G, (IG.unpinned (pins := [])).weak len (fun j v e => (wipe_some (hw ▸ e)).1), T.keep _ _ _ at7 fun b hb o e => (stay b hb o e).1, fun b hb => ?_, w2⟩
        obtain ⟨o, e, _⟩ := T.obj _ _ at7 b hb
        exact (stay b hb o e).2
      cases b with
      | false =>
        rw [if_neg Bool.false_ne_true] at q9 ⊢
        exact fin I9 q9
      | true =>
        rw [if_pos rfl] at q9 ⊢
        refine thnF (pk.run _ t9 σ8 G9 _ I9 q9) fun z ta ⟨yk, Ga, Ia, ra, qa⟩ => ?_
        refine thnF (pv.run _ ta σ8 Ga _ Ia qa) fun z2 tb ⟨yv, Gb, Ib, rb, kvs, k, bb, ek, hbb, hDb, hz, nx⟩ => ?_
        subst ek
        cases (show z = Value.ref bb from ra)
        exact putT (X := X.blk s3 H3 scope ce fp) hu Ib hDb hz hbb rb fun tc Ic => fin Ic nx
  subst ece
  exact codeAny_compStart_dict run (T.self X.A 0 _ _ _ at4 run)
theorem pe_dcT {kx vx tg iter : Expr} {ifs : List Expr} {scope : Scope} {own : List (Str × Nat)} {pos : Pos} {wi : TI} {g : TG} {tt : TT} {tk tv : TE} (hu : X.A.units + 1 < cLine) (calm : X.calm = true) (nod : X.N.Nodup) (hi : PI X tg iter wi) (ok : BlkOk X.N X.env.scope scope own)
    (gg : ∀ (s : Shared) (H : Hp) (C : Addr) (cl : List (Str × Addr)) (fp : List Addr), PG (X.blk s H scope (compEnvC scope cl C X.env) fp) tg g)
    (gt : ∀ (s : Shared) (H : Hp) (C : Addr) (cl : List (Str × Addr)) (fp : List Addr), PTs (X.blk s H scope (compEnvC scope cl C X.env) fp) ifs tt)
    (gk : ∀ (s : Shared) (H : Hp) (C : Addr) (cl : List (Str × Addr)) (fp : List Addr), PE (X.blk s H scope (compEnvC scope cl C X.env) fp) kx tk)
    (gv : ∀ (s : Shared) (H : Hp) (C : Addr) (cl : List (Str × Addr)) (fp : List Addr), PE (X.blk s H scope (compEnvC scope cl C X.env) fp) vx tv) (fold : ∀ x, foldedSetIterable iter X.env x = pure x := by intro _; rfl) :
    PE X (.DictComp kx vx [⟨tg, iter, ifs, 0⟩] scope pos) (tDcT wi g tt tk tv (own.map (·.2))) := by
  refine ⟨fun pins s σ H Q I h => ?_⟩
  rw [arm_eval_DictComp]
  refine dcT_run hu calm nod I hi ok gg gt gk gv fold h fun D C t m G IG q hn f => ⟨m, hn, fun g2 sb => ?_⟩
  exact ⟨.ref D, G, IG.turned (t' := t.toks) (fun b o hb e => (sb.2 b hb).trans e) f.1 f.2.1 f.2.2.2.1 f.2.2.2.2.1 f.2.2.2.2.2, rfl, q⟩
end
/-- over anything that is walked: the keys and values are known from the start -/
theorem dcT_it {J : It} {n : Nat} {G : Hp → Prop} {Y : Nat → Hp → V → Hp → Prop} (w : Walk J n G Y) {g : TG} {tt : TT} {tk tv : TE} {vs : List Nat} {σ : L2.St} {H1 : Hp} {D : Addr} {Qd : Hp → Prop} (Pv : Nat → Hp → Prop) (h0 : Pv 0 (upd H1 D (.dT []))) (hl : ∀ i H, i ≤ n → Pv i H → G H)
    (hs : ∀ i x H H2, i < n → Pv i H → Y i H x H2 → g x (wipe σ vs) H2 fun σ2 H3 => wipe σ2 vs = wipe σ vs ∧ tt σ2 H3 fun b H4 =>
      if b = true then tk σ2 H4 fun y H5 => tv σ2 H5 fun z H6 => ∃ kvs k b, y = .ref b ∧ H6 b = some (.tup (k.map kV)) ∧ H6 D = some (.dT kvs) ∧ kvs.length < sizeLine ∧ Pv (i + 1) (upd H6 D (.dT (putK kvs k z))) else Pv (i + 1) H4)
    (hd : ∀ H, Pv n H → Qd H) :
    ∃ W : Nat → Nat → Hp → Prop, (∃ m, W 0 m (upd H1 D (.dT []))) ∧ ∀ i m H, W i m H →
      (J.stop i H ∧ Qd H) ∨ (J.go i H ∧ ∃ Nx : Hp → Prop, (∀ H', Nx H' → ∃ m', m' < m ∧ W (i + 1) m' H') ∧ ∀ x H', J.yld i H x H' → g x (wipe σ vs) H' fun σ2 H2 => wipe σ2 vs = wipe σ vs ∧ tt σ2 H2 fun b H3 =>
        if b = true then tk σ2 H3 fun y H4 => tv σ2 H4 fun z H5 => ∃ kvs k b, y = .ref b ∧ H5 b = some (.tup (k.map kV)) ∧ H5 D = some (.dT kvs) ∧ kvs.length < sizeLine ∧ Nx (upd H5 D (.dT (putK kvs k z))) else Nx H3) := by
  refine ⟨fun i m H => m = n - i ∧ i ≤ n ∧ Pv i H, ⟨n, rfl, Nat.zero_le _, h0⟩, ?_⟩
  rintro i m H ⟨rfl, hi, p⟩
  have q := hl i H hi p
  by_cases c : i < n
  · exact .inr ⟨w.goes i H c q, Pv (i + 1), fun H2 p2 => ⟨n - (i + 1), by omega, rfl, c, p2⟩, fun x H2 y => hs i x H H2 c p (w.yields i H x H2 c q y)⟩
  · obtain rfl : i = n := by omega
    exact .inl ⟨w.stops H q, hd H p⟩
/-- kvs with the pairs of more put in -/
def mergeT (kvs more : List (List L2.Key × V)) : List (List L2.Key × V) := more.foldl (fun acc p => putK acc p.1 p.2) kvs
theorem mergeT_len (kvs : List (List L2.Key × V)) : ∀ more : List (List L2.Key × V), (mergeT kvs more).length ≤ kvs.length + more.length := fun more => by
  induction more generalizing kvs with
  | nil => exact Nat.le_refl _
  | cons p r ih =>
    have a := ih (putK kvs p.1 p.2)
    have b := length_putK kvs p.1 p.2
    simp only [mergeT, List.foldl_cons, List.length_cons] at *
    omega
theorem KT.merge {H : Hp} : ∀ {more : List (List L2.Key × V)} {ys : List (List L2.Key × Addr × Value)} {kvs : List (List L2.Key × V)} {xs : List (List L2.Key × Addr × Value)}, KT H more ys → KT H kvs xs → KT H (mergeT kvs more) (storedAllH xs ys)
  | _, _, _, _, .nil, h => h
  | (k, v) :: _, (k2, b, u) :: _, kvs, xs, .cons ⟨e, hb, rv⟩ t, h => by
    obtain rfl : k = k2 := e
    exact KT.merge (kvs := putK kvs k v) (xs := storedH xs k b u) t (h.put k hb rv)
section
variable {X : Cx}
/-- d.update(e), both keyed by tuples -/
def rUpdT : V → List V → Hp → VK → Prop := fun x xs H Q => ∃ (a b : Addr) (kvs more : List (List L2.Key × V)), x = .ref a ∧ xs = [.ref b] ∧ a ≠ b ∧ H a = some (.dT kvs) ∧ H b = some (.dT more) ∧ (kvs ≠ [] ∨ more = []) ∧ kvs.length + more.length ≤ sizeLine ∧ Q .non (upd H a (.dT (mergeT kvs more)))
theorem mt_updT (hu : X.A.units + 1 < cLine) : MtR X "dict.update" rUpdT := by
  intro pins s σ H x xs v us Q I rx rxs h
  obtain ⟨a, b, kvs, more, rfl, rfl, ne, ha, hb, nn, le, q⟩ := h
  cases rx
  cases rxs with
  | cons r1 r2 =>
    cases r1
    cases r2
    obtain ⟨z, hd, xs1, rel, dd⟩ := dt_of I.hok ha
    obtain ⟨z2, hd2, xs2, rel2, dd2⟩ := dt_of I.hok hb
    have l1 : kvs.length = xs1.length := Paired.length rel
    have l2 : more.length = xs2.length := Paired.length rel2
    refine call_update_dictH (tupleKind_room_in1 hu) ne hd2 dd dd2 (nn.imp (fun nn e => nn (List.length_eq_zero_iff.mp (by rw [l1, e]; rfl))) fun e => (by
      have e2 : xs2 = [] := List.length_eq_zero_iff.mp (by rw [← l2, e]; rfl)
      rw [e2]
      exact ⟨(fun x hx => by cases hx), .nil⟩)) (by omega) fun h' dd' _ hs => ?_
    obtain ⟨o, es, ep, hq, h2, h3, h4, _, h5⟩ := dd'
    refine ⟨.non, _, d_write (ob := .dT (mergeT kvs more)) (t' := s.toks) I (by rw [ha]; exact True.intro) hs ⟨o, hq⟩ ⟨Nat.le_trans (mergeT_len kvs more) le, hd, _, (KT.merge rel2 rel).keeps (fun c ys ec => (by rw [upd_ne (ne_of ec ha (fun z => nomatch z))]; exact ec)), o, es, ep, hq, h2, h3, h4, h5⟩, rfl, q⟩
end
end CD

namespace CD
open PySem PySem.Spec PyProof.Rows L2
/-- the view d.values() -/
def valsO (p d : Addr) : HO := .ext fun h => h.IsValuesView p d
theorem DTpget {α β : Type} {F : α → β → Prop} : ∀ {l₁ : List α} {l₂ : List β} {j : Nat} {x : β}, Paired F l₁ l₂ → l₂[j]? = some x → ∃ y, l₁[j]? = some y ∧ F y x
  | _, _, _, _, .nil, h => by simp at h
  | _, _, 0, _, .cons r _, h => ⟨_, rfl, by obtain rfl := Option.some.inj h; exact r⟩
  | _, _, j + 1, _, .cons _ t, h => DTpget (j := j) t h
section
variable {X : Cx}
def rValuesT : V → List V → Hp → VK → Prop := fun x xs H Q => ∃ (a : Addr) (kvs : List (List L2.Key × V)), x = .ref a ∧ xs = [] ∧ H a = some (.dT kvs) ∧ ∀ p, H p = none → Q (.ref p) (upd H p (valsO p a))
theorem mt_valuesT : MtR X "dict.values" rValuesT := by
  intro pins s σ H x xs v us Q I rx rxs h
  obtain ⟨a, kvs, rfl, rfl, ha, q⟩ := h
  cases rx
  cases rxs
  obtain ⟨z, hd, ys, rel, o, es, ep, ho, hx, hdat, _⟩ := dt_of I.hok ha
  have raw : s.heap.DictRaw a es ep := ⟨o, ho, hx, hdat⟩
  refine call_meetsIn PySem.F.slot_dict_values raw.typeIs PySem.F.entry_dict_values (PySem.F.args_dict_values_1 _) (meets_dict_values_raw a hd) ⟨⟨es, ep, raw⟩, ?_⟩
  have new : ObjOk X.prog X.w (upd H s.heap.objs.size (valsO s.heap.objs.size a)) (s.heap.push { cls := .type "dict_values", data := .fields #[.ref a] }) s.heap.objs.size (valsO s.heap.objs.size a) :=
    ⟨⟨_, Heap.get?_push_size _ rfl, rfl, rfl⟩, ⟨_, Heap.get?_push_size _ rfl⟩, fun h1 h2 y k => let ⟨u, hu, r⟩ := y; ⟨u, k u hu, r⟩⟩
  exact ⟨.ref s.heap.objs.size, _, I.laid (t' := s.toks) (fun b u e => Heap.get?_push_of_some _ e) (Nat.le_refl _) new, rfl, q _ (I.hok.fresh (Nat.le_refl _))⟩
/-- max(d.values()), whole numbers -/
def rMaxT : List V → Hp → VK → Prop := fun xs H Q => ∃ (p a : Addr) (kvs : List (List L2.Key × V)) (is : List Int), xs = [.ref p] ∧ H p = some (valsO p a) ∧ H a = some (.dT kvs) ∧ kvs.map (·.2) = is.map V.int ∧ is ≠ [] ∧ ∀ m, m ∈ is → (∀ j ∈ is, j ≤ m) → Q (.int m) H
theorem cr_maxT (calm : X.calm = true) : CallR X (.builtin "max") rMaxT := by
  intro pins s σ H xs us Q I r h
  obtain ⟨p, a, kvs, is, rfl, hp, ha, hv, hne, q⟩ := h
  rw [Vals.ref1 r]
  obtain ⟨z, hd, ys, rel, o, es, ep, ho, hx, hdat, hes, _⟩ := dt_of I.hok ha
  have raw : s.heap.DictRaw a es ep := ⟨o, ho, hx, hdat⟩
  have view : s.heap.IsValuesView p a := (show ObjOk X.prog X.w H s.heap p (valsO p a) from I.hok p _ hp).1
  have l1 : es.size = ys.length := by rw [← Array.length_toList, hes, List.length_map]
  have l2 : kvs.length = ys.length := Paired.length rel
  have l3 : is.length = kvs.length := by
    have := congrArg List.length hv
    rw [List.length_map, List.length_map] at this
    exact this.symm
  have hval : ∀ (i : Nat) (v : Value), (∃ hi : i < es.size, v = es[i].val) → ∃ t, v = Value.int (is.getD i 0) t := fun i v ⟨hi, e⟩ => by
    subst e
    have iy : i < ys.length := by omega
    have e1 : es[i] = entryOfKey (tupleKind (mixKind X.prog X.w)) ys[i] := by
      have : es.toList[i]? = some es[i] := by rw [Array.getElem?_toList, Array.getElem?_eq_getElem hi]
      rw [hes, List.getElem?_map, List.getElem?_eq_getElem iy] at this
      exact (Option.some.inj this).symm
    obtain ⟨y, hy, f1, f2, f3⟩ := DTpget rel (List.getElem?_eq_getElem iy)
    have e2 : (kvs.map (·.2))[i]? = some y.2 := by rw [List.getElem?_map, hy]; rfl
    rw [hv, List.getElem?_map] at e2
    obtain ⟨j, hj, e3⟩ := Option.map_eq_some_iff.mp e2
    rw [← e3] at f3
    obtain ⟨t, f3⟩ := f3
    refine ⟨t, ?_⟩
    rw [e1, List.getD_eq_getElem?_getD, hj]
    exact f3
  refine call_max_walk (wpAny_pyIter_values_raw view raw ?_)
  generalize hI : s.heap.objs.size = it
  have al : a < s.heap.objs.size := Heap.lt_size ho
  generalize hh : s.heap.push { cls := .type "dict_valueiterator", data := .fields #[.ref a, .int 0 0, .int es.size 0, .int ep 0] } = h2
  have keep : ∀ b u, s.heap.get? b = some u → h2.get? b = some u := fun b u e => hh ▸ Heap.get?_push_of_some _ e
  have raw2 : h2.DictRaw a es ep := ⟨o, keep _ _ ho, hx, hdat⟩
  have at2 : h2.get? it = some { cls := .type "dict_valueiterator", data := .fields #[.ref a, .int 0 0, .int es.size 0, .int ep 0] } := by rw [← hh, ← hI]; exact Heap.get?_push_size _ rfl
  have sz2 : h2.objs.size = it + 1 := by rw [← hh, Heap.size_push, hI]
  have nea : a ≠ it := by rw [← hI]; exact Nat.ne_of_lt al
  refine ⟨it, _, _, _, _, _, _, rfl, Walks.rawValues (A := X.A.in1) (I.ok.hd calm) it a nea es ep, ⟨⟨_, at2, rfl, rfl⟩, raw2⟩, fun b hb => ?_, by have := List.length_pos_iff.mpr hne; omega, CmpOf.ints_gt (fun i => is.getD i 0) hval, fun v h3 tk hP hk => ?_⟩
  · show b < h2.objs.size
    rw [sz2]
    rcases List.mem_cons.mp hb with e | hb
    · rw [e]
      exact Nat.lt_succ_self _
    · rw [List.mem_singleton.mp hb, ← hI]
      exact Nat.lt_succ_of_lt al
  · obtain ⟨t, rfl⟩ := hval _ v hP
    obtain ⟨b1, b2⟩ := argBest_gt (fun i => is.getD i 0) (es.size - 1)
    have inb : argBest (fun i j => decide (is.getD i 0 > is.getD j 0)) (es.size - 1) < is.length := by
      have := List.length_pos_iff.mpr hne
      omega
    refine ⟨.int _, H, I.kept (t' := tk) fun b u e => hk b u (fun hm => ?_) (keep b u e), ⟨t, rfl⟩, q _ ?_ fun j hj => ?_⟩
    · have e1 : b = it := List.mem_singleton.mp hm
      have e2 := Heap.lt_size e
      rw [e1, hI] at e2
      exact absurd e2 (Nat.lt_irrefl _)
    · rw [List.getD_eq_getElem?_getD, List.getElem?_eq_getElem inb]
      exact List.getElem_mem inb
    · obtain ⟨i, hi⟩ := List.mem_iff_getElem?.mp hj
      have il := (List.getElem?_eq_some_iff.mp hi).1
      have := b2 i (by omega)
      rw [List.getD_eq_getElem?_getD, hi] at this
      exact this
end
end CD

namespace CD
open PySem PySem.Spec PyProof.Rows L2
/-- a slice's part that may be None -/
def tPartO (t : TE) : TO := fun σ H Q => t σ H fun x H1 => (x = .non ∧ Q none H1) ∨ ∃ i, x = .int i ∧ Q (some i) H1
theorem po_opt {X : Cx} {e : Expr} {te : TE} (h : PE X e te) : PO X (some e) (tPartO te) := by
  refine ⟨fun pins s σ H Q I hw => ?_⟩
  rw [evalPart_some]
  refine thn (h.run pins s σ H _ I hw) fun u s1 ⟨x, H1, I1, r1, q1⟩ => ?_
  rcases q1 with ⟨rfl, q⟩ | ⟨i, rfl, q⟩
  · obtain rfl : u = Value.none := r1
    exact ⟨none, H1, I1, .none, q⟩
  · obtain ⟨t, rfl⟩ := r1
    exact ⟨some i, H1, I1, .int i t, q⟩
end CD

namespace CD
open PySem PySem.Spec PyProof.Rows L2
/-! ### dict(xs) of a list of pairs whose keys are tuples -/
def PrT (H : Hp) (x : V) (kv : List L2.Key × V) : Prop := ∃ p b, x = V.ref p ∧ H p = some (.tup [.ref b, kv.2]) ∧ H b = some (.tup (kv.1.map kV))
section
variable {X : Cx}
def rDictT (K : PySem.W.Frag) : List V → Hp → VK → Prop := fun xs H Q => ∃ (a : Addr) (ps : List V) (kvs : List (List L2.Key × V)), xs = [.ref a] ∧ SqL K H a ps ∧ Paired (PrT H) ps kvs ∧ ∀ d, H d = none → Q (.ref d) (upd H d (.dT (mergeT [] kvs)))
theorem pairs_ofT {pins : List (Addr × Obj)} {σ : L2.St} {H : Hp} {s : Shared} (I : Inv X pins σ H s) : ∀ {ps : List V} {us : List Value} {kvs : List (List L2.Key × V)}, Paired (PrT H) ps kvs → Vals ps us →
    ∃ ys : List (List L2.Key × Addr × Value), KT H kvs ys ∧ ys.length = us.length ∧ ∀ (j : Nat) (y : List L2.Key × Addr × Value), ys[j]? = some y → ∃ p, us[j]? = some (Value.ref p) ∧ s.heap.IsTuple p #[.ref y.2.1, y.2.2]
  | _, _, _, .nil, r => by
    cases r
    exact ⟨[], .nil, rfl, fun j q e => by simp at e⟩
  | _, _, _, .cons (a := x) (b := kv) h t, r => by
    obtain ⟨p, b, rfl, hp, hb⟩ := h
    cases r with
    | cons r1 r2 =>
      cases r1
      obtain ⟨ys, rk, hl, hh⟩ := pairs_ofT I t r2
      obtain ⟨its, rv, ht, _⟩ := I.tuple (SqT.of hp)
      obtain ⟨u, y, ei, ru, ry⟩ := vals2 rv
      subst ei
      cases ru
      refine ⟨(kv.1, b, y) :: ys, .cons ⟨rfl, hb, ry⟩ rk, by rw [List.length_cons, List.length_cons, hl], fun j q e => ?_⟩
      cases j with
      | zero =>
        obtain rfl := Option.some.inj e
        obtain ⟨o, ho, hc, n, hd⟩ := ht
        exact ⟨p, rfl, o, ho, hc, n, hd⟩
      | succ j =>
        obtain ⟨p2, e1, e2⟩ := hh j q (by simpa using e)
        exact ⟨p2, by simpa using e1, e2⟩
theorem call_dictT (hcalm : X.calm = true) (hu : X.A.units + 65 < cLine) : CallR X (.type "dict") (rDictT X.K) := by
  intro pins s σ H xs us Q I r q
  obtain ⟨a, ps, kvs, rfl, hq, hp, q⟩ := q
  obtain ⟨u, rfl, rx⟩ := vals1 r
  cases rx
  obtain ⟨its, rv, pl, hz⟩ := I.list hq
  obtain ⟨ys, rk, hl, hpr⟩ := pairs_ofT I hp rv
  obtain ⟨o, n, ho, hc, hd, hdat⟩ := pl
  let Ts : Nat → Addr := fun j => match its[j]? with
    | some (.ref p) => p
    | _ => 0
  let prs : List (Value × Value) := ys.map fun y => (Value.ref y.2.1, y.2.2)
  have lp : prs.length = its.length := by simp [prs, hl]
  have hTs : ∀ {j : Nat} {p : Addr}, its[j]? = some (.ref p) → Ts j = p := fun {j p} e => by
    show (match its[j]? with | some (.ref p) => p | _ => 0) = p
    rw [e]
  have P := PairArg.list (prog := X.prog) (w := X.w) a its.toArray Ts prs
  have ok : PlainSeq "list" s.heap a its.toArray ∧ PairItems s.heap its.toArray Ts prs := by
    refine ⟨⟨o, n, ho, hc, hd, hdat⟩, by rw [List.size_toArray, lp], fun j k v e => ?_⟩
    have e2 : (ys.map fun y => (Value.ref y.2.1, y.2.2))[j]? = some (k, v) := e
    rw [List.getElem?_map] at e2
    obtain ⟨y, hy, ey⟩ := Option.map_eq_some_iff.mp e2
    obtain ⟨p, h1, h2⟩ := hpr j y hy
    obtain ⟨rfl, rfl⟩ := Prod.mk.inj ey
    rw [hTs h1]
    exact ⟨by simpa using h1, .inl h2⟩
  have hroom : (tupleKind (mixKind X.prog X.w)).room X.A.in1.in1 := by
    show X.A.units + 1 + 1 < cLine
    omega
  have keyed : ∀ x ∈ ys, (tupleKind (mixKind X.prog X.w)).is s.heap x.1 x.2.1 := by
    clear hpr P ok hl lp q hp
    intro x hx
    obtain ⟨i, hi⟩ := List.mem_iff_getElem?.mp hx
    induction rk generalizing i with
    | nil => cases hx
    | cons h t ih =>
      rcases List.mem_cons.mp hx with rfl | hx2
      · obtain ⟨h1, h2, _⟩ := h
        exact key_of I.hok (by rw [← h1]; exact h2)
      · obtain ⟨i2, hi2⟩ := List.mem_iff_getElem?.mp hx2
        exact ih hx2 i2 hi2
  refine call_dict_pairsH (knd := tupleKind (mixKind X.prog X.w)) (ps := ys) P (I.ok.hd hcalm) hroom ok ⟨by simp [prs], fun i key v e => ?_⟩ (fun h' hk x hx => ?_) (by rw [lp, ← rv.length]; exact hz) fun h' tk dd k => ?_
  · have e2 : (ys.map fun y => (Value.ref y.2.1, y.2.2))[i]? = some (key, v) := e
    rw [List.getElem?_map] at e2
    obtain ⟨⟨y1, y2, y3⟩, hy, ey⟩ := Option.map_eq_some_iff.mp e2
    obtain ⟨rfl, rfl⟩ := Prod.mk.inj ey
    exact ⟨y1, y2, hy, rfl⟩
  · exact tupleKind_stays.stays (fun b o vs n e _ => hk b o (Nat.ne_of_lt (Heap.lt_size e)) (by simp) e) (keyed x hx)
  · have hm : (s.heap.objs.size == sysModules) = false := beq_eq_false_iff_ne.mpr (Nat.ne_of_gt I.big)
    have fr : H s.heap.objs.size = none := I.hok.fresh (Nat.le_refl _)
    have hlen : (mergeT [] kvs).length ≤ sizeLine := by
      have h1 := mergeT_len [] kvs
      have h2 : kvs.length = ys.length := Paired.length rk
      rw [List.length_nil, h2, hl] at h1
      have : its.length ≤ sizeLine := by rw [← rv.length]; exact hz
      omega
    obtain ⟨o2, es, ep, hq2, h2, h3, h4, _, h5⟩ := dd
    refine ⟨.ref s.heap.objs.size, upd H s.heap.objs.size (.dT (mergeT [] kvs)), I.laid (t' := tk) (fun b o e => k b o (by simp) e) (Nat.le_refl _) (show ObjOk X.prog X.w _ _ _ (.dT (mergeT [] kvs)) from ⟨hlen, hm, storedAllH [] ys, (KT.merge rk .nil).keeps (fun c zs ec => by rw [upd_ne (ne_of_none ec fr)]; exact ec), o2, es, ep, hq2, h2, h3, h4, h5⟩), rfl, q _ fr⟩
end
end CD

-- dictcomps
namespace CD
open PySem PySem.Spec PyProof.Rows L2
/-! ### d != {} -/
section
variable {prog : Program} {w : World} {A : Around} {E : Value → Shared → Prop} {s : Shared}
theorem same_empty {nm : String} {a b : Addr} {es es2 : Array DictEntry} {ep ep2 : Nat} {Q : Bool → Shared → Prop} (ha : (a == sysModules) = false) (hb : (b == sysModules) = false)
    (da : s.heap.DictRaw a es ep) (db : s.heap.DictRaw b es2 ep2) (h0 : es2.size = 0) (h : Q (es.size == 0) s) : wpAny (model prog w) A (Builtin.Dict.samePairs nm a b) Q E s := by
  obtain ⟨oa, hoa, _, hda⟩ := da
  obtain ⟨ob, hob, _, hdb⟩ := db
  unfold Builtin.Dict.samePairs Builtin.Dict.showsAll
  rw [if_neg (show ¬ (a == sysModules) = true by rw [ha]; exact Bool.false_ne_true), if_neg (show ¬ (b == sysModules) = true by rw [hb]; exact Bool.false_ne_true)]
  refine wpAny_bind (wpAny_pure (wpAny_bind (wpAny_pure ?_)))
  refine wpAny_bind (wpAny_dictEntries hoa hda ?_)
  dsimp only
  refine wpAny_bind (wpAny_dictEntries hob hdb ?_)
  by_cases hsz : es.size = 0
  case neg =>
    rw [if_pos (by simpa [h0] using hsz)]
    have hbf : (es.size == 0) = false := by simpa using hsz
    rw [hbf] at h
    exact wpAny_bind (wpAny_rule (wpAny_pure h))
  case pos =>
    rw [hsz] at h
    rw [if_neg (by rw [hsz, h0]; simp)]
    refine wpAny_bind (wpAny_dictEpoch hoa hda ?_)
    refine wpAny_bind ?_
    rw [Std.Legacy.Range.forIn_eq_forIn_range']
    simp only [Std.Legacy.Range.size, Nat.sub_zero, Nat.add_sub_cancel, Nat.div_one]
    refine wpAny_forIn_list _ (fun rest q s' => s' = s ∧ q = (none, ()) ∧ rest = []) _ ?_ ?_ _ _ ⟨rfl, rfl, by rw [hsz]; rfl⟩
    · rintro x rest q s' ⟨_, _, hr⟩
      cases hr
    · rintro q s' ⟨rfl, rfl, _⟩
      exact wpAny_pure h
end
section
variable {X : Cx}
def rNeE : R2 := fun x y H Q => ∃ (a b : Addr) (kvs : List (List L2.Key × V)), x = .ref a ∧ y = .ref b ∧ H a = some (.dT kvs) ∧ H b = some (.dK []) ∧ Q (.bl (!decide (kvs = []))) H
theorem op_neE (hu : X.A.units + 65 < cLine) : OpR X (compareOp .NotEq) rNeE := by
  intro pins s σ H x y v u Q I rx ry h
  obtain ⟨a, b, kvs, rfl, rfl, ea, eb, q⟩ := h
  obtain rfl : v = Value.ref a := rx
  obtain rfl : u = Value.ref b := ry
  obtain ⟨z, hd, xs, rel, o, es, ep, ho, hx, hdat, hes, hxs, hnod⟩ := dt_of I.hok ea
  have raw : s.heap.DictRaw a es ep := ⟨o, ho, hx, hdat⟩
  obtain ⟨_, yb, vb, rb, db⟩ := (show ObjOk X.prog X.w H s.heap b (.dK []) from I.hok b _ eb)
  have lb : vb = [] := by
    have := rb.length
    cases vb with
    | nil => rfl
    | cons _ _ => cases this
  subst lb
  obtain ⟨ob, es2, ep2, hob, hcb, hdb, hkb, hpb, _⟩ := id db
  have raw2 : s.heap.DictRaw b es2 ep2 := ⟨ob, hob, hcb, hdb⟩
  have h0 : es2.size = 0 := by
    have := hpb.length
    rw [List.length_nil] at this
    rw [← Array.length_toList]
    exact this
  have l1 : es.size = xs.length := by rw [← Array.length_toList, hes, List.length_map]
  have l2 : kvs.length = xs.length := Paired.length rel
  refine wpAny_richCompare_same_room (op := .NotEq) raw.typeIs raw2.typeIs PySem.F.slot_dict_ne (wpAny_call_entry PySem.F.slot_dict_ne raw.typeIs PySem.F.entry_dict_ne ?_ (PySem.F.args_dict_ne_2 _ _)) (by omega)
  show wpAny _ _ (Builtin.Dict.dictSlotArgs "__ne__" ⟨[.ref a, .ref b], []⟩ >>= _) _ _ s
  refine wpAny_bind ?_
  unfold Builtin.Dict.dictSlotArgs
  refine wpAny_bind (wpAny_notOrdered_dict raw.typeIs ?_)
  show wpAny _ _ (pure (Value.ref a, Value.ref b)) _ _ s
  refine wpAny_pure ?_
  refine wpAny_bind (wpAny_isInstance (T := "dict") raw2.typeIs PySem.F.sub_dict_dict ?_)
  simp only [Bool.not_true, Bool.false_eq_true, if_false]
  refine wpAny_bind (wpAny_pure (wpAny_bind (wpAny_pure ?_)))
  refine wpAny_bind (same_empty hd yb raw raw2 h0 ?_)
  refine wpAny_pure ⟨_, rfl, ?_, ?_⟩
  · exact fun x => nomatch x
  · have e : (es.size == 0) = decide (kvs = []) := by
      rw [l1, ← l2]
      cases kvs <;> simp
    rw [e]
    exact fin_bl I q (by simp)
end
end CD

-- dictcomps
namespace CD
open PySem PySem.Spec PyProof.Rows L2
/-! ### for k, v in d.items(): d with tuples for keys -/
section
variable {X : Cx} {pins : List (Addr × Obj)} {σ : L2.St} {H : Hp} {s : Shared} {d : Addr} {o : Obj}
theorem frzT2 {kvs : List (List L2.Key × V)} (I : Inv X pins σ H s) (h : H d = some (.frz o (.dT kvs))) :
    (d == sysModules) = false ∧ s.heap.get? d = some o ∧ o.ExactDict ∧ ∃ (es : Array DictEntry) (ep : Nat), o.data = .dict es ep ∧ es.size = kvs.length ∧
      ∀ (i : Nat) (k : List L2.Key) (v : V), kvs[i]? = some (k, v) → ∃ (en : DictEntry) (q : Addr), es[i]? = some en ∧ en.key = .ref q ∧ H q = some (.tup (k.map kV)) ∧ RelV v en.val := by
  obtain ⟨hd, z, hs, xs, pr, o', es, ep, ho, hx, hdt, he, _⟩ := I.hok d _ h
  rw [hd] at ho
  cases ho
  refine ⟨hs, hd, hx, es, ep, hdt, ?_, fun i k v e => ?_⟩
  · have l1 : es.size = xs.length := size_of_entries he
    have l2 : kvs.length = xs.length := Paired.length pr
    omega
  · obtain ⟨b, hb, e1, e2, e3⟩ := paired_get pr e
    have q := entry_at he i
    rw [hb] at q
    exact ⟨_, b.2.1, q, rfl, e2, e3⟩
end
def Itit (d : Addr) (o : Obj) (kvs : List (List L2.Key × V)) : It :=
  ⟨fun i H => H d = some (.frz o (.dT kvs)) ∧ i < kvs.length, fun i H x H' => ∃ (T q : Addr) (k : List L2.Key) (v : V), kvs[i]? = some (k, v) ∧ x = .ref T ∧ H T = none ∧ H q = some (.tup (k.map kV)) ∧ H' = upd H T (.tup [.ref q, v]), fun i H => H d = some (.frz o (.dT kvs)) ∧ kvs.length ≤ i⟩
theorem walk_itemsT {d : Addr} {o : Obj} {kvs : List (List L2.Key × V)} : Walk (Itit d o kvs) kvs.length (fun H => H d = some (.frz o (.dT kvs)))
    (fun i H x H' => ∃ (T q : Addr) (k : List L2.Key) (v : V), kvs[i]? = some (k, v) ∧ x = .ref T ∧ H T = none ∧ H q = some (.tup (k.map kV)) ∧ H' = upd H T (.tup [.ref q, v])) :=
  ⟨fun _ _ hi q => ⟨q, hi⟩, fun _ q => ⟨q, Nat.le_refl _⟩, fun _ _ _ _ _ _ y => y⟩
theorem turn_itemsT {P : Program} {w : World} {K : PySem.W.Frag} {d : Addr} {o : Obj} {es : Array DictEntry} {ep : Nat} {kvs : List (List L2.Key × V)} {elts : List Expr} {kk : Nat} {tpos : Pos} (it : Addr) (hod : o.data = .dict es ep) :
    Turn P w K (.Tuple elts kk tpos) (Itit d o kvs) [it] it (fun i h => ∃ ok ov, IsItemIter h it d i kvs.length ep ok ov) where
  mem := by simp
  obj := fun i h st b hb => by
    have e : b = it := by simpa using hb
    subst e
    obtain ⟨ok, ov, e⟩ := st
    exact ⟨_, e, fun v z => nomatch z⟩
  keep := fun i h h' st k => let ⟨ok, ov, e⟩ := st; ⟨ok, ov, k it (by simp) _ e⟩
  item := by
    intro X hP hw hK hc i pins s σ H E I hf st hg
    subst hP hw hK
    obtain ⟨hd, hi⟩ := hg
    obtain ⟨hs, hgd, hx, es', ep', hdt, hsz, ent⟩ := frzT2 I hd
    obtain ⟨rfl, rfl⟩ := dict_ep hdt hod
    obtain ⟨⟨k, v⟩, hkv⟩ : ∃ p, kvs[i]? = some p := ⟨kvs[i], List.getElem?_eq_getElem hi⟩
    obtain ⟨en, q, hen, hkey, hq, rv⟩ := ent i k v hkv
    obtain ⟨ok, ov, he⟩ := st
    rw [← hsz] at he
    have hlt : it < s.heap.objs.size := Heap.lt_size he
    have raw : s.heap.DictRaw d es ep := ⟨o, hgd, hx, hod⟩
    have hi2 : i < es.size := by omega
    have een : es[i] = en := Option.some.inj ((Array.getElem?_eq_getElem hi2).symm.trans hen)
    refine wpAny_pyNext_items_item_raw he raw hi2 fun h' ho hT hz hk => ?_
    rw [een, hkey] at ho hT
    refine ⟨_, rfl, wpAny_letOwnedTupleGo_items (s := { s with heap := h' }) ho fun h'' he' sb => ?_⟩
    have hT2 : h''.get? s.heap.objs.size = some { cls := .type "tuple", data := .seq #[.ref q, en.val] } := (sb.2 _ (Nat.ne_of_gt hlt)).trans hT
    have new : ObjOk X.prog X.w (upd H s.heap.objs.size (.tup [.ref q, v])) h'' s.heap.objs.size (.tup [.ref q, v]) :=
      ⟨by show 2 ≤ sizeLine; decide, [.ref q, en.val], .cons rfl (.cons rv .nil), ⟨_, hT2, rfl, _, rfl⟩⟩
    have I1 : Inv X pins σ (upd H s.heap.objs.size (.tup [.ref q, v])) { s with heap := h'' } :=
      I.turnedNew (t' := s.toks) (ch := [it]) (fun b ob hb e => (sb.2 b (by simpa using hb)).trans (hk b ob (by simpa using hb) e)) hf (Nat.le_refl _) new
    refine ⟨.ref s.heap.objs.size, _, I1, rfl, ⟨_, q, k, v, hkv, rfl, I.hok.fresh (Nat.le_refl _), hq, rfl⟩, ⟨.ref q, en.val, ?_⟩, fun b hb => ?_⟩
    · rw [← hsz]; exact he'
    · have e : b = it := by simpa using hb
      rw [e, upd_ne (Nat.ne_of_lt hlt)]
      exact (hf it (by simp)).1
  done := by
    intro X hP hw hK hc i pins s σ H E I hf st hg
    subst hP hw hK
    obtain ⟨hd, hi⟩ := hg
    obtain ⟨f0, f1, f2, f3, f4, f5⟩ := hf it (by simp)
    obtain ⟨hs, hgd, hx, es', ep', hdt, hsz, ent⟩ := frzT2 I hd
    obtain ⟨rfl, rfl⟩ := dict_ep hdt hod
    obtain ⟨ok, ov, he⟩ := st
    rw [← hsz] at he
    have raw : s.heap.DictRaw d es ep := ⟨o, hgd, hx, hod⟩
    exact wpAny_pyNext_items_end_raw (I.ok.hd hc) he raw (by omega) fun h' eb => ⟨rfl, I.turned (t' := s.toks) (fun b ob hb e => eb b ob hb e) f0 f1 f3 f4 f5⟩
  self := fun A i s Q E st h => let ⟨_, _, e⟩ := st; PySem.W.kcp_self e h
def iItemsT (td : TE) : TI := fun σ H R => td σ H fun x H1 => ∃ d o kvs, x = .ref d ∧ H1 d = some (.frz o (.dT kvs)) ∧ R (Itit d o kvs) H1
theorem pi_itemsT {X : Cx} {e : Expr} {td : TE} {apos cpos tpos : Pos} {elts : List Expr} {kk : Nat} (he : PE X e td) (hbase : attributeBase e "items" X.env (eval e X.env) = eval e X.env := by rfl) (hline : (apos.endLine == cpos.line) = true := by rfl) :
    PI X (.Tuple elts kk tpos) (.Call (.Attribute e "items" apos) [] [] cpos) (iItemsT td) := by
  refine ⟨fun pins s σ H R I h => ?_⟩
  refine wpAny_Call_method (T := "dict") (id := "dict.items") hbase rfl hline F.plainAttrs_dict F.slot_dict_items F.type_dict_items (thn (he.run pins s σ H _ I h) fun u s1 ⟨x, H1, I1, rx, d, o, kvs, ex, hd, q⟩ => ?_)
  subst ex
  obtain rfl : u = Value.ref d := rx
  obtain ⟨hs, hgd, hx, es, ep, hdt, hsz, ent⟩ := frzT2 I1 hd
  have raw : s1.heap.DictRaw d es ep := ⟨o, hgd, hx, hdt⟩
  refine ⟨raw.typeIs, ?_, ?_⟩
  · intro a ea
    cases ea
    exact ⟨o, hgd, hx.2.1⟩
  have I2 : Inv X pins σ H1 { s1 with heap := s1.heap.push { cls := .type "dict_items", data := .fields #[.ref d] } } := I1.kept (t' := s1.toks) fun b ob q => Heap.get?_push_of_some _ q
  have fin : wpAny (model X.prog X.w) X.A (pyIter (.ref s1.heap.objs.size)) (PIE X pins σ (.Tuple elts kk tpos) R) X.xe { s1 with heap := s1.heap.push { cls := .type "dict_items", data := .fields #[.ref d] } } := by
    refine wpAny_pyIter_items_raw (d := d) ⟨_, Heap.get?_push_size _ rfl, rfl, rfl⟩ ⟨o, Heap.get?_push_of_some _ hgd, hx, hdt⟩ (pi_one (tk := s1.toks) I2 _ (turn_itemsT _ hdt) ⟨.none, .none, ?_⟩ q)
    rw [← hsz]
    exact Heap.get?_push_size _ rfl
  show wpAny _ _ (callWith cpos (.builtin "dict.items") [.ref d] [] []) _ X.xe s1
  exact method_meetsIn F.slot_dict_items F.entry_dict_items rfl (PySem.evalArgs_none ⟨rfl, raw.typeIs, F.args_dict_items_1 _, _, meets_dict_items_raw d hs, ⟨es, ep, raw⟩, fin⟩)
end CD

-- dictcomps
namespace CD
open PySem PySem.Spec PyProof.Rows L2
/-! ### d.values() and list(d.values()), d with ints and texts for keys (behind baseY2) -/
section
variable {X : Cx}
def rValuesK : V → List V → Hp → VK → Prop := fun x xs H Q => ∃ (a : Addr) (kvs : List (L2.Key × V)), x = .ref a ∧ xs = [] ∧ H a = some (.dK kvs) ∧ ∀ p, H p = none → Q (.ref p) (upd H p (valsO p a))
theorem mt_valuesK : MtR X "dict.values" rValuesK := by
  intro pins s σ H x xs v us Q I rx rxs h
  obtain ⟨a, kvs, rfl, rfl, ha, q⟩ := h
  cases rx
  cases rxs
  obtain ⟨z, hd, vs, rel, dd⟩ := dk_of I.hok ha
  obtain ⟨es, ep, raw, _⟩ := dd.raw
  refine call_meetsIn PySem.F.slot_dict_values raw.typeIs PySem.F.entry_dict_values (PySem.F.args_dict_values_1 _) (meets_dict_values_raw a hd) ⟨⟨es, ep, raw⟩, ?_⟩
  have new : ObjOk X.prog X.w (upd H s.heap.objs.size (valsO s.heap.objs.size a)) (s.heap.push { cls := .type "dict_values", data := .fields #[.ref a] }) s.heap.objs.size (valsO s.heap.objs.size a) :=
    ⟨⟨_, Heap.get?_push_size _ rfl, rfl, rfl⟩, ⟨_, Heap.get?_push_size _ rfl⟩, fun h1 h2 y k => let ⟨u, hu, r⟩ := y; ⟨u, k u hu, r⟩⟩
  exact ⟨.ref s.heap.objs.size, _, I.laid (t' := s.toks) (fun b u e => Heap.get?_push_of_some _ e) (Nat.le_refl _) new, rfl, q _ (I.hok.fresh (Nat.le_refl _))⟩
theorem vals_of {vs : List (L2.Key × Value)} : ∀ {kvs : List (L2.Key × V)}, KV kvs vs → Vals (kvs.map (·.2)) (vs.map (·.2)) := by
  induction vs with
  | nil => intro kvs h; cases h; exact .nil
  | cons v vs ih =>
    intro kvs h
    cases h with
    | cons r t => exact .cons r.2 (ih t)
theorem call_listVals (hcalm : X.calm = true) : CallR X (.type "list") (fun xs H Q => ∃ (p a : Addr) (kvs : List (L2.Key × V)), xs = [.ref p] ∧ H p = some (valsO p a) ∧ H a = some (.dK kvs) ∧ ∀ l, H l = none → Q (.ref l) (upd H l (.lst (kvs.map (·.2))))) := by
  intro pins s σ H xs us Q I r h
  obtain ⟨p, a, kvs, rfl, hp, ha, q⟩ := h
  rw [Vals.ref1 r]
  obtain ⟨z, hd, vs, rel, dd⟩ := dk_of I.hok ha
  obtain ⟨ep, hat⟩ := dd.dictAt
  have view : s.heap.IsValuesView p a := (show ObjOk X.prog X.w H s.heap p (valsO p a) from I.hok p _ hp).1
  have hl : kvs.length = vs.length := rel.length
  refine PySem.W.kdl_call (PySem.W.kdl_values (knd := mixKind X.prog X.w) (kvs := vs) (ep := ep) (r := p)) (I.ok.hd hcalm) ⟨view, hat⟩ (by rw [← hl]; exact z) fun h' tk acc c' hk hD hacc => ?_
  have hv : acc.toList = vs.map (·.2) := PySem.W.kdl_vals_eq acc.toList (by rw [Array.length_toList]; exact hacc.1) fun j v e => hacc.2 j v (by rw [← Array.getElem?_toList]; exact e)
  refine ⟨.ref s.heap.objs.size, upd H s.heap.objs.size (.lst (kvs.map (·.2))), I.laid (t' := tk) hk (Nat.le_refl _)
    (show ObjOk X.prog X.w _ _ _ (.lst (kvs.map (·.2))) from ⟨by rw [List.length_map]; exact z, acc.toList, c', by rw [hv]; exact vals_of rel, by rw [Array.toArray_toList]; exact hD⟩), rfl, q _ (I.hok.fresh (Nat.le_refl _))⟩
end
end CD

namespace CS
open PySem PySem.Spec PyProof.Rows L2
def top (i : Nat) : Stmt := PySem.Challenge.pw_calledseats_k45_witnesses_that_explain_d.main.body.getD i (.Pass ⟨0, 0, 0, 0⟩)
abbrev s_wall : Stmt := top 0
abbrev N_wall : List Str := ["k"]
theorem sc_wall : FnScope N_wall ["k"] (defScope s_wall) := ⟨rfl, rfl, rfl, by decide +kernel, rfl, by decide +kernel, by decide +kernel⟩
abbrev s_is_integer : Stmt := top 10
abbrev N_is_integer : List Str := ["value"]
theorem sc_is_integer : FnScope N_is_integer ["value"] (defScope s_is_integer) := ⟨rfl, rfl, rfl, by decide +kernel, rfl, by decide +kernel, by decide +kernel⟩
abbrev s_is_at_least : Stmt := top 11
abbrev N_is_at_least : List Str := ["value", "low"]
theorem sc_is_at_least : FnScope N_is_at_least ["value", "low"] (defScope s_is_at_least) := ⟨rfl, rfl, rfl, by decide +kernel, rfl, by decide +kernel, by decide +kernel⟩
abbrev s_is_between : Stmt := top 12
abbrev N_is_between : List Str := ["value", "low", "high"]
theorem sc_is_between : FnScope N_is_between ["value", "low", "high"] (defScope s_is_between) := ⟨rfl, rfl, rfl, by decide +kernel, rfl, by decide +kernel, by decide +kernel⟩
abbrev s_greatest_common_divisor : Stmt := top 13
abbrev N_greatest_common_divisor : List Str := ["first", "second"]
theorem sc_greatest_common_divisor : FnScope N_greatest_common_divisor ["first", "second"] (defScope s_greatest_common_divisor) := ⟨rfl, rfl, rfl, by decide +kernel, rfl, by decide +kernel, by decide +kernel⟩
abbrev s_Table_init : Stmt := inClass (top 17) 0
abbrev N_Table_init : List Str := ["self", "rings", "size"]
theorem sc_Table_init : FnScope N_Table_init ["self", "rings"] (defScope s_Table_init) := ⟨rfl, rfl, rfl, by decide +kernel, rfl, by decide +kernel, by decide +kernel⟩
abbrev s_Table_sizes : Stmt := inClass (top 17) 1
abbrev N_Table_sizes : List Str := ["self"]
theorem sc_Table_sizes : FnScope N_Table_sizes ["self"] (defScope s_Table_sizes) := ⟨rfl, rfl, rfl, by decide +kernel, rfl, by decide +kernel, by decide +kernel⟩
abbrev s_Table_count : Stmt := inClass (top 17) 2
abbrev N_Table_count : List Str := ["self", "product", "size"]
theorem sc_Table_count : FnScope N_Table_count ["self"] (defScope s_Table_count) := ⟨rfl, rfl, rfl, by decide +kernel, rfl, by decide +kernel, by decide +kernel⟩
abbrev s_Table_is_seat : Stmt := inClass (top 17) 3
abbrev N_Table_is_seat : List Str := ["self", "value", "place", "size"]
theorem sc_Table_is_seat : FnScope N_Table_is_seat ["self", "value"] (defScope s_Table_is_seat) := ⟨rfl, rfl, rfl, by decide +kernel, rfl, by decide +kernel, by decide +kernel⟩
abbrev s_Table_is_call : Stmt := inClass (top 17) 4
abbrev N_Table_is_call : List Str := ["self", "value", "one"]
theorem sc_Table_is_call : FnScope N_Table_is_call ["self", "value"] (defScope s_Table_is_call) := ⟨rfl, rfl, rfl, by decide +kernel, rfl, by decide +kernel, by decide +kernel⟩
abbrev s_Table_shifted : Stmt := inClass (top 17) 5
abbrev N_Table_shifted : List Str := ["self", "seat", "call", "factor", "place", "one", "size"]
theorem sc_Table_shifted : FnScope N_Table_shifted ["self", "seat", "call", "factor"] (defScope s_Table_shifted) := ⟨rfl, rfl, rfl, by decide +kernel, rfl, by decide +kernel, by decide +kernel⟩
abbrev s_Table_moves : Stmt := inClass (top 17) 6
abbrev N_Table_moves : List Str := ["self", "seat", "call"]
theorem sc_Table_moves : FnScope N_Table_moves ["self", "seat", "call"] (defScope s_Table_moves) := ⟨rfl, rfl, rfl, by decide +kernel, rfl, by decide +kernel, by decide +kernel⟩
abbrev s_Table_step : Stmt := inClass (top 17) 7
abbrev N_Table_step : List Str := ["self", "seat", "call", "direction", "both_seats"]
theorem sc_Table_step : FnScope N_Table_step ["self", "seat", "call", "direction"] (defScope s_Table_step) := ⟨rfl, rfl, rfl, by decide +kernel, rfl, by decide +kernel, by decide +kernel⟩
abbrev s_Table_order : Stmt := inClass (top 17) 8
abbrev N_Table_order : List Str := ["self", "seat", "least", "place", "size", "period"]
theorem sc_Table_order : FnScope N_Table_order ["self", "seat"] (defScope s_Table_order) := ⟨rfl, rfl, rfl, by decide +kernel, rfl, by decide +kernel, by decide +kernel⟩
abbrev s_Table_halves : Stmt := inClass (top 17) 9
abbrev N_Table_halves : List Str := ["self", "seat"]
theorem sc_Table_halves : FnScope N_Table_halves ["self", "seat"] (defScope s_Table_halves) := ⟨rfl, rfl, rfl, by decide +kernel, rfl, by decide +kernel, by decide +kernel⟩
abbrev s_is_direction : Stmt := top 18
abbrev N_is_direction : List Str := ["value"]
theorem sc_is_direction : FnScope N_is_direction ["value"] (defScope s_is_direction) := ⟨rfl, rfl, rfl, by decide +kernel, rfl, by decide +kernel, by decide +kernel⟩
abbrev s_require_table : Stmt := top 19
abbrev N_require_table : List Str := ["table"]
theorem sc_require_table : FnScope N_require_table ["table"] (defScope s_require_table) := ⟨rfl, rfl, rfl, by decide +kernel, rfl, by decide +kernel, by decide +kernel⟩
abbrev s_require_seat : Stmt := top 20
abbrev N_require_seat : List Str := ["table", "seat"]
theorem sc_require_seat : FnScope N_require_seat ["table", "seat"] (defScope s_require_seat) := ⟨rfl, rfl, rfl, by decide +kernel, rfl, by decide +kernel, by decide +kernel⟩
abbrev s_require_call : Stmt := top 21
abbrev N_require_call : List Str := ["table", "call"]
theorem sc_require_call : FnScope N_require_call ["table", "call"] (defScope s_require_call) := ⟨rfl, rfl, rfl, by decide +kernel, rfl, by decide +kernel, by decide +kernel⟩
abbrev s_require_small : Stmt := top 22
abbrev N_require_small : List Str := ["table"]
theorem sc_require_small : FnScope N_require_small ["table"] (defScope s_require_small) := ⟨rfl, rfl, rfl, by decide +kernel, rfl, by decide +kernel, by decide +kernel⟩
abbrev s_weighted : Stmt := top 24
abbrev N_weighted : List Str := ["modulus", "weights", "seat", "weight", "place"]
theorem sc_weighted : FnScope N_weighted ["modulus", "weights", "seat"] (defScope s_weighted) := ⟨rfl, rfl, rfl, by decide +kernel, rfl, by decide +kernel, by decide +kernel⟩
abbrev s_is_move : Stmt := top 26
abbrev N_is_move : List Str := ["table", "value"]
theorem sc_is_move : FnScope N_is_move ["table", "value"] (defScope s_is_move) := ⟨rfl, rfl, rfl, by decide +kernel, rfl, by decide +kernel, by decide +kernel⟩
abbrev s_require_moves : Stmt := top 27
abbrev N_require_moves : List Str := ["table", "moves", "index", "move"]
theorem sc_require_moves : FnScope N_require_moves ["table", "moves"] (defScope s_require_moves) := ⟨rfl, rfl, rfl, by decide +kernel, rfl, by decide +kernel, by decide +kernel⟩
abbrev s_visited_seats : Stmt := top 28
abbrev N_visited_seats : List Str := ["table", "seat", "moves", "found", "call", "direction"]
theorem sc_visited_seats : FnScope N_visited_seats ["table", "seat", "moves"] (defScope s_visited_seats) := ⟨rfl, rfl, rfl, by decide +kernel, rfl, by decide +kernel, by decide +kernel⟩
abbrev s_common_exponent : Stmt := top 29
abbrev N_common_exponent : List Str := ["sizes", "exponent", "size", "odd"]
theorem sc_common_exponent : FnScope N_common_exponent ["sizes"] (defScope s_common_exponent) := ⟨rfl, rfl, rfl, by decide +kernel, rfl, by decide +kernel, by decide +kernel⟩
abbrev s_weight_rows : Stmt := top 30
abbrev N_weight_rows : List Str := ["sizes", "modulus", "found", "size", "step", "start", "weight"]
theorem sc_weight_rows : FnScope N_weight_rows ["sizes", "modulus"] (defScope s_weight_rows) := ⟨rfl, rfl, rfl, by decide +kernel, rfl, by decide +kernel, by decide +kernel⟩
abbrev s_units_of : Stmt := top 31
abbrev N_units_of : List Str := ["modulus", "unit"]
theorem sc_units_of : FnScope N_units_of ["modulus"] (defScope s_units_of) := ⟨rfl, rfl, rfl, by decide +kernel, rfl, by decide +kernel, by decide +kernel⟩
abbrev s_is_canonical : Stmt := top 32
abbrev N_is_canonical : List Str := ["modulus", "units", "weights", "shared", "weight", "unit"]
theorem sc_is_canonical : FnScope N_is_canonical ["modulus", "units", "weights"] (defScope s_is_canonical) := ⟨rfl, rfl, rfl, by decide +kernel, rfl, by decide +kernel, by decide +kernel⟩
abbrev s_explains : Stmt := top 33
abbrev N_explains : List Str := ["table", "visited", "moves", "witness", "modulus", "weights", "residue", "index", "call", "direction", "ahead"]
theorem sc_explains : FnScope N_explains ["table", "visited", "moves", "witness"] (defScope s_explains) := ⟨rfl, rfl, rfl, by decide +kernel, rfl, by decide +kernel, by decide +kernel⟩
abbrev s_consistent_witnesses : Stmt := top 34
abbrev N_consistent_witnesses : List Str := ["table", "seat", "moves", "visited", "exponent", "found", "modulus", "units", "rows", "witnesses", "weights", "residue", "witness"]
theorem sc_consistent_witnesses : FnScope N_consistent_witnesses ["table", "seat", "moves"] (defScope s_consistent_witnesses) := ⟨rfl, rfl, rfl, by decide +kernel, rfl, by decide +kernel, by decide +kernel⟩
abbrev s_law_mixed : Stmt := top 36
abbrev N_law_mixed : List Str := ["_law_cell", "_law_k", "_law_number"]
theorem sc_law_mixed : FnScope N_law_mixed ["_law_cell", "_law_k"] (defScope s_law_mixed) := ⟨rfl, rfl, rfl, by decide +kernel, rfl, by decide +kernel, by decide +kernel⟩
abbrev s_law_source : Stmt := top 37
abbrev N_law_source : List Str := ["_law_cell"]
theorem sc_law_source : FnScope N_law_source ["_law_cell"] (defScope s_law_source) := ⟨rfl, rfl, rfl, by decide +kernel, rfl, by decide +kernel, by decide +kernel⟩
abbrev s_law_take : Stmt := top 38
abbrev N_law_take : List Str := ["_law_source_here", "_law_many", "_law_found"]
theorem sc_law_take : FnScope N_law_take ["_law_source_here", "_law_many"] (defScope s_law_take) := ⟨rfl, rfl, rfl, by decide +kernel, rfl, by decide +kernel, by decide +kernel⟩
abbrev s_law_one : Stmt := top 39
abbrev N_law_one : List Str := ["_law_source_here", "_law_some"]
theorem sc_law_one : FnScope N_law_one ["_law_source_here", "_law_some"] (defScope s_law_one) := ⟨rfl, rfl, rfl, by decide +kernel, rfl, by decide +kernel, by decide +kernel⟩
abbrev s_law_rings : Stmt := top 40
abbrev N_law_rings : List Str := ["_law_source_here", "_law_limit", "_law_rings_here", "_law_total", "_law_ring", "_law_size"]
theorem sc_law_rings : FnScope N_law_rings ["_law_source_here", "_law_limit"] (defScope s_law_rings) := ⟨rfl, rfl, rfl, by decide +kernel, rfl, by decide +kernel, by decide +kernel⟩
abbrev s_law_seat : Stmt := top 41
abbrev N_law_seat : List Str := ["_law_source_here", "_law_rings_here", "_law_size"]
theorem sc_law_seat : FnScope N_law_seat ["_law_source_here", "_law_rings_here"] (defScope s_law_seat) := ⟨rfl, rfl, rfl, by decide +kernel, rfl, by decide +kernel, by decide +kernel⟩
abbrev s_law_call : Stmt := top 42
abbrev N_law_call : List Str := ["_law_source_here", "_law_rings_here", "_law_factor", "_law_size"]
theorem sc_law_call : FnScope N_law_call ["_law_source_here", "_law_rings_here"] (defScope s_law_call) := ⟨rfl, rfl, rfl, by decide +kernel, rfl, by decide +kernel, by decide +kernel⟩
abbrev s_law_moves : Stmt := top 43
abbrev N_law_moves : List Str := ["_law_source_here", "_law_rings_here", "_law_most", "_law_found", "_law_turn"]
theorem sc_law_moves : FnScope N_law_moves ["_law_source_here", "_law_rings_here", "_law_most"] (defScope s_law_moves) := ⟨rfl, rfl, rfl, by decide +kernel, rfl, by decide +kernel, by decide +kernel⟩
abbrev s_law_step : Stmt := top 44
abbrev N_law_step : List Str := ["_law_rings_here", "_law_spot", "_law_delta", "_law_sign", "_law_place", "_law_one_here", "_law_size"]
theorem sc_law_step : FnScope N_law_step ["_law_rings_here", "_law_spot", "_law_delta", "_law_sign"] (defScope s_law_step) := ⟨rfl, rfl, rfl, by decide +kernel, rfl, by decide +kernel, by decide +kernel⟩
abbrev s_law_value : Stmt := top 45
abbrev N_law_value : List Str := ["_law_modulus", "_law_weights_here", "_law_spot", "_law_weight", "_law_place"]
theorem sc_law_value : FnScope N_law_value ["_law_modulus", "_law_weights_here", "_law_spot"] (defScope s_law_value) := ⟨rfl, rfl, rfl, by decide +kernel, rfl, by decide +kernel, by decide +kernel⟩
abbrev s_law_divisor : Stmt := top 46
abbrev N_law_divisor : List Str := ["_law_first", "_law_second"]
theorem sc_law_divisor : FnScope N_law_divisor ["_law_first", "_law_second"] (defScope s_law_divisor) := ⟨rfl, rfl, rfl, by decide +kernel, rfl, by decide +kernel, by decide +kernel⟩
abbrev s_law_weights : Stmt := top 47
abbrev N_law_weights : List Str := ["_law_rings_here", "_law_modulus", "_law_found", "_law_size", "_law_some", "_law_longer", "_law_start", "_law_weight"]
theorem sc_law_weights : FnScope N_law_weights ["_law_rings_here", "_law_modulus"] (defScope s_law_weights) := ⟨rfl, rfl, rfl, by decide +kernel, rfl, by decide +kernel, by decide +kernel⟩
abbrev s_law_is_canonical : Stmt := top 48
abbrev N_law_is_canonical : List Str := ["_law_modulus", "_law_units", "_law_weights_here", "_law_shared", "_law_weight", "_law_unit"]
theorem sc_law_is_canonical : FnScope N_law_is_canonical ["_law_modulus", "_law_units", "_law_weights_here"] (defScope s_law_is_canonical) := ⟨rfl, rfl, rfl, by decide +kernel, rfl, by decide +kernel, by decide +kernel⟩
abbrev s_law_explains : Stmt := top 49
abbrev N_law_explains : List Str := ["_law_rings_here", "_law_start", "_law_played", "_law_witness_tried", "_law_modulus", "_law_weights_here", "_law_residue", "_law_here", "_law_delta", "_law_way", "_law_ahead"]
theorem sc_law_explains : FnScope N_law_explains ["_law_rings_here", "_law_start", "_law_played", "_law_witness_tried"] (defScope s_law_explains) := ⟨rfl, rfl, rfl, by decide +kernel, rfl, by decide +kernel, by decide +kernel⟩
abbrev s_law_due : Stmt := top 50
abbrev N_law_due : List Str := ["_law_rings_here", "_law_start", "_law_played", "_law_found", "_law_modulus", "_law_units", "_law_weights_here", "_law_some", "_law_unit", "_law_residue", "_law_one_here"]
theorem sc_law_due : FnScope N_law_due ["_law_rings_here", "_law_start", "_law_played"] (defScope s_law_due) := ⟨rfl, rfl, rfl, by decide +kernel, rfl, by decide +kernel, by decide +kernel⟩
abbrev s_law_large_due : Stmt := top 51
abbrev N_law_large_due : List Str := ["_law_found", "_law_modulus", "_law_residue"]
theorem sc_law_large_due : FnScope N_law_large_due [] (defScope s_law_large_due) := ⟨rfl, rfl, rfl, by decide +kernel, rfl, by decide +kernel, by decide +kernel⟩
abbrev s_law : Stmt := top 52
abbrev N_law : List Str := ["_law_script", "_law_cell", "_law_source_here", "_law_rings_here", "_law_start", "_law_played", "_law_ahead", "_law_some", "_law_due_here", "_law_found", "_law_delta", "_law_way"]
theorem sc_law : FnScope N_law ["_law_script"] (defScope s_law) := ⟨rfl, rfl, rfl, by decide +kernel, rfl, by decide +kernel, by decide +kernel⟩
/-- what the top has written -/
structure TX (K : PySem.W.Frag) (mg : Str → Option Value) where
  f_wall : Addr
  fd_wall : FuncData
  F_wall : Fun K "_wall" "_wall" s_wall f_wall fd_wall
  b_wall : Binds K fd_wall ["k"] []
  m_wall : mg "_wall" = some (.ref f_wall)
  f_is_integer : Addr
  fd_is_integer : FuncData
  F_is_integer : Fun K "is_integer" "is_integer" s_is_integer f_is_integer fd_is_integer
  b_is_integer : Binds K fd_is_integer ["value"] []
  m_is_integer : mg "is_integer" = some (.ref f_is_integer)
  f_is_at_least : Addr
  fd_is_at_least : FuncData
  F_is_at_least : Fun K "is_at_least" "is_at_least" s_is_at_least f_is_at_least fd_is_at_least
  b_is_at_least : Binds K fd_is_at_least ["value", "low"] []
  m_is_at_least : mg "is_at_least" = some (.ref f_is_at_least)
  f_is_between : Addr
  fd_is_between : FuncData
  F_is_between : Fun K "is_between" "is_between" s_is_between f_is_between fd_is_between
  b_is_between : Binds K fd_is_between ["value", "low", "high"] []
  m_is_between : mg "is_between" = some (.ref f_is_between)
  f_greatest_common_divisor : Addr
  fd_greatest_common_divisor : FuncData
  F_greatest_common_divisor : Fun K "greatest_common_divisor" "greatest_common_divisor" s_greatest_common_divisor f_greatest_common_divisor fd_greatest_common_divisor
  b_greatest_common_divisor : Binds K fd_greatest_common_divisor ["first", "second"] []
  m_greatest_common_divisor : mg "greatest_common_divisor" = some (.ref f_greatest_common_divisor)
  f_Table_init : Addr
  fd_Table_init : FuncData
  F_Table_init : Fun K "__init__" "Table.__init__" s_Table_init f_Table_init fd_Table_init
  b_Table_init : Binds K fd_Table_init ["self", "rings"] []
  f_Table_sizes : Addr
  fd_Table_sizes : FuncData
  F_Table_sizes : Fun K "sizes" "Table.sizes" s_Table_sizes f_Table_sizes fd_Table_sizes
  b_Table_sizes : Binds K fd_Table_sizes ["self"] []
  f_Table_count : Addr
  fd_Table_count : FuncData
  F_Table_count : Fun K "count" "Table.count" s_Table_count f_Table_count fd_Table_count
  b_Table_count : Binds K fd_Table_count ["self"] []
  f_Table_is_seat : Addr
  fd_Table_is_seat : FuncData
  F_Table_is_seat : Fun K "is_seat" "Table.is_seat" s_Table_is_seat f_Table_is_seat fd_Table_is_seat
  b_Table_is_seat : Binds K fd_Table_is_seat ["self", "value"] []
  f_Table_is_call : Addr
  fd_Table_is_call : FuncData
  F_Table_is_call : Fun K "is_call" "Table.is_call" s_Table_is_call f_Table_is_call fd_Table_is_call
  b_Table_is_call : Binds K fd_Table_is_call ["self", "value"] []
  f_Table_shifted : Addr
  fd_Table_shifted : FuncData
  F_Table_shifted : Fun K "shifted" "Table.shifted" s_Table_shifted f_Table_shifted fd_Table_shifted
  b_Table_shifted : Binds K fd_Table_shifted ["self", "seat", "call", "factor"] []
  f_Table_moves : Addr
  fd_Table_moves : FuncData
  F_Table_moves : Fun K "moves" "Table.moves" s_Table_moves f_Table_moves fd_Table_moves
  b_Table_moves : Binds K fd_Table_moves ["self", "seat", "call"] []
  f_Table_step : Addr
  fd_Table_step : FuncData
  F_Table_step : Fun K "step" "Table.step" s_Table_step f_Table_step fd_Table_step
  b_Table_step : Binds K fd_Table_step ["self", "seat", "call", "direction"] []
  f_Table_order : Addr
  fd_Table_order : FuncData
  F_Table_order : Fun K "order" "Table.order" s_Table_order f_Table_order fd_Table_order
  b_Table_order : Binds K fd_Table_order ["self", "seat"] []
  f_Table_halves : Addr
  fd_Table_halves : FuncData
  F_Table_halves : Fun K "halves" "Table.halves" s_Table_halves f_Table_halves fd_Table_halves
  b_Table_halves : Binds K fd_Table_halves ["self", "seat"] []
  f_is_direction : Addr
  fd_is_direction : FuncData
  F_is_direction : Fun K "is_direction" "is_direction" s_is_direction f_is_direction fd_is_direction
  b_is_direction : Binds K fd_is_direction ["value"] []
  m_is_direction : mg "is_direction" = some (.ref f_is_direction)
  f_require_table : Addr
  fd_require_table : FuncData
  F_require_table : Fun K "require_table" "require_table" s_require_table f_require_table fd_require_table
  b_require_table : Binds K fd_require_table ["table"] []
  m_require_table : mg "require_table" = some (.ref f_require_table)
  f_require_seat : Addr
  fd_require_seat : FuncData
  F_require_seat : Fun K "require_seat" "require_seat" s_require_seat f_require_seat fd_require_seat
  b_require_seat : Binds K fd_require_seat ["table", "seat"] []
  m_require_seat : mg "require_seat" = some (.ref f_require_seat)
  f_require_call : Addr
  fd_require_call : FuncData
  F_require_call : Fun K "require_call" "require_call" s_require_call f_require_call fd_require_call
  b_require_call : Binds K fd_require_call ["table", "call"] []
  m_require_call : mg "require_call" = some (.ref f_require_call)
  f_require_small : Addr
  fd_require_small : FuncData
  F_require_small : Fun K "require_small" "require_small" s_require_small f_require_small fd_require_small
  b_require_small : Binds K fd_require_small ["table"] []
  m_require_small : mg "require_small" = some (.ref f_require_small)
  f_weighted : Addr
  fd_weighted : FuncData
  F_weighted : Fun K "weighted" "weighted" s_weighted f_weighted fd_weighted
  b_weighted : Binds K fd_weighted ["modulus", "weights", "seat"] []
  m_weighted : mg "weighted" = some (.ref f_weighted)
  f_is_move : Addr
  fd_is_move : FuncData
  F_is_move : Fun K "is_move" "is_move" s_is_move f_is_move fd_is_move
  b_is_move : Binds K fd_is_move ["table", "value"] []
  m_is_move : mg "is_move" = some (.ref f_is_move)
  f_require_moves : Addr
  fd_require_moves : FuncData
  F_require_moves : Fun K "require_moves" "require_moves" s_require_moves f_require_moves fd_require_moves
  b_require_moves : Binds K fd_require_moves ["table", "moves"] []
  m_require_moves : mg "require_moves" = some (.ref f_require_moves)
  f_visited_seats : Addr
  fd_visited_seats : FuncData
  F_visited_seats : Fun K "visited_seats" "visited_seats" s_visited_seats f_visited_seats fd_visited_seats
  b_visited_seats : Binds K fd_visited_seats ["table", "seat", "moves"] []
  m_visited_seats : mg "visited_seats" = some (.ref f_visited_seats)
  f_common_exponent : Addr
  fd_common_exponent : FuncData
  F_common_exponent : Fun K "common_exponent" "common_exponent" s_common_exponent f_common_exponent fd_common_exponent
  b_common_exponent : Binds K fd_common_exponent ["sizes"] []
  m_common_exponent : mg "common_exponent" = some (.ref f_common_exponent)
  f_weight_rows : Addr
  fd_weight_rows : FuncData
  F_weight_rows : Fun K "weight_rows" "weight_rows" s_weight_rows f_weight_rows fd_weight_rows
  b_weight_rows : Binds K fd_weight_rows ["sizes", "modulus"] []
  m_weight_rows : mg "weight_rows" = some (.ref f_weight_rows)
  f_units_of : Addr
  fd_units_of : FuncData
  F_units_of : Fun K "units_of" "units_of" s_units_of f_units_of fd_units_of
  b_units_of : Binds K fd_units_of ["modulus"] []
  m_units_of : mg "units_of" = some (.ref f_units_of)
  f_is_canonical : Addr
  fd_is_canonical : FuncData
  F_is_canonical : Fun K "is_canonical" "is_canonical" s_is_canonical f_is_canonical fd_is_canonical
  b_is_canonical : Binds K fd_is_canonical ["modulus", "units", "weights"] []
  m_is_canonical : mg "is_canonical" = some (.ref f_is_canonical)
  f_explains : Addr
  fd_explains : FuncData
  F_explains : Fun K "explains" "explains" s_explains f_explains fd_explains
  b_explains : Binds K fd_explains ["table", "visited", "moves", "witness"] []
  m_explains : mg "explains" = some (.ref f_explains)
  f_consistent_witnesses : Addr
  fd_consistent_witnesses : FuncData
  F_consistent_witnesses : Fun K "consistent_witnesses" "consistent_witnesses" s_consistent_witnesses f_consistent_witnesses fd_consistent_witnesses
  b_consistent_witnesses : Binds K fd_consistent_witnesses ["table", "seat", "moves"] []
  m_consistent_witnesses : mg "consistent_witnesses" = some (.ref f_consistent_witnesses)
  f_law_mixed : Addr
  fd_law_mixed : FuncData
  F_law_mixed : Fun K "_law_mixed" "_law_mixed" s_law_mixed f_law_mixed fd_law_mixed
  b_law_mixed : Binds K fd_law_mixed ["_law_cell", "_law_k"] []
  m_law_mixed : mg "_law_mixed" = some (.ref f_law_mixed)
  f_law_source : Addr
  fd_law_source : FuncData
  F_law_source : Fun K "_law_source" "_law_source" s_law_source f_law_source fd_law_source
  b_law_source : Binds K fd_law_source ["_law_cell"] []
  m_law_source : mg "_law_source" = some (.ref f_law_source)
  f_law_take : Addr
  fd_law_take : FuncData
  F_law_take : Fun K "_law_take" "_law_take" s_law_take f_law_take fd_law_take
  b_law_take : Binds K fd_law_take ["_law_source_here", "_law_many"] []
  m_law_take : mg "_law_take" = some (.ref f_law_take)
  f_law_one : Addr
  fd_law_one : FuncData
  F_law_one : Fun K "_law_one" "_law_one" s_law_one f_law_one fd_law_one
  b_law_one : Binds K fd_law_one ["_law_source_here", "_law_some"] []
  m_law_one : mg "_law_one" = some (.ref f_law_one)
  f_law_rings : Addr
  fd_law_rings : FuncData
  F_law_rings : Fun K "_law_rings" "_law_rings" s_law_rings f_law_rings fd_law_rings
  b_law_rings : Binds K fd_law_rings ["_law_source_here", "_law_limit"] []
  m_law_rings : mg "_law_rings" = some (.ref f_law_rings)
  f_law_seat : Addr
  fd_law_seat : FuncData
  F_law_seat : Fun K "_law_seat" "_law_seat" s_law_seat f_law_seat fd_law_seat
  b_law_seat : Binds K fd_law_seat ["_law_source_here", "_law_rings_here"] []
  m_law_seat : mg "_law_seat" = some (.ref f_law_seat)
  f_law_call : Addr
  fd_law_call : FuncData
  F_law_call : Fun K "_law_call" "_law_call" s_law_call f_law_call fd_law_call
  b_law_call : Binds K fd_law_call ["_law_source_here", "_law_rings_here"] []
  m_law_call : mg "_law_call" = some (.ref f_law_call)
  f_law_moves : Addr
  fd_law_moves : FuncData
  F_law_moves : Fun K "_law_moves" "_law_moves" s_law_moves f_law_moves fd_law_moves
  b_law_moves : Binds K fd_law_moves ["_law_source_here", "_law_rings_here", "_law_most"] []
  m_law_moves : mg "_law_moves" = some (.ref f_law_moves)
  f_law_step : Addr
  fd_law_step : FuncData
  F_law_step : Fun K "_law_step" "_law_step" s_law_step f_law_step fd_law_step
  b_law_step : Binds K fd_law_step ["_law_rings_here", "_law_spot", "_law_delta", "_law_sign"] []
  m_law_step : mg "_law_step" = some (.ref f_law_step)
  f_law_value : Addr
  fd_law_value : FuncData
  F_law_value : Fun K "_law_value" "_law_value" s_law_value f_law_value fd_law_value
  b_law_value : Binds K fd_law_value ["_law_modulus", "_law_weights_here", "_law_spot"] []
  m_law_value : mg "_law_value" = some (.ref f_law_value)
  f_law_divisor : Addr
  fd_law_divisor : FuncData
  F_law_divisor : Fun K "_law_divisor" "_law_divisor" s_law_divisor f_law_divisor fd_law_divisor
  b_law_divisor : Binds K fd_law_divisor ["_law_first", "_law_second"] []
  m_law_divisor : mg "_law_divisor" = some (.ref f_law_divisor)
  f_law_weights : Addr
  fd_law_weights : FuncData
  F_law_weights : Fun K "_law_weights" "_law_weights" s_law_weights f_law_weights fd_law_weights
  b_law_weights : Binds K fd_law_weights ["_law_rings_here", "_law_modulus"] []
  m_law_weights : mg "_law_weights" = some (.ref f_law_weights)
  f_law_is_canonical : Addr
  fd_law_is_canonical : FuncData
  F_law_is_canonical : Fun K "_law_is_canonical" "_law_is_canonical" s_law_is_canonical f_law_is_canonical fd_law_is_canonical
  b_law_is_canonical : Binds K fd_law_is_canonical ["_law_modulus", "_law_units", "_law_weights_here"] []
  m_law_is_canonical : mg "_law_is_canonical" = some (.ref f_law_is_canonical)
  f_law_explains : Addr
  fd_law_explains : FuncData
  F_law_explains : Fun K "_law_explains" "_law_explains" s_law_explains f_law_explains fd_law_explains
  b_law_explains : Binds K fd_law_explains ["_law_rings_here", "_law_start", "_law_played", "_law_witness_tried"] []
  m_law_explains : mg "_law_explains" = some (.ref f_law_explains)
  f_law_due : Addr
  fd_law_due : FuncData
  F_law_due : Fun K "_law_due" "_law_due" s_law_due f_law_due fd_law_due
  b_law_due : Binds K fd_law_due ["_law_rings_here", "_law_start", "_law_played"] []
  m_law_due : mg "_law_due" = some (.ref f_law_due)
  f_law_large_due : Addr
  fd_law_large_due : FuncData
  F_law_large_due : Fun K "_law_large_due" "_law_large_due" s_law_large_due f_law_large_due fd_law_large_due
  b_law_large_due : Binds K fd_law_large_due [] []
  m_law_large_due : mg "_law_large_due" = some (.ref f_law_large_due)
  f_law : Addr
  fd_law : FuncData
  F_law : Fun K "law" "law" s_law f_law fd_law
  b_law : Binds K fd_law ["_law_script"] []
  m_law : mg "law" = some (.ref f_law)
  C_Table : Addr
  cl_Table : Cls K C_Table
  m_Table : mg "Table" = some (.ref C_Table)
  M_Table : Mk K C_Table f_Table_init
  me_Table_sizes : Meth K C_Table "sizes" f_Table_sizes
  me_Table_count : Meth K C_Table "count" f_Table_count
  me_Table_is_seat : Meth K C_Table "is_seat" f_Table_is_seat
  me_Table_is_call : Meth K C_Table "is_call" f_Table_is_call
  me_Table_shifted : Meth K C_Table "shifted" f_Table_shifted
  me_Table_moves : Meth K C_Table "moves" f_Table_moves
  me_Table_step : Meth K C_Table "step" f_Table_step
  me_Table_order : Meth K C_Table "order" f_Table_order
  me_Table_halves : Meth K C_Table "halves" f_Table_halves
  n_Table_rings : NoAttr K C_Table "rings"
  ic_Table : PySem.W.findIn K (.ref C_Table) "__class__" = some (some (.builtin "object.__class__"))
  im_Table : PySem.W.mroIn K C_Table (.type "object") = some true
  ig_ : PySem.W.specialIn K (.builtin "object.__class__") "__get__" = some (some (.builtin "getset_descriptor.__get__"))
  it_ : PySem.W.takesIn K (.builtin "object.__class__") = some true
  t_MAX_RINGS : Tok
  c_MAX_RINGS : mg "MAX_RINGS" = some (.int 4 t_MAX_RINGS)
  t_SMALL : Tok
  c_SMALL : mg "SMALL" = some (.int 300 t_SMALL)
  z_abs : mg "abs" = none
  z_all : mg "all" = none
  z_bool : mg "bool" = none
  z_enumerate : mg "enumerate" = none
  z_int : mg "int" = none
  z_isinstance : mg "isinstance" = none
  z_len : mg "len" = none
  z_list : mg "list" = none
  z_min : mg "min" = none
  z_range : mg "range" = none
  z_str : mg "str" = none
  z_sum : mg "sum" = none
  z_tuple : mg "tuple" = none
  z_zip : mg "zip" = none
/-- not an int (a bool is none) -/
def NotI (K : PySem.W.Frag) (H : Hp) (x : V) : Prop := ∃ t b1 b2, TyX K H x t ∧ PySem.W.kitOne K t (.type "int") = some b1 ∧ PySem.W.kitOne K t (.type "bool") = some b2 ∧ (b1 && !b2) = false
/-- what x is, if an int -/
def IsI (K : PySem.W.Frag) (H : Hp) (x : V) : Option Int → Prop
  | some i => x = .int i
  | none => NotI K H x
def atLeast : Option Int → Int → Bool
  | some i, low => decide (low ≤ i)
  | none, _ => false
def between : Option Int → Int → Int → Bool
  | some i, low, high => decide (low ≤ i) && decide (i ≤ high)
  | none, _, _ => false

section
variable {P : Program} {w : World} {K : PySem.W.Frag} {mg : Str → Option Value} {base : Heap}
def sp_is_integer (K : PySem.W.Frag) : Sp := fun vs H Q _ => ∃ x o, vs = [x] ∧ IsI K H x o ∧ Q (.bl o.isSome) H
theorem ok_is_integer (T : TX K mg) : FnOk P w K mg base CX0 1 T.f_is_integer T.fd_is_integer ["value"] (sp_is_integer K) := by
  refine T.F_is_integer.ok sc_is_integer (fun vs H Q E h => ?_) (fun cdv A outer s H vs Q E hr h => ?_)
  · obtain ⟨x, o, rfl, _⟩ := h
    rfl
  · obtain ⟨x, o, rfl, hx, k⟩ := h
    refine ⟨_, (pss_one (ps_ret (pe_and (pe_callB call_isi (by rfl) T.z_isinstance (by decide +kernel) (pa_cons (pv 0) (pa_cons (pe_bltn (v := .ty "int") rfl T.z_int (by decide +kernel) rfl) pa_nil))) (pe_one (pe_not (pe_callB call_isi (by rfl) T.z_isinstance (by decide +kernel) (pa_cons (pv 0) (pa_cons (pe_bltn (v := .ty "bool") rfl T.z_bool (by decide +kernel) rfl) pa_nil)))))))), ?_⟩
    cases o with
    | some i =>
      cases hx
      exact ⟨_, rfl, _, _, _, _, true, rfl, .ty _, .base (.int i), kit_ty (by decide +kernel), _, rfl, _, rfl, _, _, _, _, false, rfl, .ty _, .base (.int i), kit_ty (by decide +kernel), _, rfl, k⟩
    | none =>
      obtain ⟨t, b1, b2, ht, h1, h2, hb⟩ := hx
      refine ⟨_, rfl, _, _, _, _, b1, rfl, .ty _, ht, h1, _, rfl, ?_⟩
      cases b1 with
      | false => exact k
      | true =>
        refine ⟨_, rfl, _, _, _, _, b2, rfl, .ty _, ht, h2, _, rfl, ?_⟩
        have e : (!b2) = false := hb
        rw [e]
        exact k
def sp_is_at_least (K : PySem.W.Frag) : Sp := fun vs H Q _ => ∃ x o low, vs = [x, .int low] ∧ IsI K H x o ∧ Q (.bl (atLeast o low)) H
theorem ok_is_at_least (T : TX K mg) : FnOk P w K mg base CX0 2 T.f_is_at_least T.fd_is_at_least ["value", "low"] (sp_is_at_least K) := by
  refine T.F_is_at_least.ok sc_is_at_least (fun vs H Q E h => ?_) (fun cdv A outer s H vs Q E hr h => ?_)
  · obtain ⟨x, o, low, rfl, _⟩ := h
    rfl
  · obtain ⟨x, o, low, rfl, hx, k⟩ := h
    refine ⟨_, (pss_one (ps_ret (pe_and (pe_call (ok_is_integer T) hr rfl T.m_is_integer T.F_is_integer.kp T.b_is_integer .nil pass0 (pa_cons (pv 0) pa_nil)) (pe_one (pe_cmpR op_ge (pv 0) (pv 1) (nomark _)))))), ?_⟩
    refine ⟨_, rfl, x, o, rfl, hx, _, rfl, ?_⟩
    cases o with
    | none => exact k
    | some i =>
      cases hx
      exact ⟨_, rfl, _, rfl, _, _, rfl, rfl, k⟩
def sp_is_between (K : PySem.W.Frag) : Sp := fun vs H Q _ => ∃ x o low high, vs = [x, .int low, .int high] ∧ IsI K H x o ∧ Q (.bl (between o low high)) H
theorem ok_is_between (T : TX K mg) : FnOk P w K mg base CX0 2 T.f_is_between T.fd_is_between ["value", "low", "high"] (sp_is_between K) := by
  refine T.F_is_between.ok sc_is_between (fun vs H Q E h => ?_) (fun cdv A outer s H vs Q E hr h => ?_)
  · obtain ⟨x, o, low, high, rfl, _⟩ := h
    rfl
  · obtain ⟨x, o, low, high, rfl, hx, k⟩ := h
    refine ⟨_, (pss_one (ps_ret (pe_and (pe_call (ok_is_integer T) hr rfl T.m_is_integer T.F_is_integer.kp T.b_is_integer .nil pass0 (pa_cons (pv 0) pa_nil)) (pe_one (pe_chain op_le op_le (pv 1) (pv 0) (pv 2)))))), ?_⟩
    refine ⟨_, rfl, x, o, rfl, hx, _, rfl, ?_⟩
    cases o with
    | none => exact k
    | some i =>
      cases hx
      refine ⟨_, rfl, _, rfl, _, _, rfl, rfl, _, rfl, ?_⟩
      refine ite2 (fun c => ?_) (fun c => ?_)
      · have c1 : low ≤ i := of_decide_eq_true c
        refine ⟨_, rfl, _, _, rfl, rfl, ?_⟩
        have e : between (some i) low high = decide (i ≤ high) := by show (decide (low ≤ i) && decide (i ≤ high)) = _; rw [c]; rfl
        rw [e] at k
        exact k
      · have e : between (some i) low high = false := by show (decide (low ≤ i) && decide (i ≤ high)) = _; rw [Bool.eq_false_iff.mpr c]; rfl
        rw [e] at k
        exact k
end

/-- a table of these sizes stands at a -/
def TabAt (C : Addr) (H : Hp) (a : Addr) (ns : List Int) : Prop := ∃ dx t, H a = some (.ins C dx [("rings", .ref t)]) ∧ H t = some (.tup (ns.map V.int))
theorem TabAt.mono {C : Addr} {H H2 : Hp} {a : Addr} {ns : List Int} (e : Ex H H2) (h : TabAt C H a ns) : TabAt C H2 a ns := by
  obtain ⟨dx, t, h1, h2⟩ := h
  exact ⟨dx, t, e _ _ h1, e _ _ h2⟩
/-- a tracked list (false) or tuple (true) -/
def SqH (H : Hp) (p : Bool × Addr) (xs : List V) : Prop := if p.1 = true then H p.2 = some (.tup xs) else H p.2 = some (.lst xs)
theorem SqH.sq {K : PySem.W.Frag} {H : Hp} {p : Bool × Addr} {xs : List V} (h : SqH H p xs) : CZ.SqK K H p xs := by
  obtain ⟨b, a⟩ := p
  cases b
  · exact SqL.of (show H a = some (.lst xs) from h)
  · exact SqT.of (show H a = some (.tup xs) from h)
theorem SqH.mono {H H2 : Hp} {p : Bool × Addr} {xs : List V} (e : Ex H H2) (h : SqH H p xs) : SqH H2 p xs := by
  obtain ⟨b, a⟩ := p
  cases b
  · exact e _ _ (show H a = some (.lst xs) from h)
  · exact e _ _ (show H a = some (.tup xs) from h)
theorem SqH.ty {K : PySem.W.Frag} {H : Hp} {p : Bool × Addr} {xs : List V} (h : SqH H p xs) : TyX K H (.ref p.2) (.type (if p.1 = true then "tuple" else "list")) := by
  obtain ⟨b, a⟩ := p
  cases b
  · exact .base (.lst (show H a = some (.lst xs) from h))
  · exact .base (.tup (show H a = some (.tup xs) from h))
/-- sizes of a table -/
structure SzOk (ns : List Int) : Prop where
  pos : ns ≠ []
  le : ns.length ≤ 4
  one : ∀ n ∈ ns, 1 ≤ n
theorem len_line {α : Type} {l : List α} (h : l.length ≤ 4) : l.length ≤ sizeLine := Nat.le_trans h (by decide)
theorem take_lt {α : Type} {l : List α} (h : l.length ≤ 1000) (i : Nat) : (l.take i).length < sizeLine := by
  rw [List.length_take]
  exact Nat.lt_of_le_of_lt (Nat.le_trans (Nat.min_le_right _ _) h) (by decide)
theorem take_more {α : Type} {l : List α} {i : Nat} {x : α} (h : l[i]? = some x) : l.take (i + 1) = l.take i ++ [x] := by
  rw [List.take_add_one, h]
  rfl
theorem kit_seq {K : PySem.W.Frag} (b : Bool) : PySem.W.kitAny K (.type (if b = true then "tuple" else "list")) [.type "list", .type "tuple"] = some true := by
  cases b
  · exact kitAny_cons (b := true) (kit_ty (by decide +kernel)) (fun h => nomatch h) (fun _ => rfl)
  · exact kitAny_cons (b := false) (kit_ty (by decide +kernel)) (fun _ => kitAny_cons (b := true) (kit_ty (by decide +kernel)) (fun h => nomatch h) (fun _ => rfl)) (fun h => nomatch h)
theorem sq_or {K : PySem.W.Frag} {H : Hp} {b : Bool} {a : Addr} {xs : List V} (h : SqH H (b, a) xs) : SqL K H a xs ∨ SqT K H a xs := by
  cases b
  · exact .inl (SqL.of (show H a = some (.lst xs) from h))
  · exact .inr (SqT.of (show H a = some (.tup xs) from h))
section
variable {P : Program} {w : World} {K : PySem.W.Frag} {mg : Str → Option Value} {base : Heap}
def sp_Table_init (C : Addr) : Sp := fun vs H Q _ => ∃ (p dx : Addr) (q : Bool × Addr) (ns : List Int), vs = [.ref p, .ref q.2] ∧ H p = some (.ins C dx []) ∧ SqH H q (ns.map V.int) ∧ SzOk ns ∧
  ∀ H2, (∀ c o, c ≠ p → H c = some o → H2 c = some o) → (∃ t, H2 p = some (.ins C dx [("rings", .ref t)]) ∧ H2 t = some (.tup (ns.map V.int))) → Q .non H2
theorem ok_Table_init (T : TX K mg) : FnOk P w K mg base CX0 3 T.f_Table_init T.fd_Table_init ["self", "rings"] (sp_Table_init T.C_Table) := by
  refine T.F_Table_init.ok sc_Table_init (fun vs H Q E h => ?_) (fun cdv A outer s H vs Q E hr h => ?_)
  · obtain ⟨p, dx, q, ns, rfl, _⟩ := h
    rfl
  · obtain ⟨p, dx, ⟨b, a⟩, ns, rfl, hp, hq, ok, k⟩ := h
    refine ⟨_, (pss_cons (ps_if (PW.pt (pw_or (pt_not (pt_val (pe_callB call_isiT (by rfl) T.z_isinstance (by decide +kernel) (pa_cons (pv 1) (pa_cons (pe_tup (pa_cons (pe_bltn (v := .ty "list") rfl T.z_list (by decide +kernel) rfl) (pa_cons (pe_bltn (v := .ty "tuple") rfl T.z_tuple (by decide +kernel) rfl) pa_nil))) pa_nil))))) (pw_or1 (pt_not (pt_chain op_le op_le pe_int (pe_callB call_len_seq (by rfl) T.z_len (by decide +kernel) (pa_cons (pv 1) pa_nil)) (pe_glob (v := .int 4) rfl T.c_MAX_RINGS ⟨_, rfl⟩)))))) pss_never pss_nil) (pss_cons (ps_if (pt_not (pt_val (pe_callB (cr_all rfl) (by rfl) T.z_all (by decide +kernel) (pa_cons (pe_lc (own := [("size", 2)]) (g := (gName 2)) rfl sc_Table_init.nd (pi_seq (pv 1)) (blkOk_by (N := N_Table_init) (sc := defScope s_Table_init) (by decide +kernel)) (fun _ _ _ _ _ => (pg_name (i := 2) sc_Table_init.nd rfl (Or.inl rfl))) (fun _ _ _ _ _ => pts_nil) (fun _ _ _ _ _ => (pe_call (ok_is_at_least T) hr rfl T.m_is_at_least T.F_is_at_least.kp T.b_is_at_least .nil pass0 (pa_cons (pv 2) (pa_cons pe_int pa_nil))))) pa_nil)))) pss_never pss_nil) (pss_one (ps_fld (pv 0) (pe_callTy call_tuple_of (by rfl) T.z_tuple (by decide +kernel) (pa_cons (pv 1) pa_nil)) rfl)))), ?_⟩
    refine ⟨_, rfl, by show 2 ≤ sizeLine; decide, fun y hy => ?_⟩
    refine ⟨_, y, _, _, _, true, rfl, upd_same, .cons (.ty _) (.cons (.ty _) .nil), (hq.mono (exn hy)).ty, kit_seq b, _, rfl, iteF ?_⟩
    have q1 := hq.mono (exn (o := .tup [.ty "list", .ty "tuple"]) hy)
    have lp : 1 ≤ ns.length := List.length_pos_iff.mpr ok.pos
    have l4 := ok.le
    refine ⟨_, rfl, a, _, rfl, sq_or q1, _, _, rfl, rfl, _, rfl, itt (decide_eq_true (by rw [List.length_map]; omega)) ?_⟩
    refine ⟨_, _, rfl, rfl, _, rfl, itf ?_ ?_⟩
    · rw [List.length_map, decide_eq_true (by omega)]
      rfl
    · have all1 : (ns.map fun n => atLeast (some n) 1).all id = true := by
        rw [List.all_map, List.all_eq_true]
        exact fun n hn => decide_eq_true (ok.one n hn)
      refine ⟨_, rfl, (b, a), rfl, ⟨_, q1.sq⟩, fun D hD => ?_⟩
      refine lc_vals walk_seq ((ns.map fun n => atLeast (some n) 1).map V.bl) (by simp) (by rw [List.length_map]; omega) hD (fun H3 e => (q1.mono e).sq) ?_ gmono_name ?_
      · intro i x H3 H4 R hi e yy kk
        obtain ⟨rfl, hx⟩ := yy
        obtain ⟨n, hn, rfl⟩ := map_get hx
        exact ⟨rfl, _, rfl, _, some n, 1, rfl, rfl, kk _ _ exr (by simp [hn])⟩
      · intro H3 e hD3
        have hp3 := e _ _ (exn hy _ _ hp)
        have q3 := q1.mono e
        have ex3 : Ex H H3 := fun c o z => e _ _ (exn hy _ _ z)
        refine ⟨D, _, rfl, SqL.of hD3, _, rfl, itf (by rw [all1]; rfl) ?_⟩
        cases b with
        | false =>
          refine ⟨_, rfl, a, _, rfl, .inl ⟨SqL.of q3, fun l hl => ?_⟩⟩
          have npl : p ≠ l := ne_of_none hp3 hl
          refine ⟨_, rfl, p, _, dx, _, rfl, (by rw [upd_ne npl]; exact hp3), T.cl_Table, T.n_Table_rings, (by show 0 < 1000; decide), ?_⟩
          refine k _ (fun c o hc z => ?_) ⟨l, upd_same, by rw [upd_ne npl.symm, upd_same]⟩
          rw [upd_ne hc, upd_ne (ne_of_none (ex3 c o z) hl)]
          exact ex3 c o z
        | true =>
          refine ⟨_, rfl, a, _, rfl, .inr ⟨SqT.of q3, ?_⟩⟩
          refine ⟨_, rfl, p, _, dx, _, rfl, hp3, T.cl_Table, T.n_Table_rings, (by show 0 < 1000; decide), ?_⟩
          have q3 : H3 a = some (.tup (ns.map V.int)) := q3
          refine k _ (fun c o hc z => ?_) ⟨a, upd_same, by rw [upd_ne (ne_of q3 hp3 (by intro z; cases z))]; exact q3⟩
          rw [upd_ne hc]
          exact ex3 c o z
end

theorem TyX.mono {K : PySem.W.Frag} {H H2 : Hp} {x : V} {t : Value} (e : Ex H H2) (h : TyX K H x t) : TyX K H2 x t := by
  cases h with
  | base h =>
    cases h with
    | non => exact .base .non
    | bl x => exact .base (.bl x)
    | int x => exact .base (.int x)
    | str x => exact .base (.str x)
    | flt x => exact .base (.flt x)
    | lst h => exact .base (.lst (e _ _ h))
    | frz h => exact .base (.frz (e _ _ h))
    | tup h => exact .base (.tup (e _ _ h))
    | dK h => exact .base (.dK (e _ _ h))
    | dT h => exact .base (.dT (e _ _ h))
    | ins h a b c d f => exact .base (.ins (e _ _ h) a b c d f)
  | byt b => exact .byt b
  | set h => exact .set (e _ _ h)
  | kList a b => exact .kList a b
  | kTuple a b => exact .kTuple a b
  | kDict a b => exact .kDict a b
  | fTuple h => exact .fTuple (e _ _ h)
  | fDict h => exact .fDict (e _ _ h)
theorem IsI.mono {K : PySem.W.Frag} {H H2 : Hp} {x : V} {o : Option Int} (e : Ex H H2) (h : IsI K H x o) : IsI K H2 x o := by
  cases o with
  | some i => exact h
  | none =>
    obtain ⟨t, b1, b2, ht, r⟩ := h
    exact ⟨t, b1, b2, TyX.mono e ht, r⟩
theorem paired_get {α β : Type} {R : α → β → Prop} : ∀ {l : List α} {m : List β} {i : Nat} {x : α}, Paired R l m → l[i]? = some x → ∃ y, m[i]? = some y ∧ R x y
  | _, _, _, _, .nil, h => by simp at h
  | _, _, 0, _, .cons r _, h => by simp at h; subst h; exact ⟨_, rfl, r⟩
  | _, _, i + 1, x, .cons _ t, h => by
    obtain ⟨y, h1, h2⟩ := paired_get (i := i) (x := x) t (by simpa using h)
    exact ⟨y, by simpa using h1, h2⟩
/-- what an argument is as a tuple: its items, as ints or not -/
def TupA (K : PySem.W.Frag) (H : Hp) (x : V) : Option (List (Option Int)) → Prop
  | some os => ∃ a xs, x = .ref a ∧ H a = some (.tup xs) ∧ xs.length ≤ 1000 ∧ Paired (IsI K H) xs os
  | none => ∃ t, TyX K H x t ∧ PySem.W.kitOne K t (.type "tuple") = some false
theorem paired_ints {K : PySem.W.Frag} {H : Hp} : ∀ ps : List Int, Paired (IsI K H) (ps.map V.int) (ps.map some)
  | [] => .nil
  | p :: ps => .cons rfl (paired_ints ps)
theorem TupA.ints {K : PySem.W.Frag} {H : Hp} {a : Addr} {ps : List Int} (h : H a = some (.tup (ps.map V.int))) (hl : ps.length ≤ 1000) : TupA K H (.ref a) (some (ps.map some)) :=
  ⟨a, _, rfl, h, by rw [List.length_map]; exact hl, paired_ints ps⟩
def isSeatO (ns : List Int) : Option (List (Option Int)) → Bool
  | some os => decide (os.length = ns.length) && (List.zipWith (fun o n => between o 0 (n - 1)) os ns).all id
  | none => false
def isCallO (ns : List Int) : Option (List (Option Int)) → Bool
  | some os => decide (os.length = ns.length) && (os.map Option.isSome).all id
  | none => false
/-- a seat: one place a ring -/
def SeatOk : List Int → List Int → Prop
  | n :: ns, p :: ps => (0 ≤ p ∧ p < n) ∧ SeatOk ns ps
  | [], [] => True
  | _, _ => False
theorem SeatOk.len : ∀ {ns ps : List Int}, SeatOk ns ps → ps.length = ns.length
  | [], [], _ => rfl
  | _ :: _, _ :: _, h => by
    show _ + 1 = _ + 1
    rw [SeatOk.len h.2]
theorem seat_is : ∀ {ns ps : List Int}, SeatOk ns ps → (List.zipWith (fun o n => between o 0 (n - 1)) (ps.map some) ns).all id = true
  | [], [], _ => rfl
  | n :: ns, p :: ps, h => by
    have ih := seat_is h.2
    show (between (some p) 0 (n - 1) && _) = true
    rw [Bool.and_eq_true]
    refine ⟨?_, ih⟩
    show (decide (0 ≤ p) && decide (p ≤ n - 1)) = true
    rw [decide_eq_true h.1.1, decide_eq_true (by have := h.1.2; omega)]
    rfl
theorem isSeat_ok {ns ps : List Int} (h : SeatOk ns ps) : isSeatO ns (some (ps.map some)) = true := by
  show (decide ((ps.map some).length = ns.length) && _) = true
  rw [Bool.and_eq_true]
  exact ⟨decide_eq_true (by rw [List.length_map]; exact h.len), seat_is h⟩
theorem isCall_ok {ns cs : List Int} (h : cs.length = ns.length) : isCallO ns (some (cs.map some)) = true := by
  show (decide ((cs.map some).length = ns.length) && _) = true
  rw [Bool.and_eq_true]
  refine ⟨decide_eq_true (by rw [List.length_map]; exact h), ?_⟩
  rw [List.map_map, List.all_map, List.all_eq_true]
  exact fun _ _ => rfl
/-- a step by a multiple of a call -/
def shiftL : List Int → List Int → List Int → Int → List Int
  | n :: ns, p :: ps, c :: cs, f => (p + f * c) % n :: shiftL ns ps cs f
  | _, _, _, _ => []
theorem shift_len : ∀ {ns ps cs : List Int} {f : Int}, ps.length = ns.length → cs.length = ns.length → (shiftL ns ps cs f).length = ns.length
  | [], _, _, _, _, _ => by simp [shiftL]
  | _ :: ns, p :: ps, c :: cs, f, h1, h2 => by
    have ih := @shift_len ns ps cs f (by simpa using h1) (by simpa using h2)
    show (shiftL ns ps cs f).length + 1 = _ + 1
    rw [ih]
theorem shift_get : ∀ {ns ps cs : List Int} {f : Int} {i : Nat} {n p c : Int}, ns[i]? = some n → ps[i]? = some p → cs[i]? = some c → (shiftL ns ps cs f)[i]? = some ((p + f * c) % n)
  | n :: ns, p :: ps, c :: cs, f, 0, _, _, _, h1, h2, h3 => by
    simp at h1 h2 h3
    subst h1 h2 h3
    rfl
  | n :: ns, p :: ps, c :: cs, f, i + 1, a, b, d, h1, h2, h3 => by
    have ih := @shift_get ns ps cs f i a b d (by simpa using h1) (by simpa using h2) (by simpa using h3)
    show (shiftL ns ps cs f)[i]? = _
    exact ih
  | [], _, _, _, i, _, _, _, h1, _, _ => by simp at h1
  | _ :: _, [], _, _, i, _, _, _, _, h2, _ => by simp at h2
  | _ :: _, _ :: _, [], _, i, _, _, _, _, _, h3 => by simp at h3
theorem mul_ok {i j : Int} (h : (-(2 ^ 64) < i ∧ i < 2 ^ 64) ∨ (-(2 ^ 64) < j ∧ j < 2 ^ 64)) : IntMulOk i j := CMul.ok h
theorem zip_get {α β γ : Type} {f : α → β → γ} {l : List α} {m : List β} {i : Nat} {x : α} {y : β} (h1 : l[i]? = some x) (h2 : m[i]? = some y) : (List.zipWith f l m)[i]? = some (f x y) := by
  rw [List.getElem?_zipWith, h1, h2]
section
variable {P : Program} {w : World} {K : PySem.W.Frag} {mg : Str → Option Value} {base : Heap}
def sp_Table_sizes (C : Addr) : Sp := fun vs H Q _ => ∃ (a dx t : Addr), vs = [.ref a] ∧ H a = some (.ins C dx [("rings", .ref t)]) ∧ Q (.ref t) H
theorem ok_Table_sizes (T : TX K mg) : FnOk P w K mg base CX0 1 T.f_Table_sizes T.fd_Table_sizes ["self"] (sp_Table_sizes T.C_Table) := by
  refine T.F_Table_sizes.ok sc_Table_sizes (fun vs H Q E h => ?_) (fun cdv A outer s H vs Q E hr h => ?_)
  · obtain ⟨a, dx, t, rfl, _⟩ := h
    rfl
  · obtain ⟨a, dx, t, rfl, h1, k⟩ := h
    exact ⟨_, (pss_one (ps_ret (pe_fld (pv 0) rfl))), ⟨_, rfl, a, _, dx, _, _, rfl, h1, T.cl_Table, T.n_Table_rings, rfl, k⟩⟩
def sp_Table_is_seat (K : PySem.W.Frag) (C : Addr) : Sp := fun vs H Q _ => ∃ (a : Addr) (x : V) (ns : List Int) (ot : Option (List (Option Int))), vs = [.ref a, x] ∧ TabAt C H a ns ∧ ns.length ≤ 4 ∧ TupA K H x ot ∧ ∀ H2, Ex H H2 → Q (.bl (isSeatO ns ot)) H2
theorem ok_Table_is_seat (T : TX K mg) : FnOk P w K mg base CX0 3 T.f_Table_is_seat T.fd_Table_is_seat ["self", "value"] (sp_Table_is_seat K T.C_Table) := by
  refine T.F_Table_is_seat.ok sc_Table_is_seat (fun vs H Q E h => ?_) (fun cdv A outer s H vs Q E hr h => ?_)
  · obtain ⟨a, x, ns, ot, rfl, _⟩ := h
    rfl
  · obtain ⟨a, x, ns, ot, rfl, ⟨dx, t, h1, h2⟩, l4, hx, k⟩ := h
    refine ⟨_, (pss_cons (ps_if (PW.pt (pw_or (pt_not (pt_val (pe_callB call_isi (by rfl) T.z_isinstance (by decide +kernel) (pa_cons (pv 1) (pa_cons (pe_bltn (v := .ty "tuple") rfl T.z_tuple (by decide +kernel) rfl) pa_nil))))) (pw_or1 (pt_cmpR op_ne (pe_callB call_len_seq (by rfl) T.z_len (by decide +kernel) (pa_cons (pv 1) pa_nil)) (pe_callB call_len_seq (by rfl) T.z_len (by decide +kernel) (pa_cons (pe_fld (pv 0) rfl) pa_nil)) (nomark _))))) (pss_one (ps_ret pe_bl)) pss_nil) (pss_one (ps_ret (pe_callB (cr_all rfl) (by rfl) T.z_all (by decide +kernel) (pa_cons (pe_lc (own := [("place", 2), ("size", 3)]) (g := (gTup K 2 (gCons (gName 2) (gCons (gName 3) gNil)))) rfl sc_Table_is_seat.nd (CZ.pi_z2s (fl := [true, true]) rfl (by rfl) T.z_zip (pa_cons (pv 1) (pa_cons (pe_fld (pv 0) rfl) pa_nil))) (blkOk_by (N := N_Table_is_seat) (sc := defScope s_Table_is_seat) (by decide +kernel)) (fun _ _ _ _ _ => (pg_tup rfl (pgs_cons (pg_name (i := 2) sc_Table_is_seat.nd rfl (Or.inl rfl)) (pgs_cons (pg_name (i := 3) sc_Table_is_seat.nd rfl (Or.inl rfl)) pgs_nil)))) (fun _ _ _ _ _ => pts_nil) (fun _ _ _ _ _ => (pe_call (ok_is_between T) hr rfl T.m_is_between T.F_is_between.kp T.b_is_between .nil pass0 (pa_cons (pv 2) (pa_cons pe_int (pa_cons (pe_op op_sub (pv 3) pe_int) pa_nil)))))) pa_nil))))), ?_⟩
    cases ot with
    | none =>
      obtain ⟨ty, hty, hk⟩ := hx
      exact ⟨_, rfl, _, _, _, _, false, rfl, .ty _, hty, hk, _, rfl, k _ exr⟩
    | some os =>
      obtain ⟨v, xs, rfl, hv, hl, hp⟩ := hx
      have lo : xs.length = os.length := Paired.length hp
      refine ⟨_, rfl, _, _, _, _, true, rfl, .ty _, .base (.tup hv), kit_ty (by decide +kernel), _, rfl, iteF ?_⟩
      refine ⟨_, rfl, v, _, rfl, .inr (SqT.of hv), _, rfl, a, _, dx, _, _, rfl, h1, T.cl_Table, T.n_Table_rings, rfl, t, _, rfl, .inr (SqT.of h2), rfl, _, rfl, ?_⟩
      by_cases c : os.length = ns.length
      · refine itf ?_ ?_
        · rw [List.length_map, lo, c]
          simp
        · refine ⟨_, rfl, _, rfl, a, _, dx, _, _, rfl, h1, T.cl_Table, T.n_Table_rings, rfl, [v, t], rfl, rfl, ?_, fun D hD => ?_⟩
          · intro p hp2
            rcases List.mem_cons.mp (show p ∈ [(true, v), (true, t)] from hp2) with e | e
            · rw [e]; exact ⟨xs, SqT.of hv⟩
            · rw [List.mem_singleton.mp e]; exact ⟨_, SqT.of h2⟩
          · have lv : (List.zipWith (fun o n => between o 0 (n - 1)) os ns).length = ns.length := by rw [List.length_zipWith, c, Nat.min_self]
            refine lc_vals (CZ.walk_rows (xss := [xs, ns.map V.int]) (n := ns.length) ?_) ((List.zipWith (fun o n => between o 0 (n - 1)) os ns).map V.bl) (by rw [List.length_map, lv]) (by omega) hD (fun H3 e => .cons (SqT.of (e _ _ hv)) (.cons (SqT.of (e _ _ h2)) .nil)) ?_ (gmono_tup (gmono_cons gmono_name (gmono_cons gmono_name gmono_nil))) ?_
            · intro ys hy
              rcases List.mem_cons.mp hy with e | e
              · rw [e, lo, c]
              · rw [List.mem_singleton.mp e, List.length_map]
            · intro i y H3 H4 R hi e yy kk
              obtain ⟨Ta, vs, rfl, hT, rfl, hr2⟩ := yy
              cases hr2 with
              | cons r1 hr2 =>
                cases hr2 with
                | cons r2 hr2 =>
                  cases hr2
                  obtain ⟨n, hn, rfl⟩ := map_get r2
                  obtain ⟨o, ho, hi2⟩ := paired_get hp r1
                  refine ⟨Ta, _, rfl, SqT.of upd_same, rfl, _, _, rfl, _, _, rfl, rfl, rfl, ?_⟩
                  refine ⟨_, rfl, _, rfl, _, _, rfl, rfl, _, o, 0, n - 1, rfl, hi2.mono (fun b u z => exn hT b u (e b u z)), ?_⟩
                  refine kk _ _ (exn hT) ?_
                  rw [List.getElem?_map, zip_get ho hn]
                  rfl
            · intro H3 e hD3
              refine ⟨D, _, rfl, SqL.of hD3, ?_⟩
              have es : isSeatO ns (some os) = (List.zipWith (fun o n => between o 0 (n - 1)) os ns).all id := by
                show (decide _ && _) = _
                rw [decide_eq_true c, Bool.true_and]
              rw [← es]
              exact k _ e
      · refine itt ?_ ?_
        · rw [List.length_map, lo]
          simp
          omega
        · have es : isSeatO ns (some os) = false := by
            show (decide _ && _) = _
            rw [decide_eq_false c, Bool.false_and]
          have := k _ exr
          rw [es] at this
          exact this
end

/-- what an argument is as a text -/
def StrA (K : PySem.W.Frag) (H : Hp) (x : V) : Option Str → Prop
  | some z => x = .str z
  | none => ∃ t, TyX K H x t ∧ PySem.W.kitOne K t (.type "str") = some false
def isDirO : Option Str → Bool
  | some z => decide (z = "forward") || decide (z = "backward")
  | none => false
theorem tup_ge {xs : List V} (h : xs.length ≤ 4) : xs.length ≤ sizeLine := Nat.le_trans h (by decide)
section
variable {P : Program} {w : World} {K : PySem.W.Frag} {mg : Str → Option Value} {base : Heap}
def sp_Table_is_call (K : PySem.W.Frag) (C : Addr) : Sp := fun vs H Q _ => ∃ (a : Addr) (x : V) (ns : List Int) (ot : Option (List (Option Int))), vs = [.ref a, x] ∧ TabAt C H a ns ∧ TupA K H x ot ∧ ∀ H2, Ex H H2 → Q (.bl (isCallO ns ot)) H2
theorem ok_Table_is_call (T : TX K mg) : FnOk P w K mg base CX0 2 T.f_Table_is_call T.fd_Table_is_call ["self", "value"] (sp_Table_is_call K T.C_Table) := by
  refine T.F_Table_is_call.ok sc_Table_is_call (fun vs H Q E h => ?_) (fun cdv A outer s H vs Q E hr h => ?_)
  · obtain ⟨a, x, ns, ot, rfl, _⟩ := h
    rfl
  · obtain ⟨a, x, ns, ot, rfl, ⟨dx, t, h1, h2⟩, hx, k⟩ := h
    refine ⟨_, (pss_one (ps_ret (pe_and (pe_callB call_isi (by rfl) T.z_isinstance (by decide +kernel) (pa_cons (pv 1) (pa_cons (pe_bltn (v := .ty "tuple") rfl T.z_tuple (by decide +kernel) rfl) pa_nil))) (pe_and (pe_cmpR op_eq (pe_callB call_len_seq (by rfl) T.z_len (by decide +kernel) (pa_cons (pv 1) pa_nil)) (pe_callB call_len_seq (by rfl) T.z_len (by decide +kernel) (pa_cons (pe_fld (pv 0) rfl) pa_nil)) (nomark _)) (pe_one (pe_callB (cr_all rfl) (by rfl) T.z_all (by decide +kernel) (pa_cons (pe_lc (own := [("one", 2)]) (g := (gName 2)) rfl sc_Table_is_call.nd (pi_tup (pv 1)) (blkOk_by (N := N_Table_is_call) (sc := defScope s_Table_is_call) (by decide +kernel)) (fun _ _ _ _ _ => (pg_name (i := 2) sc_Table_is_call.nd rfl (Or.inl rfl))) (fun _ _ _ _ _ => pts_nil) (fun _ _ _ _ _ => (pe_call (ok_is_integer T) hr rfl T.m_is_integer T.F_is_integer.kp T.b_is_integer .nil pass0 (pa_cons (pv 2) pa_nil)))) pa_nil))))))), ?_⟩
    cases ot with
    | none =>
      obtain ⟨ty, hty, hk⟩ := hx
      exact ⟨_, rfl, _, _, _, _, false, rfl, .ty _, hty, hk, _, rfl, k _ exr⟩
    | some os =>
      obtain ⟨v, xs, rfl, hv, hl, hp⟩ := hx
      have lo : xs.length = os.length := Paired.length hp
      refine ⟨_, rfl, _, _, _, _, true, rfl, .ty _, .base (.tup hv), kit_ty (by decide +kernel), _, rfl, iteT ?_⟩
      refine ⟨_, rfl, v, _, rfl, .inr (SqT.of hv), _, rfl, a, _, dx, _, _, rfl, h1, T.cl_Table, T.n_Table_rings, rfl, t, _, rfl, .inr (SqT.of h2), rfl, _, rfl, ?_⟩
      by_cases c : os.length = ns.length
      · refine itt ?_ ?_
        · rw [List.length_map, lo, c]
          simp
        · refine ⟨_, rfl, v, rfl, ⟨_, SqT.of hv⟩, fun D hD => ?_⟩
          refine lc_vals walk_tup ((os.map Option.isSome).map V.bl) (by rw [List.length_map, List.length_map, lo]) (by omega) hD (fun H3 e => SqT.of (e _ _ hv)) ?_ gmono_name ?_
          · intro i y H3 H4 R hi e yy kk
            obtain ⟨rfl, hy⟩ := yy
            obtain ⟨o, ho, hi2⟩ := paired_get hp hy
            refine ⟨rfl, _, rfl, _, o, rfl, hi2.mono e, kk _ _ exr ?_⟩
            rw [List.getElem?_map, List.getElem?_map, ho]
            rfl
          · intro H3 e hD3
            refine ⟨D, _, rfl, SqL.of hD3, ?_⟩
            have es : isCallO ns (some os) = (os.map Option.isSome).all id := by
              show (decide _ && _) = _
              rw [decide_eq_true c, Bool.true_and]
            rw [← es]
            exact k _ e
      · refine itf ?_ ?_
        · rw [List.length_map, lo]
          simp
          omega
        · have es : isCallO ns (some os) = false := by
            show (decide _ && _) = _
            rw [decide_eq_false c, Bool.false_and]
          have := k _ exr
          rw [es] at this
          exact this
def sp_Table_shifted (C : Addr) : Sp := fun vs H Q _ => ∃ (a s c : Addr) (f : Int) (ns ps cs : List Int), vs = [.ref a, .ref s, .ref c, .int f] ∧ TabAt C H a ns ∧ SzOk ns ∧ H s = some (.tup (ps.map V.int)) ∧ H c = some (.tup (cs.map V.int)) ∧ ps.length = ns.length ∧ cs.length = ns.length ∧ (f = 1 ∨ f = -1) ∧
  ∀ H2 q, Ex H H2 → H q = none → H2 q = some (.tup ((shiftL ns ps cs f).map V.int)) → Q (.ref q) H2
theorem ok_Table_shifted (T : TX K mg) : FnOk P w K mg base CX0 1 T.f_Table_shifted T.fd_Table_shifted ["self", "seat", "call", "factor"] (sp_Table_shifted T.C_Table) := by
  refine T.F_Table_shifted.ok sc_Table_shifted (fun vs H Q E h => ?_) (fun cdv A outer s H vs Q E hr h => ?_)
  · obtain ⟨a, s, c, f, ns, ps, cs, rfl, _⟩ := h
    rfl
  · obtain ⟨a, s, c, f, ns, ps, cs, rfl, ⟨dx, t, h1, h2⟩, ok, hs, hc, lp, lc, hf, k⟩ := h
    have l4 := ok.le
    refine ⟨_, (pss_one (ps_ret (pe_callTy call_tuple_of (by rfl) T.z_tuple (by decide +kernel) (pa_cons (pe_lc (own := [("place", 4), ("one", 5), ("size", 6)]) (g := (gTup K 3 (gCons (gName 4) (gCons (gName 5) (gCons (gName 6) gNil))))) rfl sc_Table_shifted.nd (CZ.pi_z3s (fl := [true, true, true]) rfl (by rfl) T.z_zip (pa_cons (pv 1) (pa_cons (pv 2) (pa_cons (pe_fld (pv 0) rfl) pa_nil)))) (blkOk_by (N := N_Table_shifted) (sc := defScope s_Table_shifted) (by decide +kernel)) (fun _ _ _ _ _ => (pg_tup rfl (pgs_cons (pg_name (i := 4) sc_Table_shifted.nd rfl (Or.inl rfl)) (pgs_cons (pg_name (i := 5) sc_Table_shifted.nd rfl (Or.inl rfl)) (pgs_cons (pg_name (i := 6) sc_Table_shifted.nd rfl (Or.inl rfl)) pgs_nil))))) (fun _ _ _ _ _ => pts_nil) (fun _ _ _ _ _ => (pe_op op_mod (pe_op op_add (pv 4) (pe_op op_mulI (pv 3) (pv 5))) (pv 6)))) pa_nil)))), ?_⟩
    refine ⟨_, rfl, _, rfl, _, rfl, a, _, dx, _, _, rfl, h1, T.cl_Table, T.n_Table_rings, rfl, [s, c, t], rfl, rfl, ?_, fun D hD => ?_⟩
    · intro p hp2
      have hp3 : p = (true, s) ∨ p = (true, c) ∨ p = (true, t) := by simpa using hp2
      rcases hp3 with e | e | e
      · rw [e]; exact ⟨_, SqT.of hs⟩
      · rw [e]; exact ⟨_, SqT.of hc⟩
      · rw [e]; exact ⟨_, SqT.of h2⟩
    · have ls : (shiftL ns ps cs f).length = ns.length := shift_len lp lc
      refine lc_vals (CZ.walk_rows (xss := [ps.map V.int, cs.map V.int, ns.map V.int]) (n := ns.length) ?_) ((shiftL ns ps cs f).map V.int) (by rw [List.length_map, ls]) (by omega) hD (fun H3 e => .cons (SqT.of (e _ _ hs)) (.cons (SqT.of (e _ _ hc)) (.cons (SqT.of (e _ _ h2)) .nil))) ?_ (gmono_tup (gmono_cons gmono_name (gmono_cons gmono_name (gmono_cons gmono_name gmono_nil)))) ?_
      · intro ys hy
        have hy2 : ys = ps.map V.int ∨ ys = cs.map V.int ∨ ys = ns.map V.int := by simpa using hy
        rcases hy2 with e | e | e
        · rw [e, List.length_map, lp]
        · rw [e, List.length_map, lc]
        · rw [e, List.length_map]
      · intro i y H3 H4 R hi e yy kk
        obtain ⟨Ta, vs, rfl, hT, rfl, hr2⟩ := yy
        cases hr2 with
        | cons r1 hr2 =>
          cases hr2 with
          | cons r2 hr2 =>
            cases hr2 with
            | cons r3 hr2 =>
              cases hr2
              obtain ⟨p, hp, rfl⟩ := map_get r1
              obtain ⟨d, hd, rfl⟩ := map_get r2
              obtain ⟨n, hn, rfl⟩ := map_get r3
              have n1 := ok.one n (List.mem_of_getElem? hn)
              refine ⟨Ta, _, rfl, SqT.of upd_same, rfl, _, _, rfl, _, _, rfl, _, _, rfl, rfl, rfl, ?_⟩
              refine ⟨_, rfl, _, rfl, _, rfl, _, _, rfl, rfl, mul_ok (.inl (by rcases hf with e | e <;> rw [e] <;> decide)), _, _, rfl, rfl, _, rfl, _, _, rfl, rfl, (by show (0 : Int) < n; omega), ?_⟩
              refine kk _ _ (exn hT) ?_
              rw [List.getElem?_map, shift_get hn hp hd]
              rfl
      · intro H3 e hD3
        exact ⟨D, _, rfl, .inl ⟨SqL.of hD3, fun q hq => k _ q (fun b o z => exn hq b o (e b o z)) (Evl.fresh_back e hq) upd_same⟩⟩
def sp_is_direction (K : PySem.W.Frag) : Sp := fun vs H Q _ => ∃ x o, vs = [x] ∧ StrA K H x o ∧ ∀ H2, Ex H H2 → Q (.bl (isDirO o)) H2
theorem ok_is_direction (T : TX K mg) : FnOk P w K mg base CX0 1 T.f_is_direction T.fd_is_direction ["value"] (sp_is_direction K) := by
  refine T.F_is_direction.ok sc_is_direction (fun vs H Q E h => ?_) (fun cdv A outer s H vs Q E hr h => ?_)
  · obtain ⟨x, o, rfl, _⟩ := h
    rfl
  · obtain ⟨x, o, rfl, hx, k⟩ := h
    refine ⟨_, (pss_one (ps_ret (pe_and (pe_callB call_isi (by rfl) T.z_isinstance (by decide +kernel) (pa_cons (pv 0) (pa_cons (pe_bltn (v := .ty "str") rfl T.z_str (by decide +kernel) rfl) pa_nil))) (pe_one (pe_cmpR op_in_seq (pv 0) (pe_tup (pa_cons pe_str (pa_cons pe_str pa_nil))) rfl))))), ?_⟩
    cases o with
    | none =>
      obtain ⟨t, ht, hk⟩ := hx
      exact ⟨_, rfl, _, _, _, _, false, rfl, .ty _, ht, hk, _, rfl, k _ exr⟩
    | some z =>
      cases hx
      refine ⟨_, rfl, _, _, _, _, true, rfl, .ty _, .base (.str z), kit_ty (by decide +kernel), _, rfl, iteT ?_⟩
      refine ⟨_, rfl, by show 2 ≤ sizeLine; decide, fun p hp => ?_⟩
      refine ⟨p, _, rfl, .inr (SqT.of upd_same), rfl, rfl, ?_⟩
      have es : (if false = true then !inV (V.str z) [V.str "forward", V.str "backward"] else inV (V.str z) [V.str "forward", V.str "backward"]) = isDirO (some z) := by
        rw [if_neg Bool.false_ne_true]
        show (eqV (V.str "forward") (V.str z) || (eqV (V.str "backward") (V.str z) || false)) = (decide (z = "forward") || decide (z = "backward"))
        have h1 : eqV (V.str "forward") (V.str z) = decide (z = "forward") := by
          show decide (("forward" : Str) = z) = _
          exact decide_eq_decide.mpr ⟨Eq.symm, Eq.symm⟩
        have h2 : eqV (V.str "backward") (V.str z) = decide (z = "backward") := by
          show decide (("backward" : Str) = z) = _
          exact decide_eq_decide.mpr ⟨Eq.symm, Eq.symm⟩
        rw [h1, h2, Bool.or_false]
      rw [es]
      exact k _ (exn hp)
def sp_require_seat (K : PySem.W.Frag) (C : Addr) : Sp := fun vs H Q _ => ∃ (a : Addr) (x : V) (ns : List Int) (ot : Option (List (Option Int))), vs = [.ref a, x] ∧ TabAt C H a ns ∧ ns.length ≤ 4 ∧ TupA K H x ot ∧ isSeatO ns ot = true ∧ ∀ H2, Ex H H2 → Q .non H2
theorem ok_require_seat (T : TX K mg) : FnOk P w K mg base CX0 4 T.f_require_seat T.fd_require_seat ["table", "seat"] (sp_require_seat K T.C_Table) := by
  refine T.F_require_seat.ok sc_require_seat (fun vs H Q E h => ?_) (fun cdv A outer s H vs Q E hr h => ?_)
  · obtain ⟨a, x, ns, ot, rfl, _⟩ := h
    rfl
  · obtain ⟨a, x, ns, ot, rfl, ht, l4, hx, ok, k⟩ := h
    refine ⟨_, (pss_one (ps_if (pt_not (pt_val (pe_meth (pv 0) T.cl_Table T.me_Table_is_seat (ok_Table_is_seat T) hr T.b_Table_is_seat .nil pass0 (pa_cons (pv 1) pa_nil)))) pss_never pss_nil)), ?_⟩
    obtain ⟨dx, t, h1, h2⟩ := id ht
    refine ⟨_, rfl, a, dx, _, rfl, h1, rfl, _, rfl, a, x, ns, ot, rfl, ht, l4, hx, fun H2 e => ⟨_, rfl, itf (by rw [ok]; rfl) (k _ e)⟩⟩
def sp_require_call (K : PySem.W.Frag) (C : Addr) : Sp := fun vs H Q _ => ∃ (a : Addr) (x : V) (ns : List Int) (ot : Option (List (Option Int))), vs = [.ref a, x] ∧ TabAt C H a ns ∧ TupA K H x ot ∧ isCallO ns ot = true ∧ ∀ H2, Ex H H2 → Q .non H2
theorem ok_require_call (T : TX K mg) : FnOk P w K mg base CX0 3 T.f_require_call T.fd_require_call ["table", "call"] (sp_require_call K T.C_Table) := by
  refine T.F_require_call.ok sc_require_call (fun vs H Q E h => ?_) (fun cdv A outer s H vs Q E hr h => ?_)
  · obtain ⟨a, x, ns, ot, rfl, _⟩ := h
    rfl
  · obtain ⟨a, x, ns, ot, rfl, ht, hx, ok, k⟩ := h
    refine ⟨_, (pss_one (ps_if (pt_not (pt_val (pe_meth (pv 0) T.cl_Table T.me_Table_is_call (ok_Table_is_call T) hr T.b_Table_is_call .nil pass0 (pa_cons (pv 1) pa_nil)))) pss_never pss_nil)), ?_⟩
    obtain ⟨dx, t, h1, h2⟩ := id ht
    refine ⟨_, rfl, a, dx, _, rfl, h1, rfl, _, rfl, a, x, ns, ot, rfl, ht, hx, fun H2 e => ⟨_, rfl, itf (by rw [ok]; rfl) (k _ e)⟩⟩
def sp_Table_moves (C : Addr) : Sp := fun vs H Q _ => ∃ (a s c : Addr) (ns ps cs : List Int), vs = [.ref a, .ref s, .ref c] ∧ TabAt C H a ns ∧ SzOk ns ∧ H s = some (.tup (ps.map V.int)) ∧ H c = some (.tup (cs.map V.int)) ∧ SeatOk ns ps ∧ cs.length = ns.length ∧
  ∀ H2 q f b, Ex H H2 → H q = none → H f = none → H b = none → H2 q = some (.tup [.ref f, .ref b]) → H2 f = some (.tup ((shiftL ns ps cs 1).map V.int)) → H2 b = some (.tup ((shiftL ns ps cs (-1)).map V.int)) → Q (.ref q) H2
theorem ok_Table_moves (T : TX K mg) : FnOk P w K mg base CX0 5 T.f_Table_moves T.fd_Table_moves ["self", "seat", "call"] (sp_Table_moves T.C_Table) := by
  refine T.F_Table_moves.ok sc_Table_moves (fun vs H Q E h => ?_) (fun cdv A outer s H vs Q E hr h => ?_)
  · obtain ⟨a, s, c, ns, ps, cs, rfl, _⟩ := h
    rfl
  · obtain ⟨a, s, c, ns, ps, cs, rfl, ht, ok, hs, hc, sk, lc, k⟩ := h
    have l4 := ok.le
    have lp := sk.len
    refine ⟨_, (pss_cons (ps_expr (pe_call (ok_require_seat T) hr rfl T.m_require_seat T.F_require_seat.kp T.b_require_seat .nil pass0 (pa_cons (pv 0) (pa_cons (pv 1) pa_nil)))) (pss_cons (ps_expr (pe_call (ok_require_call T) (hr.mono (by decide)) rfl T.m_require_call T.F_require_call.kp T.b_require_call .nil pass0 (pa_cons (pv 0) (pa_cons (pv 2) pa_nil)))) (pss_one (ps_ret (pe_tup (pa_cons (pe_meth (pv 0) T.cl_Table T.me_Table_shifted (ok_Table_shifted T) (hr.mono (by decide)) T.b_Table_shifted .nil pass0 (pa_cons (pv 1) (pa_cons (pv 2) (pa_cons pe_int pa_nil)))) (pa_cons (pe_meth (pv 0) T.cl_Table T.me_Table_shifted (ok_Table_shifted T) (hr.mono (by decide)) T.b_Table_shifted .nil pass0 (pa_cons (pv 1) (pa_cons (pv 2) (pa_cons (pe_un un_neg pe_int) pa_nil)))) pa_nil))))))), ?_⟩
    refine ⟨_, rfl, _, rfl, a, _, ns, _, rfl, ht, l4, TupA.ints hs (by omega), isSeat_ok sk, fun H1 e1 => ?_⟩
    refine ⟨_, rfl, _, rfl, a, _, ns, _, rfl, ht.mono e1, TupA.ints (e1 _ _ hc) (by omega), isCall_ok lc, fun H2 e2 => ?_⟩
    have e12 : Ex H H2 := fun b o z => e2 b o (e1 b o z)
    obtain ⟨dx, t, g1, g2⟩ := ht.mono e12
    refine ⟨_, rfl, a, dx, _, rfl, g1, rfl, _, rfl, _, rfl, a, s, c, 1, ns, ps, cs, rfl, ⟨dx, t, g1, g2⟩, ok, e12 _ _ hs, e12 _ _ hc, lp, lc, .inl rfl, fun H3 f e3 nf hf => ?_⟩
    have e13 : Ex H H3 := fun b o z => e3 b o (e12 b o z)
    refine ⟨_, rfl, a, dx, _, rfl, e3 _ _ g1, rfl, _, rfl, _, rfl, _, rfl, a, s, c, -1, ns, ps, cs, rfl, ⟨dx, t, e3 _ _ g1, e3 _ _ g2⟩, ok, e13 _ _ hs, e13 _ _ hc, lp, lc, .inr rfl, fun H4 b e4 nb hb => ?_⟩
    have e14 : Ex H H4 := fun b o z => e4 b o (e13 b o z)
    refine ⟨by show 2 ≤ sizeLine; decide, fun q hq => ?_⟩
    have nfq : f ≠ q := ne_of_none (e4 _ _ hf) hq
    have nbq : b ≠ q := ne_of_none hb hq
    exact k _ q f b (fun c o z => exn hq c o (e14 c o z)) (Evl.fresh_back e14 hq) (Evl.fresh_back e12 nf) (Evl.fresh_back e13 nb) upd_same (by rw [upd_ne nfq]; exact e4 _ _ hf) (by rw [upd_ne nbq]; exact hb)
def sp_Table_step (C : Addr) : Sp := fun vs H Q _ => ∃ (a s c : Addr) (ns ps cs : List Int) (bk : Bool), vs = [.ref a, .ref s, .ref c, .str (if bk = true then "backward" else "forward")] ∧ TabAt C H a ns ∧ SzOk ns ∧ H s = some (.tup (ps.map V.int)) ∧ H c = some (.tup (cs.map V.int)) ∧ SeatOk ns ps ∧ cs.length = ns.length ∧
  ∀ H2 q, Ex H H2 → H q = none → H2 q = some (.tup ((shiftL ns ps cs (if bk = true then -1 else 1)).map V.int)) → Q (.ref q) H2
theorem ok_Table_step (T : TX K mg) : FnOk P w K mg base CX0 6 T.f_Table_step T.fd_Table_step ["self", "seat", "call", "direction"] (sp_Table_step T.C_Table) := by
  refine T.F_Table_step.ok sc_Table_step (fun vs H Q E h => ?_) (fun cdv A outer s H vs Q E hr h => ?_)
  · obtain ⟨a, s, c, ns, ps, cs, bk, rfl, _⟩ := h
    rfl
  · obtain ⟨a, s, c, ns, ps, cs, bk, rfl, ht, ok, hs, hc, sk, lc, k⟩ := h
    refine ⟨_, (pss_cons (ps_set (i := 4) sc_Table_step.nd rfl (Or.inl rfl) (pe_meth (pv 0) T.cl_Table T.me_Table_moves (ok_Table_moves T) hr T.b_Table_moves .nil pass0 (pa_cons (pv 1) (pa_cons (pv 2) pa_nil)))) (pss_cons (ps_if (pt_not (pt_val (pe_call (ok_is_direction T) (hr.mono (by decide)) rfl T.m_is_direction T.F_is_direction.kp T.b_is_direction .nil pass0 (pa_cons (pv 3) pa_nil)))) pss_never pss_nil) (pss_one (ps_ret (pe_ix ix_tup (pv 4) (pe_callTy call_int1 (by rfl) T.z_int (by decide +kernel) (pa_cons (pe_cmpR op_eq (pv 3) pe_str (nomark _)) pa_nil)) (fun _ _ => rfl)))))), ?_⟩
    obtain ⟨dx, t, g1, g2⟩ := id ht
    refine ⟨_, rfl, a, dx, _, rfl, g1, rfl, _, rfl, _, rfl, a, s, c, ns, ps, cs, rfl, ht, ok, hs, hc, sk, lc, fun H1 q f b e1 nq nf nb hq hf hb => ?_⟩
    refine ⟨_, rfl, _, some _, rfl, rfl, fun H2 e2 => ⟨_, rfl, itf ?_ ?_⟩⟩
    · cases bk <;> decide +kernel
    · cases bk with
      | false =>
        refine ⟨_, rfl, _, rfl, rfl, .inr ⟨_, rfl, q, _, _, _, rfl, rfl, SqT.of (e2 _ _ hq), ?_, k _ f (fun c o z => e2 c o (e1 c o z)) nf (e2 _ _ hf)⟩⟩
        have ei : (if decide (V.str (if false = true then "backward" else "forward") = V.str "backward") = true then 1 else 0 : Int) = 0 := by decide +kernel
        rw [ei]
        rfl
      | true =>
        refine ⟨_, rfl, _, rfl, rfl, .inr ⟨_, rfl, q, _, _, _, rfl, rfl, SqT.of (e2 _ _ hq), ?_, k _ b (fun c o z => e2 c o (e1 c o z)) nb (e2 _ _ hb)⟩⟩
        have ei : (if decide (V.str (if true = true then "backward" else "forward") = V.str "backward") = true then 1 else 0 : Int) = 1 := by decide +kernel
        rw [ei]
        rfl
end

/-- all but what is at s stays -/
def XB (s : Addr) (H H2 : Hp) : Prop := ∀ c o, c ≠ s → H c = some o → H2 c = some o
theorem XB.refl {s : Addr} {H : Hp} : XB s H H := fun _ _ _ h => h
theorem XB.trans {s : Addr} {H H1 H2 : Hp} (a : XB s H H1) (b : XB s H1 H2) : XB s H H2 := fun c o n h => b c o n (a c o n h)
theorem XB.upd {s : Addr} {H : Hp} {o : HO} : XB s H (upd H s o) := fun c u n h => by rw [upd_ne n]; exact h
theorem XB.of {s : Addr} {H H2 : Hp} (e : Ex H H2) : XB s H H2 := fun c o _ h => e c o h
theorem XB.back {s : Addr} {H H2 : Hp} (e : XB s H H2) {p : Addr} (hn : p ≠ s) (h : H2 p = none) : H p = none := by
  cases q : H p with
  | none => rfl
  | some o => rw [e p o hn q] at h; cases h
theorem mod_lo {i n : Int} (h : 0 < n) : 0 ≤ i % n := Int.emod_nonneg i (by omega)
theorem mod_hi {i n : Int} (h : 0 < n) : i % n < n := Int.emod_lt_of_pos i h

/-! ### data -/
mutual
theorem eqv_refl : ∀ d : PyData, d.canLay0 = true → PyData.eqv d d = true
  | .none, _ => by simp only [PyData.eqv]
  | .bool b, _ => by simp only [PyData.eqv, beq_self_eq_true]
  | .int i, _ => by simp only [PyData.eqv, beq_self_eq_true]
  | .str x, _ => by simp only [PyData.eqv, beq_self_eq_true]
  | .list xs, h => by
    simp only [PyData.canLay0] at h
    simp only [PyData.eqv]
    exact eqvAll_refl xs h
  | .tuple xs, h => by
    simp only [PyData.canLay0] at h
    simp only [PyData.eqv]
    exact eqvAll_refl xs h
  | .dict _, h => by simp [PyData.canLay0] at h
theorem eqvAll_refl : ∀ ds : List PyData, PyData.canLayAll0 ds = true → PyData.eqvAll ds ds = true
  | [], _ => by simp only [PyData.eqvAll]
  | d :: ds, h => by
    simp only [PyData.canLayAll0, Bool.and_eq_true] at h
    simp only [PyData.eqvAll, Bool.and_eq_true]
    exact ⟨eqv_refl d h.1, eqvAll_refl ds h.2⟩
end
/-- data of a depth below n, in a form that may be laid -/
def Sh (n : Nat) (d : PyData) : Prop := d.canLay0 = true ∧ d.depth ≤ n
theorem Sh.ok {d : PyData} (h : Sh 60 d) : SeqAt.shaped d = true := by
  unfold SeqAt.shaped
  rw [h.1, decide_eq_true (Nat.le_trans h.2 (by decide))]
  rfl
theorem sh_int {n : Nat} (i : Int) : Sh n (.int i) := ⟨by simp only [PyData.canLay0], by simp only [PyData.depth]; omega⟩
theorem sh_bool {n : Nat} (i : Bool) : Sh n (.bool i) := ⟨by simp only [PyData.canLay0], by simp only [PyData.depth]; omega⟩
theorem sh_none {n : Nat} : Sh n .none := ⟨by simp only [PyData.canLay0], by simp only [PyData.depth]; omega⟩
theorem sh_all {n : Nat} : ∀ {ds : List PyData}, (∀ d ∈ ds, Sh n d) → PyData.canLayAll0 ds = true ∧ PyData.depthAll ds ≤ n
  | [], _ => ⟨by simp only [PyData.canLayAll0], by simp only [PyData.depthAll]; omega⟩
  | d :: ds, h => by
    obtain ⟨h1, h2⟩ := h d List.mem_cons_self
    obtain ⟨g1, g2⟩ := sh_all fun x hx => h x (List.mem_cons_of_mem _ hx)
    refine ⟨by simp only [PyData.canLayAll0, h1, g1, Bool.and_self], ?_⟩
    simp only [PyData.depthAll]
    omega
theorem sh_tuple {n : Nat} {ds : List PyData} (h : ∀ d ∈ ds, Sh n d) : Sh (n + 1) (.tuple ds) := by
  obtain ⟨h1, h2⟩ := sh_all h
  exact ⟨by simp only [PyData.canLay0, h1], by simp only [PyData.depth]; omega⟩
theorem sh_list {n : Nat} {ds : List PyData} (h : ∀ d ∈ ds, Sh n d) : Sh (n + 1) (.list ds) := by
  obtain ⟨h1, h2⟩ := sh_all h
  exact ⟨by simp only [PyData.canLay0, h1], by simp only [PyData.depth]; omega⟩
theorem Sh.up {n m : Nat} {d : PyData} (h : Sh n d) (e : n ≤ m) : Sh m d := ⟨h.1, Nat.le_trans h.2 e⟩
/-- a tuple of ints -/
abbrev iT (ns : List Int) : PyData := .tuple (ns.map PyData.int)
theorem sh_ints {n : Nat} (ns : List Int) : Sh (n + 1) (iT ns) := sh_tuple fun d hd => by
  obtain ⟨i, _, rfl⟩ := List.mem_map.mp hd
  exact sh_int i
theorem dpall_ints {K : PySem.W.Frag} {H : Hp} : ∀ ns : List Int, DpAll K H (ns.map V.int) (ns.map PyData.int)
  | [] => .nil
  | n :: ns => .cons (.int n) (dpall_ints ns)
theorem dp_ints {K : PySem.W.Frag} {H : Hp} {a : Addr} {ns : List Int} (h : H a = some (.tup (ns.map V.int))) : Dp K H (.ref a) (iT ns) := .tup (SqT.of h) (dpall_ints ns)
theorem eqvAll_ints : ∀ ns ms : List Int, PyData.eqvAll (ns.map PyData.int) (ms.map PyData.int) = decide (ns = ms)
  | [], [] => by simp [PyData.eqvAll]
  | [], _ :: _ => by simp [PyData.eqvAll]
  | _ :: _, [] => by simp [PyData.eqvAll]
  | n :: ns, m :: ms => by
    have ih := eqvAll_ints ns ms
    simp only [List.map_cons, PyData.eqvAll, PyData.eqv, ih]
    by_cases h : n = m
    · subst h
      simp
    · have : (n == m) = false := by simpa using h
      rw [this]
      simp [h]
theorem eqv_ints (ns ms : List Int) : PyData.eqv (iT ns) (iT ms) = decide (ns = ms) := by
  simp only [PyData.eqv]
  exact eqvAll_ints ns ms
theorem sh_pair {n : Nat} {a b : PyData} (ha : Sh n a) (hb : Sh n b) : Sh (n + 1) (.tuple [a, b]) := sh_tuple fun d hd => by
  rcases List.mem_cons.mp hd with e | e
  · rw [e]; exact ha
  · rw [List.mem_singleton.mp e]; exact hb
theorem eqv_same {d : PyData} (h : Sh 60 d) : (!PyData.eqv d d) = false := by rw [eqv_refl d h.1]; rfl

/-! ### zip's rows, nested comprehensions, lists of tuples of ints -/
theorem yrow2 {xs ys : List V} {i : Nat} {H H2 : Hp} {x : V} (h : CZ.YRow [xs, ys] i H x H2) : ∃ (Ta : Addr) (a b : V), x = .ref Ta ∧ H Ta = none ∧ H2 = upd H Ta (.tup [a, b]) ∧ xs[i]? = some a ∧ ys[i]? = some b := by
  obtain ⟨Ta, vs, rfl, hT, rfl, r⟩ := h
  cases r with
  | cons r1 r =>
    cases r with
    | cons r2 r =>
      cases r
      exact ⟨Ta, _, _, rfl, hT, rfl, r1, r2⟩
theorem yrow3 {xs ys zs : List V} {i : Nat} {H H2 : Hp} {x : V} (h : CZ.YRow [xs, ys, zs] i H x H2) : ∃ (Ta : Addr) (a b c : V), x = .ref Ta ∧ H Ta = none ∧ H2 = upd H Ta (.tup [a, b, c]) ∧ xs[i]? = some a ∧ ys[i]? = some b ∧ zs[i]? = some c := by
  obtain ⟨Ta, vs, rfl, hT, rfl, r⟩ := h
  cases r with
  | cons r1 r =>
    cases r with
    | cons r2 r =>
      cases r with
      | cons r3 r =>
        cases r
        exact ⟨Ta, _, _, _, rfl, hT, rfl, r1, r2, r3⟩
theorem yints2 {xs ys : List Int} {i : Nat} {H H2 : Hp} {x : V} (h : CZ.YRow [xs.map V.int, ys.map V.int] i H x H2) : ∃ (Ta : Addr) (a b : Int), x = .ref Ta ∧ H Ta = none ∧ H2 = upd H Ta (.tup [.int a, .int b]) ∧ xs[i]? = some a ∧ ys[i]? = some b := by
  obtain ⟨Ta, a, b, rfl, hT, rfl, r1, r2⟩ := yrow2 h
  obtain ⟨p, hp, rfl⟩ := map_get r1
  obtain ⟨q, hq, rfl⟩ := map_get r2
  exact ⟨Ta, p, q, rfl, hT, rfl, hp, hq⟩
theorem yints3 {xs ys zs : List Int} {i : Nat} {H H2 : Hp} {x : V} (h : CZ.YRow [xs.map V.int, ys.map V.int, zs.map V.int] i H x H2) : ∃ (Ta : Addr) (a b c : Int), x = .ref Ta ∧ H Ta = none ∧ H2 = upd H Ta (.tup [.int a, .int b, .int c]) ∧ xs[i]? = some a ∧ ys[i]? = some b ∧ zs[i]? = some c := by
  obtain ⟨Ta, a, b, c, rfl, hT, rfl, r1, r2, r3⟩ := yrow3 h
  obtain ⟨p, hp, rfl⟩ := map_get r1
  obtain ⟨q, hq, rfl⟩ := map_get r2
  obtain ⟨r, hr, rfl⟩ := map_get r3
  exact ⟨Ta, p, q, r, rfl, hT, rfl, hp, hq, hr⟩
theorem all2 {K : PySem.W.Frag} {H : Hp} {p q : Bool × Addr} {xs ys : List V} (hp : CZ.SqK K H p xs) (hq : CZ.SqK K H q ys) : ∀ r ∈ [p, q], ∃ zs, CZ.SqK K H r zs := fun r hr => by
  rcases List.mem_cons.mp hr with e | hr
  · rw [e]; exact ⟨_, hp⟩
  · rw [List.mem_singleton.mp hr]; exact ⟨_, hq⟩
theorem all3 {K : PySem.W.Frag} {H : Hp} {p q t : Bool × Addr} {xs ys us : List V} (hp : CZ.SqK K H p xs) (hq : CZ.SqK K H q ys) (ht : CZ.SqK K H t us) : ∀ r ∈ [p, q, t], ∃ zs, CZ.SqK K H r zs := fun r hr => by
  rcases List.mem_cons.mp hr with e | hr
  · rw [e]; exact ⟨_, hp⟩
  · exact all2 hq ht r hr
theorem lens2 {xs ys : List V} {n : Nat} (h1 : xs.length = n) (h2 : ys.length = n) : ∀ zs ∈ [xs, ys], zs.length = n := fun zs hz => by
  rcases List.mem_cons.mp hz with e | hz
  · rw [e]; exact h1
  · rw [List.mem_singleton.mp hz]; exact h2
theorem lens3 {xs ys us : List V} {n : Nat} (h1 : xs.length = n) (h2 : ys.length = n) (h3 : us.length = n) : ∀ zs ∈ [xs, ys, us], zs.length = n := fun zs hz => by
  rcases List.mem_cons.mp hz with e | hz
  · rw [e]; exact h1
  · exact lens2 h2 h3 zs hz
theorem sqT {K : PySem.W.Frag} {H : Hp} {a : Addr} {xs : List V} (h : H a = some (.tup xs)) : CZ.SqK K H (true, a) xs := SqT.of h
theorem sqL {K : PySem.W.Frag} {H : Hp} {a : Addr} {xs : List V} (h : H a = some (.lst xs)) : CZ.SqK K H (false, a) xs := SqL.of h
section
variable {J : It} {n : Nat} {G : Hp → Prop} {Y : Nat → Hp → V → Hp → Prop}
/-- a comprehension of two loops: the outer -/
theorem lc2_it (w : Walk J n G Y) {g g1 : TG} {tt tt1 : TT} {te : TE} {wi1 : TI} {vs vs1 : List Nat} {σ : L2.St} {H1 : Hp} {D : Addr} {Qd : Hp → Prop} (Pv : Nat → Hp → Prop) (h0 : Pv 0 (upd H1 D (.lst []))) (hG : ∀ i H, i ≤ n → Pv i H → G H)
    (hs : ∀ i x H H2, i < n → Pv i H → Y i H x H2 → g x (wipe σ vs) H2 fun σ2 H2 => wipe σ2 vs = wipe σ vs ∧ tt σ2 H2 fun b H3 =>
      if b = true then wi1 σ2 H3 fun J1 H4 => ∃ W1 : Nat → Nat → Hp → Prop, (∃ m, W1 0 m H4) ∧ ∀ j k H, W1 j k H →
        (J1.stop j H ∧ Pv (i + 1) H) ∨ (J1.go j H ∧ ∃ Nx1 : Hp → Prop, (∀ H2, Nx1 H2 → ∃ k2, k2 < k ∧ W1 (j + 1) k2 H2) ∧ ∀ x H2, J1.yld j H x H2 → g1 x (wipe σ2 vs1) H2 fun σ3 H5 => wipe σ3 vs1 = wipe σ2 vs1 ∧ tt1 σ3 H5 fun b H6 =>
          if b = true then te σ3 H6 fun y H7 => ∃ acc, H7 D = some (.lst acc) ∧ acc.length < sizeLine ∧ Nx1 (upd H7 D (.lst (acc ++ [y]))) else Nx1 H6)
      else Pv (i + 1) H3) (hd : ∀ H, Pv n H → Qd H) :
    ∃ W : Nat → Nat → Hp → Prop, (∃ m, W 0 m (upd H1 D (.lst []))) ∧ ∀ i m H, W i m H →
      (J.stop i H ∧ Qd H) ∨ (J.go i H ∧ ∃ Nx : Hp → Prop, (∀ H2, Nx H2 → ∃ m2, m2 < m ∧ W (i + 1) m2 H2) ∧ ∀ x H2, J.yld i H x H2 → g x (wipe σ vs) H2 fun σ2 H2 => wipe σ2 vs = wipe σ vs ∧ tt σ2 H2 fun b H3 =>
        if b = true then wi1 σ2 H3 fun J1 H4 => ∃ W1 : Nat → Nat → Hp → Prop, (∃ m, W1 0 m H4) ∧ ∀ j k H, W1 j k H →
          (J1.stop j H ∧ Nx H) ∨ (J1.go j H ∧ ∃ Nx1 : Hp → Prop, (∀ H2, Nx1 H2 → ∃ k2, k2 < k ∧ W1 (j + 1) k2 H2) ∧ ∀ x H2, J1.yld j H x H2 → g1 x (wipe σ2 vs1) H2 fun σ3 H5 => wipe σ3 vs1 = wipe σ2 vs1 ∧ tt1 σ3 H5 fun b H6 =>
            if b = true then te σ3 H6 fun y H7 => ∃ acc, H7 D = some (.lst acc) ∧ acc.length < sizeLine ∧ Nx1 (upd H7 D (.lst (acc ++ [y]))) else Nx1 H6)
        else Nx H3) := by
  refine ⟨fun i m H => m = n - i ∧ i ≤ n ∧ Pv i H, ⟨n, by simp, Nat.zero_le _, h0⟩, ?_⟩
  rintro i m H ⟨rfl, hi, p⟩
  have q := hG i H hi p
  by_cases hlt : i < n
  · refine .inr ⟨w.goes i H hlt q, Pv (i + 1), fun H2 p2 => ⟨n - (i + 1), by omega, rfl, hlt, p2⟩, fun x H2 y => hs i x H H2 hlt p (w.yields i H x H2 hlt q y)⟩
  · have e : i = n := by omega
    subst e
    exact .inl ⟨w.stops H q, hd H p⟩
/-- .. the inner -/
theorem in_it (w : Walk J n G Y) {g1 : TG} {tt1 : TT} {te : TE} {vs1 : List Nat} {σ2 : L2.St} {H4 : Hp} {D : Addr} {Nx : Hp → Prop} (Pw : Nat → Hp → Prop) (h0 : Pw 0 H4) (hG : ∀ i H, i ≤ n → Pw i H → G H)
    (hs : ∀ j x H H2, j < n → Pw j H → Y j H x H2 → g1 x (wipe σ2 vs1) H2 fun σ3 H5 => wipe σ3 vs1 = wipe σ2 vs1 ∧ tt1 σ3 H5 fun b H6 =>
      if b = true then te σ3 H6 fun y H7 => ∃ acc, H7 D = some (.lst acc) ∧ acc.length < sizeLine ∧ Pw (j + 1) (upd H7 D (.lst (acc ++ [y]))) else Pw (j + 1) H6) (hd : ∀ H, Pw n H → Nx H) :
    ∃ W1 : Nat → Nat → Hp → Prop, (∃ m, W1 0 m H4) ∧ ∀ j k H, W1 j k H →
      (J.stop j H ∧ Nx H) ∨ (J.go j H ∧ ∃ Nx1 : Hp → Prop, (∀ H2, Nx1 H2 → ∃ k2, k2 < k ∧ W1 (j + 1) k2 H2) ∧ ∀ x H2, J.yld j H x H2 → g1 x (wipe σ2 vs1) H2 fun σ3 H5 => wipe σ3 vs1 = wipe σ2 vs1 ∧ tt1 σ3 H5 fun b H6 =>
        if b = true then te σ3 H6 fun y H7 => ∃ acc, H7 D = some (.lst acc) ∧ acc.length < sizeLine ∧ Nx1 (upd H7 D (.lst (acc ++ [y]))) else Nx1 H6) := by
  refine ⟨fun i m H => m = n - i ∧ i ≤ n ∧ Pw i H, ⟨n, by simp, Nat.zero_le _, h0⟩, ?_⟩
  rintro i m H ⟨rfl, hi, p⟩
  have q := hG i H hi p
  by_cases hlt : i < n
  · refine .inr ⟨w.goes i H hlt q, Pw (i + 1), fun H2 p2 => ⟨n - (i + 1), by omega, rfl, hlt, p2⟩, fun x H2 y => hs i x H H2 hlt p (w.yields i H x H2 hlt q y)⟩
  · have e : i = n := by omega
    subst e
    exact .inl ⟨w.stops H q, hd H p⟩
end
/-- refs of tuples of ints -/
def RowsR (H : Hp) (xs : List V) (hss : List (List Int)) : Prop := Paired (fun x hs => ∃ r, x = V.ref r ∧ H r = some (.tup (hs.map V.int))) xs hss
theorem RowsR.mono {H H2 : Hp} (e : Ex H H2) : ∀ {xs : List V} {hss : List (List Int)}, RowsR H xs hss → RowsR H2 xs hss
  | _, _, .nil => .nil
  | _, _, .cons ⟨r, h1, h2⟩ t => .cons ⟨r, h1, e _ _ h2⟩ (RowsR.mono e t)
theorem RowsR.snoc {H : Hp} {r : Addr} {hs : List Int} (h : H r = some (.tup (hs.map V.int))) : ∀ {xs : List V} {hss : List (List Int)}, RowsR H xs hss → RowsR H (xs ++ [.ref r]) (hss ++ [hs])
  | _, _, .nil => .cons ⟨r, rfl, h⟩ .nil
  | _, _, .cons q t => .cons q (RowsR.snoc h t)
theorem RowsR.app {H : Hp} {ys : List V} {kss : List (List Int)} (h : RowsR H ys kss) : ∀ {xs : List V} {hss : List (List Int)}, RowsR H xs hss → RowsR H (xs ++ ys) (hss ++ kss)
  | _, _, .nil => h
  | _, _, .cons q t => .cons q (RowsR.app h t)
theorem RowsR.len {H : Hp} : ∀ {xs : List V} {hss : List (List Int)}, RowsR H xs hss → xs.length = hss.length
  | _, _, .nil => rfl
  | _, _, .cons _ t => by rw [List.length_cons, List.length_cons, RowsR.len t]
theorem RowsR.get {H : Hp} : ∀ {xs : List V} {hss : List (List Int)} {i : Nat} {x : V}, RowsR H xs hss → xs[i]? = some x → ∃ hs r, hss[i]? = some hs ∧ x = V.ref r ∧ H r = some (.tup (hs.map V.int))
  | _, _, _, _, .nil, h => by simp at h
  | _, _, 0, _, .cons ⟨r, e, q⟩ _, h => by
    simp only [List.length_cons, Nat.zero_lt_succ, List.getElem?_eq_getElem, List.getElem_cons_zero, Option.some.injEq] at h
    subst h
    exact ⟨_, r, rfl, e, q⟩
  | _, _, i + 1, _, .cons _ t, h => by
    rw [List.getElem?_cons_succ] at h ⊢
    exact RowsR.get t h
theorem RowsR.dp {K : PySem.W.Frag} {H : Hp} : ∀ {xs : List V} {hss : List (List Int)}, RowsR H xs hss → DpAll K H xs (hss.map iT)
  | _, _, .nil => .nil
  | _, _, .cons ⟨r, e, q⟩ t => by
    subst e
    exact .cons (dp_ints q) (RowsR.dp t)
/-- a list of tuples of ints -/
def RowsAt (H : Hp) (D : Addr) (hss : List (List Int)) : Prop := ∃ xs, H D = some (.lst xs) ∧ RowsR H xs hss
theorem RowsAt.mono {H H2 : Hp} {D : Addr} {hss : List (List Int)} (e : Ex H H2) (h : RowsAt H D hss) : RowsAt H2 D hss := by
  obtain ⟨xs, h1, h2⟩ := h
  exact ⟨xs, e _ _ h1, h2.mono e⟩
theorem RowsAt.dp {K : PySem.W.Frag} {H : Hp} {D : Addr} {hss : List (List Int)} (h : RowsAt H D hss) : Dp K H (.ref D) (.list (hss.map iT)) := by
  obtain ⟨xs, h1, h2⟩ := h
  exact .lst (SqL.of h1) h2.dp
theorem sh_rows {n : Nat} (hss : List (List Int)) : Sh (n + 2) (.list (hss.map iT)) := sh_list fun d hd => by
  obtain ⟨hs, _, rfl⟩ := List.mem_map.mp hd
  exact sh_ints hs
theorem eqvAll_rows : ∀ ns ms : List (List Int), PyData.eqvAll (ns.map iT) (ms.map iT) = decide (ns = ms)
  | [], [] => by simp [PyData.eqvAll]
  | [], _ :: _ => by simp [PyData.eqvAll]
  | _ :: _, [] => by simp [PyData.eqvAll]
  | n :: ns, m :: ms => by
    have ih := eqvAll_rows ns ms
    simp only [List.map_cons, PyData.eqvAll, eqv_ints, ih]
    by_cases h : n = m
    · subst h
      simp
    · simp [h]
theorem eqv_rows (ns ms : List (List Int)) : PyData.eqv (.list (ns.map iT)) (.list (ms.map iT)) = decide (ns = ms) := by
  simp only [PyData.eqv]
  exact eqvAll_rows ns ms
theorem RowsR.upd {H : Hp} {D : Addr} {acc : List V} {o : HO} (hD : H D = some (.lst acc)) : ∀ {xs : List V} {hss : List (List Int)}, RowsR H xs hss → RowsR (upd H D o) xs hss
  | _, _, .nil => .nil
  | _, _, .cons ⟨r, h1, h2⟩ t => .cons ⟨r, h1, by rw [upd_ne (ne_of h2 hD (by intro z; cases z))]; exact h2⟩ (RowsR.upd hD t)
theorem rows_push {H : Hp} {D u : Addr} {hss : List (List Int)} {ks : List Int} (h : RowsAt H D hss) (hu : H u = some (.tup (ks.map V.int))) : ∃ acc, H D = some (.lst acc) ∧ acc.length = hss.length ∧ RowsAt (upd H D (.lst (acc ++ [.ref u]))) D (hss ++ [ks]) := by
  obtain ⟨xs, h1, h2⟩ := h
  refine ⟨xs, h1, h2.len, _, upd_same, ?_⟩
  exact RowsR.snoc (by rw [upd_ne (ne_of hu h1 (by intro z; cases z))]; exact hu) (h2.upd h1)
theorem ex_upd {H H2 : Hp} {D : Addr} {o : HO} (e : Ex H H2) (hD : H D = none) : Ex H (upd H2 D o) := fun c u z => by
  rw [upd_ne (ne_of_none z hD)]
  exact e c u z
theorem ext {H H1 H2 : Hp} (a : Ex H H1) (b : Ex H1 H2) : Ex H H2 := fun c o z => b c o (a c o z)

/-! ### tuple * int, from 1 on -/
theorem u65 {k : Nat} {A : Around} (r : Room k A) : A.units + 65 < cLine := by have := r.un; omega
theorem tuple_mul1 (l : Addr) (items : Array Value) (n : Nat) (dd : Option Addr) (sl : Array (Option Value)) (x : Int) (u : Tok) (c0 : (decide (x < -(2 ^ 63)) || decide (x ≥ 2 ^ 63)) = false) (c1 : (items.isEmpty || x == 1) = true) :
    Meets (Builtin.«tuple.__mul__» ⟨[.ref l, .int x u], []⟩) (fun _ R s => s.heap.get? l = some { cls := .type "tuple", dict := dd, data := .seq items n, slots := sl } ∧ R (.ok (.ret (Value.ref l))) s) :=
  .of_wp fun prog w A R s h => by
    obtain ⟨hp, g, d, tk, os⟩ := s
    obtain ⟨hl, h⟩ := h
    have f1 := AutoSeq1.idx_int
    wp_walk using wpAny_loadPart' hl
    repeat (first
      | (refine wpAny_ite_false (decide_eq_false (by rw [c0]; exact Bool.false_ne_true)) ?_; wp_walk using wpAny_loadPart' hl)
      | (refine wpAny_ite_true (decide_eq_true c1) ?_; wp_walk using wpAny_loadPart' hl))
    exact ⟨_, rfl, h⟩
def rRepA (K : PySem.W.Frag) : R2 := fun x y H Q => ∃ l k xs, x = .ref l ∧ y = .int k ∧ SqT K H l xs ∧ xs ≠ [] ∧ 1 ≤ k ∧ k ≤ 1000 ∧ xs.length ≤ 1000 ∧ (k = 1 → Q (.ref l) H) ∧ ∀ p, H p = none → Q (.ref p) (upd H p (.tup (List.replicate k.toNat xs).flatten))
theorem op_repA {X : Cx} : OpR X (binaryOp .Mult) (rRepA X.K) := by
  intro pins s σ H x y v u Q I rx ry h
  obtain ⟨l, k, xs, ex, ey, hT, hne, h1, h2, hz, q1, q⟩ := h
  by_cases hk : k = 1
  · subst ex ey hk
    cases rx
    obtain ⟨t, rfl⟩ := ry
    obtain ⟨its, r, ⟨⟨cls, dd, data, sl⟩, ho, hc, n, hd⟩, hs⟩ := I.tuple hT
    simp only at hc hd
    subst hc hd
    refine wpAny_binaryOp_repeat_ref (T := "tuple") (U := "int") (by decide) ⟨_, ho, rfl⟩ (fun s2 => typeIs_int s2 1 t) noFill_tuple_mul PySem.F.fills_int_mul PySem.F.slot_int_rmul repeat_tuple PySem.F.slot_int_index.lookup
      (call_meets PySem.F.slot_int_rmul (typeIs_int s 1 t) PySem.F.entry_int_rmul (PySem.F.args_int_rmul_2 _ _) (int_rmul_tuple 1 t l its.toArray n dd sl)
        ⟨ho, rfl, ⟨_, ho, rfl⟩, call_meets PySem.F.slot_tuple_mul ⟨_, ho, rfl⟩ PySem.F.entry_tuple_mul (PySem.F.args_tuple_mul_2 _ _) (tuple_mul1 l its.toArray n dd sl 1 t (by decide) (by simp)) ⟨ho, ?_⟩⟩)
    exact ⟨.ref l, H, I, rfl, q1 rfl⟩
  · exact op_repT pins s σ H x y v u Q I rx ry ⟨l, k, xs, ex, ey, hT, hne, by omega, h2, hz, q⟩
/-- (x,) * k -/
theorem rep_one (x : V) (k : Nat) : (List.replicate k [x]).flatten = List.replicate k x := by
  induction k with
  | zero => rfl
  | succ k ih => rw [List.replicate_succ, List.flatten_cons, ih, List.replicate_succ]; rfl
theorem rep_ints {K : PySem.W.Frag} {H : Hp} {Q : VK} {u : Addr} {x k : Int} (hu : H u = some (.tup [.int x])) (h1 : 1 ≤ k) (h2 : k ≤ 1000) (h : ∀ q H2, Ex H H2 → H2 q = some (.tup ((List.replicate k.toNat x).map V.int)) → Q (.ref q) H2) : rRepA K (.ref u) (.int k) H Q := by
  refine ⟨u, k, [.int x], rfl, rfl, SqT.of hu, (fun z => nomatch z), h1, h2, (by show 1 ≤ 1000; decide), fun e => ?_, fun p hp => ?_⟩
  · subst e
    exact h u H exr hu
  · refine h p _ (exn hp) ?_
    rw [upd_same, rep_one, List.map_replicate]
theorem ne_same {a b : List Int} (h : a = b) : (!PyData.eqv (iT a) (iT b)) = false := by rw [h]; exact eqv_same (sh_ints b)
/-- a comprehension over a tuple of ints, by a value each -/
theorem row_in {hss : List (List Int)} {ps : List Int} (h : ps ∈ hss) : ((hss.map iT).any fun z => PyData.eqv z (iT ps)) = true := by
  rw [List.any_eq_true]
  exact ⟨iT ps, List.mem_map.mpr ⟨ps, h, rfl⟩, by rw [eqv_ints]; simp⟩
/-- a list of ints -/
abbrev iL (ns : List Int) : PyData := .list (ns.map PyData.int)
theorem sh_ilist {n : Nat} (ns : List Int) : Sh (n + 1) (iL ns) := sh_list fun d hd => by
  obtain ⟨i, _, rfl⟩ := List.mem_map.mp hd
  exact sh_int i
theorem dp_ilist {K : PySem.W.Frag} {H : Hp} {a : Addr} {ns : List Int} (h : H a = some (.lst (ns.map V.int))) : Dp K H (.ref a) (iL ns) := .lst (SqL.of h) (dpall_ints ns)
theorem eqv_ilist (ns ms : List Int) : PyData.eqv (iL ns) (iL ms) = decide (ns = ms) := by
  simp only [PyData.eqv]
  exact eqvAll_ints ns ms
theorem dec_bl {a b : Bool} (h : a = b) : (!decide (V.bl a = V.bl b)) = false := by rw [h]; simp
theorem emod_eq_iff {a b n : Int} : a % n = b % n ↔ n ∣ a - b := by
  rw [Int.emod_eq_emod_iff_emod_sub_eq_zero, Int.dvd_iff_emod_eq_zero]
/-- behind an if that changes names alone -/
theorem ifs_cutS {c : TT} {t u : TS} {D : Ends} {σ : L2.St} {H : Hp} (R : L2.St → Prop) (hR : ∀ σ2, R σ2 → D.nx σ2 H) (h : ∀ N : L2.St → Hp → Prop, (∀ σ2, R σ2 → N σ2 H) → tIfS c t u { D with nx := N } σ H) : tIfS c t u D σ H :=
  h D.nx hR

/-- a comprehension that lengthens a row by each of ks -/
theorem lc_rows {J : It} {n : Nat} {G : Hp → Prop} {Y : Nat → Hp → V → Hp → Prop} (w : Walk J n G Y) {g : TG} {te : TE} {vs : List Nat} {σ : L2.St} {H1 : Hp} {D : Addr} {Qd : Hp → Prop} (row ks : List Int) (hn : ks.length = n) (hl : n ≤ 10000000) (hD : H1 D = none)
    (hG : ∀ H, Ex H1 H → G H)
    (hs : ∀ i x H H2 (R : VK), i < n → Ex H1 H → Y i H x H2 → (∀ k v H5, Ex H H5 → ks[i]? = some k → H5 v = some (.tup ((row ++ [k]).map V.int)) → R (.ref v) H5) → g x (wipe σ vs) H2 fun σ2 H3 => wipe σ2 vs = wipe σ vs ∧ te σ2 H3 R)
    (hg : ∀ x σ2 H2 (R R2 : L2.St → Hp → Prop), (∀ σ3 H3, R σ3 H3 → R2 σ3 H3) → g x σ2 H2 R → g x σ2 H2 R2)
    (hd : ∀ H, Ex H1 H → RowsAt H D (ks.map fun k => row ++ [k]) → Qd H) :
    ∃ W : Nat → Nat → Hp → Prop, (∃ m, W 0 m (upd H1 D (.lst []))) ∧ ∀ i m H, W i m H →
      (J.stop i H ∧ Qd H) ∨ (J.go i H ∧ ∃ Nx : Hp → Prop, (∀ H2, Nx H2 → ∃ m2, m2 < m ∧ W (i + 1) m2 H2) ∧ ∀ x H2, J.yld i H x H2 → g x (wipe σ vs) H2 fun σ2 H3 => wipe σ2 vs = wipe σ vs ∧ tYes σ2 H3 fun b H4 =>
        if b = true then te σ2 H4 fun y H5 => ∃ acc, H5 D = some (.lst acc) ∧ acc.length < sizeLine ∧ Nx (upd H5 D (.lst (acc ++ [y]))) else Nx H4) := by
  refine lc_it w (fun i H => Ex H1 H ∧ RowsAt H D ((ks.take i).map fun k => row ++ [k])) ⟨exn hD, _, upd_same, .nil⟩ (fun i H _ p => hG H p.1) (fun i x H H2 hi p y => ?_) (fun H p => hd H p.1 (by have := p.2; rwa [List.take_of_length_le (by rw [hn]; exact Nat.le_refl _)] at this))
  refine hg _ _ _ _ _ (fun σ3 H3 q => ⟨q.1, q.2⟩) (hs i x H H2 (fun y H5 => ∃ acc, H5 D = some (.lst acc) ∧ acc.length < sizeLine ∧ Ex H1 (upd H5 D (.lst (acc ++ [y]))) ∧ RowsAt (upd H5 D (.lst (acc ++ [y]))) D ((ks.take (i + 1)).map fun k => row ++ [k])) hi p.1 y fun k v H5 e hk hv => ?_)
  obtain ⟨acc, h1, h2, h3⟩ := rows_push (p.2.mono e) hv
  refine ⟨acc, h1, ?_, ex_upd (ext p.1 e) hD, ?_⟩
  · rw [h2, List.length_map, List.length_take]
    exact Nat.lt_of_le_of_lt (Nat.le_trans (Nat.min_le_right _ _) (by rw [hn]; exact hl)) (by decide)
  · rw [take_more hk, List.map_append]
    exact h3
/-- row + (k,) -/
theorem cat_row {K : PySem.W.Frag} {H : Hp} {Q : VK} {r u : Addr} {row : List Int} {k : Int} (hr : H r = some (.tup (row.map V.int))) (hu : H u = some (.tup [.int k])) (hl : row.length ≤ 1000) (h : ∀ v H5, Ex H H5 → H5 v = some (.tup ((row ++ [k]).map V.int)) → Q (.ref v) H5) : rCatA K (.ref r) (.ref u) H Q := by
  refine ⟨r, u, row.map V.int, [.int k], rfl, rfl, SqT.of hr, SqT.of hu, ?_, fun z => ?_, fun _ z => (nomatch z), fun _ _ v hv => ?_⟩
  · rw [List.length_map]
    exact Nat.le_trans (show _ + 1 ≤ 1001 by omega) (by decide)
  · have : row = [] := List.map_eq_nil_iff.mp z
    subst this
    exact h u H exr hu
  · refine h v _ (exn hv) ?_
    rw [upd_same, List.map_append]
    rfl
theorem rows_ext {H : Hp} {D E : Addr} {hss kss : List (List Int)} (h1 : RowsAt H D hss) (h2 : RowsAt H E kss) (ne : D ≠ E) : ∃ xs zs, H D = some (.lst xs) ∧ H E = some (.lst zs) ∧ xs.length = hss.length ∧ zs.length = kss.length ∧ RowsAt (upd H D (.lst (xs ++ zs))) D (hss ++ kss) := by
  obtain ⟨xs, a1, a2⟩ := h1
  obtain ⟨zs, b1, b2⟩ := h2
  exact ⟨xs, zs, a1, b1, a2.len, b2.len, _, upd_same, RowsR.app (b2.upd a1) (a2.upd a1)⟩

theorem eqT {i j : Int} (h : decide (V.int i = V.int j) = true) : i = j := V.int.inj (of_decide_eq_true h)
theorem eqF {i j : Int} (h : ¬decide (V.int i = V.int j) = true) : i ≠ j := fun z => h (decide_eq_true (by rw [z]))
/-- behind an if -/
theorem ifs_cutG {c : TT} {t u : TS} {D : Ends} {σ : L2.St} {H : Hp} (R : L2.St → Hp → Prop) (hR : ∀ σ2 H2, R σ2 H2 → D.nx σ2 H2) (h : ∀ N : L2.St → Hp → Prop, (∀ σ2 H2, R σ2 H2 → N σ2 H2) → tIfS c t u { D with nx := N } σ H) : tIfS c t u D σ H :=
  h D.nx hR
theorem exG {H H4 : Hp} {p : Addr} {o : HO} (h : upd H p o = H4) (n : H p = none) : Ex H H4 := h ▸ exn n
theorem atG {H H4 : Hp} {p : Addr} {o : HO} (h : upd H p o = H4) : H4 p = some o := h ▸ upd_same
theorem slen {n : Nat} (h : Nat.ble n 1000 = true) : n ≤ sizeLine := Nat.le_trans (Nat.le_of_ble_eq_true h) (by decide)
/-- a comprehension with a test: what passes, by f -/
theorem lc_filt {α : Type} {J : It} {n : Nat} {G : Hp → Prop} {Y : Nat → Hp → V → Hp → Prop} (w : Walk J n G Y) {g : TG} {tt : TT} {te : TE} {vs : List Nat} {σ : L2.St} {H1 : Hp} {D : Addr} {Qd : Hp → Prop} (xs : List α) (c : α → Bool) (f : α → V) (hn : xs.length = n) (hl : n ≤ 10000000) (hD : H1 D = none)
    (hG : ∀ H, Ex H1 H → G H)
    (hs : ∀ i x a H H2 (R : VK) (S : Hp → Prop), xs[i]? = some a → Ex H1 H → Y i H x H2 → (∀ y H5, Ex H H5 → c a = true → y = f a → R y H5) → (∀ H4, Ex H H4 → c a = false → S H4) → g x (wipe σ vs) H2 fun σ2 H3 => wipe σ2 vs = wipe σ vs ∧ tt σ2 H3 fun b H4 => if b = true then te σ2 H4 R else S H4)
    (hd : ∀ H, Ex H1 H → H D = some (.lst ((xs.filter c).map f)) → Qd H) :
    ∃ W : Nat → Nat → Hp → Prop, (∃ m, W 0 m (upd H1 D (.lst []))) ∧ ∀ i m H, W i m H →
      (J.stop i H ∧ Qd H) ∨ (J.go i H ∧ ∃ Nx : Hp → Prop, (∀ H2, Nx H2 → ∃ m2, m2 < m ∧ W (i + 1) m2 H2) ∧ ∀ x H2, J.yld i H x H2 → g x (wipe σ vs) H2 fun σ2 H3 => wipe σ2 vs = wipe σ vs ∧ tt σ2 H3 fun b H4 =>
        if b = true then te σ2 H4 fun y H5 => ∃ acc, H5 D = some (.lst acc) ∧ acc.length < sizeLine ∧ Nx (upd H5 D (.lst (acc ++ [y]))) else Nx H4) := by
  refine lc_out w (fun i => ((xs.take i).filter c).map f) (by simp) hD (fun i hi => ?_) hG (fun i x H H2 Nx hi e hDi y kA kN => ?_) (fun H e h => hd H e ?_)
  · rw [List.length_map]
    refine Nat.lt_of_le_of_lt (Nat.le_trans (List.length_filter_le _ _) (Nat.le_trans (by rw [List.length_take]; exact Nat.min_le_right _ _) (by rw [hn]; exact hl))) (by decide)
  · obtain ⟨a, ha⟩ : ∃ a, xs[i]? = some a := ⟨xs[i]'(by omega), List.getElem?_eq_getElem (by omega)⟩
    refine hs i x a H H2 _ _ ha e y (fun y2 H5 e5 hc hy => kA y2 H5 e5 ?_) (fun H4 e4 hc => kN H4 e4 ?_)
    · rw [take_more ha, List.filter_append, List.map_append, hy]
      simp [hc]
    · rw [take_more ha, List.filter_append, List.map_append]
      simp [hc]
  · rw [h, List.take_of_length_le (by rw [hn]; exact Nat.le_refl _)]
/-- rows that pass a test -/
theorem RowsR.filt {H : Hp} (c : List Int → Bool) : ∀ {xs : List V} {hss : List (List Int)}, RowsR H xs hss → RowsR H (((xs.zip hss).filter fun z => c z.2).map fun z => z.1) (hss.filter c)
  | _, _, .nil => .nil
  | _, _, .cons (a := x) (b := hs) q t => by
    have ih := RowsR.filt c t
    rw [List.zip_cons_cons]
    cases e : c hs with
    | false =>
      rw [List.filter_cons_of_neg (by simp [e]), List.filter_cons_of_neg (by simp [e])]
      exact ih
    | true =>
      rw [List.filter_cons_of_pos (by simp [e]), List.filter_cons_of_pos (by simp [e])]
      exact .cons q ih
theorem zip_at2 {α β : Type} {l : List α} {m : List β} {i : Nat} {z : α × β} (h : (l.zip m)[i]? = some z) : l[i]? = some z.1 ∧ m[i]? = some z.2 := by
  rw [List.getElem?_zip_eq_some] at h
  exact h
/-- tuple(s), s a list or a tuple -/
theorem tup_of {K : PySem.W.Frag} {H : Hp} {q : Bool × Addr} {xs : List V} {Q : VK} (h : SqH H q xs) (k : ∀ t H2, Ex H H2 → H2 t = some (.tup xs) → Q (.ref t) H2) : (SqL K H q.2 xs ∧ ∀ p, H p = none → Q (.ref p) (upd H p (.tup xs))) ∨ SqT K H q.2 xs ∧ Q (.ref q.2) H := by
  obtain ⟨b, a⟩ := q
  cases b
  · exact .inl ⟨SqL.of (show H a = some (.lst xs) from h), fun p hp => k p _ (exn hp) upd_same⟩
  · exact .inr ⟨SqT.of (show H a = some (.tup xs) from h), k a H exr h⟩
def rTupQ : List V → Hp → VK → Prop := fun vs H Q => ∃ (q : Bool × Addr) (xs : List V), vs = [.ref q.2] ∧ SqH H q xs ∧ ∀ t H2, Ex H H2 → H2 t = some (.tup xs) → Q (.ref t) H2
theorem call_tuple_q {X : Cx} : CallR X (.type "tuple") rTupQ := by
  intro pins s σ H vs us Q I r h
  obtain ⟨q, xs, rfl, hq, k⟩ := h
  exact call_tuple_of pins s σ H _ us Q I r ⟨q.2, xs, rfl, tup_of hq k⟩
theorem SqH.uniq {H : Hp} {q : Bool × Addr} {xs ys : List V} (h1 : SqH H q xs) (h2 : SqH H q ys) : xs = ys := by
  obtain ⟨b, a⟩ := q
  cases b
  · have e : some (HO.lst xs) = some (HO.lst ys) := (show H a = some (.lst xs) from h1).symm.trans (show H a = some (.lst ys) from h2)
    injection e with e
    injection e
  · have e : some (HO.tup xs) = some (HO.tup ys) := (show H a = some (.tup xs) from h1).symm.trans (show H a = some (.tup ys) from h2)
    injection e with e
    injection e
theorem RowsR.monoT {H H2 : Hp} (e : ∀ c xs, H c = some (.tup xs) → H2 c = some (.tup xs)) : ∀ {xs : List V} {hss : List (List Int)}, RowsR H xs hss → RowsR H2 xs hss
  | _, _, .nil => .nil
  | _, _, .cons ⟨r, h1, h2⟩ t => .cons ⟨r, h1, e _ _ h2⟩ (RowsR.monoT e t)

theorem shift_back {f : Int} : ∀ {ns ps cs : List Int}, SeatOk ns ps → cs.length = ns.length → shiftL ns (shiftL ns ps cs f) cs (-f) = ps
  | [], [], [], _, _ => rfl
  | n :: ns, p :: ps, c :: cs, h, l => by
    show ((p + f * c) % n + -f * c) % n :: _ = _
    rw [shift_back h.2 (Nat.succ.inj l), Int.emod_add_emod, Int.neg_mul, Int.add_neg_cancel_right, Int.emod_eq_of_lt h.1.1 h.1.2]
theorem shift_neg {f : Int} : ∀ {ns ps cs : List Int}, shiftL ns ps (cs.map fun c => 0 - c) f = shiftL ns ps cs (-f)
  | [], _, _ => by cases ‹List Int› <;> simp [shiftL]
  | _ :: _, [], _ => by simp [shiftL]
  | _ :: _, _ :: _, [] => by simp [shiftL]
  | n :: ns, p :: ps, c :: cs => by
    show (p + f * (0 - c)) % n :: _ = (p + -f * c) % n :: _
    rw [shift_neg, Int.zero_sub, Int.mul_neg, Int.neg_mul]
theorem shift_comm {f g : Int} : ∀ {ns ps cs ds : List Int}, ps.length = ns.length → cs.length = ns.length → ds.length = ns.length → shiftL ns (shiftL ns ps cs f) ds g = shiftL ns (shiftL ns ps ds g) cs f
  | [], [], [], [], _, _, _ => rfl
  | n :: ns, p :: ps, c :: cs, d :: ds, l1, l2, l3 => by
    show ((p + f * c) % n + g * d) % n :: _ = ((p + g * d) % n + f * c) % n :: _
    rw [shift_comm (Nat.succ.inj l1) (Nat.succ.inj l2) (Nat.succ.inj l3), Int.emod_add_emod, Int.emod_add_emod, Int.add_right_comm]
theorem shift_seat {f : Int} : ∀ {ns ps cs : List Int}, (∀ n ∈ ns, 1 ≤ n) → ps.length = ns.length → cs.length = ns.length → SeatOk ns (shiftL ns ps cs f)
  | [], [], [], _, _, _ => True.intro
  | n :: ns, p :: ps, c :: cs, h, l1, l2 => by
    have n1 := h n List.mem_cons_self
    exact ⟨⟨Int.emod_nonneg _ (by omega), Int.emod_lt_of_pos _ (by omega)⟩, shift_seat (fun m hm => h m (List.mem_cons_of_mem _ hm)) (Nat.succ.inj l1) (Nat.succ.inj l2)⟩
theorem shift_same {f g : Int} : ∀ {ns ps cs : List Int}, ps.length = ns.length → cs.length = ns.length → (shiftL ns ps cs f = shiftL ns ps cs g ↔ ∀ z ∈ cs.zip ns, z.2 ∣ (f - g) * z.1)
  | [], [], [], _, _ => by simp [shiftL]
  | n :: ns, p :: ps, c :: cs, l1, l2 => by
    have e : p + f * c - (p + g * c) = (f - g) * c := by rw [Int.sub_mul]; omega
    show (p + f * c) % n :: _ = (p + g * c) % n :: _ ↔ _
    rw [List.cons.injEq, shift_same (Nat.succ.inj l1) (Nat.succ.inj l2), emod_eq_iff, e, List.zip_cons_cons, List.forall_mem_cons]
theorem shift_zero : ∀ {ns ps cs : List Int}, SeatOk ns ps → cs.length = ns.length → shiftL ns ps cs 0 = ps
  | [], [], [], _, _ => rfl
  | n :: ns, p :: ps, c :: cs, h, l => by
    show (p + 0 * c) % n :: _ = _
    rw [shift_zero h.2 (Nat.succ.inj l), Int.zero_mul, Int.add_zero, Int.emod_eq_of_lt h.1.1 h.1.2]
/-- a call times k -/
theorem shift_times {k : Int} : ∀ {ns ps cs : List Int}, shiftL ns ps (cs.map fun c => c * k) 1 = shiftL ns ps cs k
  | [], _, _ => by cases ‹List Int› <;> simp [shiftL]
  | _ :: _, [], _ => by simp [shiftL]
  | _ :: _, _ :: _, [] => by simp [shiftL]
  | n :: ns, p :: ps, c :: cs => by
    show (p + 1 * (c * k)) % n :: _ = (p + k * c) % n :: _
    rw [shift_times, Int.one_mul, Int.mul_comm c]
theorem zero_seat : ∀ {ns : List Int}, (∀ n ∈ ns, 1 ≤ n) → SeatOk ns (List.replicate ns.length 0)
  | [], _ => True.intro
  | n :: ns, h => ⟨⟨Int.le_refl _, by have := h n List.mem_cons_self; omega⟩, zero_seat fun m hm => h m (List.mem_cons_of_mem _ hm)⟩

/-- Table(..) -/
theorem mk_tab {C a : Addr} {b : Bool} {H : Hp} {ns : List Int} {R : Addr → Hp → Prop} {E : XK} (hq : SqH H (b, a) (ns.map V.int)) (ok : SzOk ns) (k : ∀ x H2, Ex H H2 → H x = none → TabAt C H2 x ns → R x H2) :
    ∀ x dx, H x = none → H dx = none → dx ≠ x → sp_Table_init C [.ref x, .ref a] (upd (upd H dx (.own x)) x (.ins C dx [])) (fun v H2 => v = .non ∧ R x H2) E := by
  intro x dx nx ndx _
  have exB : Ex H (upd (upd H dx (.own x)) x (.ins C dx [])) := fun c o z => by
    rw [upd_ne (ne_of_none z nx), upd_ne (ne_of_none z ndx)]
    exact z
  refine ⟨x, dx, (b, a), ns, rfl, upd_same, hq.mono exB, ok, fun H3 k3 ht3 => ⟨rfl, ?_⟩⟩
  obtain ⟨t, g1, g2⟩ := ht3
  exact k x H3 (fun c o z => k3 c o (ne_of_none z nx) (exB c o z)) nx ⟨dx, t, g1, g2⟩
theorem eqN {i j : Int} (h : ¬(!decide (V.int i = V.int j)) = true) : i = j := by
  by_cases e : i = j
  · exact e
  · exact absurd (by simp [e]) h
/-! ### lists and tuples alike -/
theorem cut_from (xs : List V) (k : Nat) : cutV xs (some (k : Int)) none = xs.drop k := by
  unfold cutV
  rw [HT.sIx_nat, HT.sIx_none]
  by_cases h : k ≤ xs.length
  · rw [Nat.min_eq_left h]
    exact List.take_of_length_le (by rw [List.length_drop]; omega)
  · rw [Nat.min_eq_right (by omega), List.drop_of_length_le (Nat.le_refl _), List.drop_of_length_le (by omega)]
    simp
theorem cut_to (xs : List V) (k : Nat) : cutV xs none (some (k : Int)) = xs.take k := by
  unfold cutV
  rw [HT.sIx_nat, HT.sIx_none, List.drop_zero, Nat.sub_zero]
  by_cases h : k ≤ xs.length
  · rw [Nat.min_eq_left h]
  · rw [Nat.min_eq_right (by omega), List.take_of_length_le (Nat.le_refl _), List.take_of_length_le (by omega)]
theorem cut_whole {xs : List V} {lo hi : Option Int} (h : HT.sIx xs.length 0 lo = 0 ∧ HT.sIx xs.length xs.length hi = xs.length) : cutV xs lo hi = xs := by
  unfold cutV
  rw [h.1, h.2, List.drop_zero, Nat.sub_zero, List.take_of_length_le (Nat.le_refl _)]
def rIxQ (K : PySem.W.Frag) : R2 := fun x y H Q => ∃ (q : Bool × Addr) (xs : List V) (i : Int) (v : V), x = .ref q.2 ∧ y = .int i ∧ CZ.SqK K H q xs ∧ atI xs i = some v ∧ Q v H
theorem ix_q {X : Cx} : IxR X (rIxQ X.K) := by
  intro value slice pins s σ H x y v u Q I rx ry h hsub
  obtain ⟨⟨b, a⟩, xs, i, z, rfl, rfl, hq, hz, q⟩ := h
  cases b
  · exact ix_list value slice pins s σ H _ _ v u Q I rx ry ⟨a, xs, i, z, rfl, rfl, hq, hz, q⟩ hsub
  · exact ix_tup value slice pins s σ H _ _ v u Q I rx ry ⟨a, xs, i, z, rfl, rfl, hq, hz, q⟩ hsub
def rSlQ : V → Option Int → Option Int → Hp → VK → Prop := fun x lo hi H Q => ∃ (q : Bool × Addr) (xs : List V), x = .ref q.2 ∧ SqH H q xs ∧ ∀ p H2, Ex H H2 → SqH H2 (q.1, p) (cutV xs lo hi) → Q (.ref p) H2
theorem sl_q {X : Cx} : SlR X rSlQ := by
  intro pins s σ H x v vl vu lo hi sl Q I rx hs pl pu h
  obtain ⟨⟨b, a⟩, xs, rfl, hq, k⟩ := h
  cases b
  · exact sl_list pins s σ H _ v vl vu lo hi sl Q I rx hs pl pu ⟨a, xs, rfl, SqL.of (show H a = some (.lst xs) from hq), fun p hp => k p _ (exn hp) upd_same⟩
  · exact sl_tupA pins s σ H _ v vl vu lo hi sl Q I rx hs pl pu ⟨a, xs, rfl, SqT.of (show H a = some (.tup xs) from hq), fun hw => k a H exr (by rw [cut_whole hw]; exact hq), fun _ p hp => k p _ (exn hp) upd_same⟩

/-- the greatest common divisor -/
abbrev gcdI (a b : Int) : Int := ((Int.gcd a b : Nat) : Int)
theorem gcd_pos2 {p n : Int} (h : 1 ≤ n) : 0 < Int.gcd p n := Int.gcd_pos_of_ne_zero_right _ (by omega)
theorem gcd_turn {a b : Int} (hb : b ≠ 0) : Int.gcd b (a % b) = Int.gcd a b := by
  rw [Int.gcd_comm b, Int.emod_def, Int.sub_eq_add_neg, ← Int.mul_neg, Int.gcd_add_mul_left_left]
theorem abs45 {n : Int} (h1 : 0 ≤ n) (h2 : n ≤ 10 ^ 45) : n.natAbs < 2 ^ 150 := by
  have h5 : (10 : Int) ^ 45 < 2 ^ 150 := by decide
  have h8 : ((2 ^ 150 : Nat) : Int) = (2 : Int) ^ 150 := by simp
  omega
section
variable {P : Program} {w : World} {K : PySem.W.Frag} {mg : Str → Option Value} {base : Heap}
def sp_greatest_common_divisor : Sp := fun vs H Q _ => ∃ a b : Int, vs = [.int a, .int b] ∧ 0 ≤ a ∧ 0 ≤ b ∧ Q (.int (gcdI a b)) H
theorem ok_greatest_common_divisor (T : TX K mg) : FnOk P w K mg base CX0 1 T.f_greatest_common_divisor T.fd_greatest_common_divisor ["first", "second"] sp_greatest_common_divisor := by
  refine T.F_greatest_common_divisor.ok sc_greatest_common_divisor (fun vs H Q E h => ?_) (fun cdv A outer s H vs Q E hr h => ?_)
  · obtain ⟨a, b, rfl, _⟩ := h
    rfl
  · obtain ⟨a0, b0, rfl, h1, h2, k⟩ := h
    refine ⟨_, (pss_cons (ps_while PassesOwn.never (pt_cmpR op_ne (pv 1) pe_int (nomark _)) (pss_one (ps_par (i := 0) (j := 1) rfl sc_greatest_common_divisor.nd rfl rfl (by decide) rfl rfl (pa_cons (pv 1) (pa_cons (pe_op op_mod (pv 0) (pv 1)) pa_nil)) (by rfl)))) (pss_one (ps_ret (pe_callB call_abs (by rfl) T.z_abs (by decide +kernel) (pa_cons (pv 0) pa_nil))))), ?_⟩
    refine ⟨fun m σ H2 => ∃ a b : Int, σ = [some (.int a), some (.int b)] ∧ H2 = H ∧ 0 ≤ a ∧ 0 ≤ b ∧ Int.gcd a b = Int.gcd a0 b0 ∧ m = b.toNat, ⟨_, a0, b0, rfl, rfl, h1, h2, rfl, rfl⟩, ?_⟩
    rintro m σ _ ⟨a, b, rfl, rfl, ha, hb, hg, rfl⟩
    refine ⟨_, rfl, rfl, _, rfl, ?_⟩
    by_cases hz : b = 0
    · subst hz
      refine itf (by simp) ⟨_, rfl, a, rfl, ?_⟩
      rw [if_neg (by omega)]
      have e : (Int.gcd a 0 : Nat) = a.natAbs := by simp
      have e2 : gcdI a0 b0 = a := by
        show ((Int.gcd a0 b0 : Nat) : Int) = a
        rw [← hg, e]
        omega
      rw [e2] at k
      exact k
    · refine itt (by rw [dec_int]; simp [hz]) ⟨_, fun _ _ h => h, ?_⟩
      have q1 := Int.emod_lt_of_pos a (show 0 < b by omega)
      have q2 := Int.emod_nonneg a hz
      exact ⟨_, rfl, _, rfl, _, rfl, _, _, rfl, rfl, (by show 0 < b; omega), _, _, rfl, _, (by show (a % b).toNat < b.toNat; omega), _, _, rfl, rfl, hb, q2, by rw [gcd_turn hz, hg], rfl⟩
end

/-! ### the order of a seat -/
def perN (p n : Int) : Nat := n.natAbs / Int.gcd p n
def ordF (zs : List (Int × Int)) : Nat := zs.foldl (fun l z => Nat.lcm l (perN z.1 z.2)) 1
theorem per_int {p n : Int} (h : 1 ≤ n) : n / gcdI p n = (perN p n : Int) := by
  have e : (n.natAbs : Int) = n := Int.natAbs_of_nonneg (by omega)
  unfold perN
  rw [Int.natCast_ediv, e]
theorem per_pos {p n : Int} (h : 1 ≤ n) : 0 < perN p n := by
  unfold perN
  refine Nat.div_pos ?_ (gcd_pos2 h)
  have := Int.gcd_dvd_right p n
  have h2 : (Int.gcd p n : Int) ≤ n := Int.le_of_dvd (by omega) this
  omega
theorem per_le {p n : Int} : perN p n ≤ n.natAbs := Nat.div_le_self _ _
theorem lcm_int {l m : Nat} : (l : Int) / gcdI l m * m = ((Nat.lcm l m : Nat) : Int) := by
  show (l : Int) / ((Nat.gcd l m : Nat) : Int) * m = _
  rw [← Int.natCast_ediv, ← Int.natCast_mul, Nat.lcm, Nat.div_mul_right_comm (Nat.gcd_dvd_left l m)]
theorem ord_snoc (zs : List (Int × Int)) (z : Int × Int) : ordF (zs ++ [z]) = Nat.lcm (ordF zs) (perN z.1 z.2) := by
  unfold ordF
  rw [List.foldl_append]
  rfl
theorem lcm_fold : ∀ {zs : List (Int × Int)} {a B : Nat}, 0 < a → (∀ z ∈ zs, 1 ≤ z.2 ∧ z.2.natAbs ≤ B) → 0 < zs.foldl (fun l z => Nat.lcm l (perN z.1 z.2)) a ∧ zs.foldl (fun l z => Nat.lcm l (perN z.1 z.2)) a ≤ a * B ^ zs.length
  | [], a, B, h, _ => by simp; exact h
  | z :: zs, a, B, h, hz => by
    have h1 := hz z List.mem_cons_self
    have h2 : 0 < Nat.lcm a (perN z.1 z.2) := Nat.lcm_pos h (per_pos h1.1)
    obtain ⟨g1, g2⟩ := lcm_fold (zs := zs) (B := B) h2 fun y hy => hz y (List.mem_cons_of_mem _ hy)
    refine ⟨g1, Nat.le_trans g2 ?_⟩
    have h3 : Nat.lcm a (perN z.1 z.2) ≤ a * B := Nat.le_trans (Nat.div_le_self _ _) (Nat.mul_le_mul_left _ (Nat.le_trans per_le h1.2))
    calc _ ≤ a * B * B ^ zs.length := Nat.mul_le_mul_right _ h3
      _ = a * B ^ (zs.length + 1) := by rw [Nat.pow_succ, Nat.mul_assoc, Nat.mul_comm B]
theorem ord_ok {zs : List (Int × Int)} (h : ∀ z ∈ zs, 1 ≤ z.2 ∧ z.2 ≤ 10 ^ 45) (hl : zs.length ≤ 4) : 0 < ordF zs ∧ ordF zs < 2 ^ 600 := by
  obtain ⟨g1, g2⟩ := lcm_fold (zs := zs) (a := 1) (B := 10 ^ 45) (by decide) fun z hz => ⟨(h z hz).1, by
    have := h z hz
    have e : ((10 ^ 45 : Nat) : Int) = (10 : Int) ^ 45 := by simp
    omega⟩
  refine ⟨g1, Nat.lt_of_le_of_lt g2 ?_⟩
  rw [Nat.one_mul]
  exact Nat.lt_of_le_of_lt (Nat.pow_le_pow_right (by decide) hl) (by decide +kernel)
theorem zip_at {α β : Type} {l : List α} {m : List β} {i : Nat} {x : α} {y : β} (h1 : l[i]? = some x) (h2 : m[i]? = some y) : (l.zip m)[i]? = some (x, y) := by
  rw [List.getElem?_zip_eq_some]
  exact ⟨h1, h2⟩
theorem zip_len {α β : Type} {l : List α} {m : List β} {n : Nat} (h1 : l.length = n) (h2 : m.length = n) : (l.zip m).length = n := by
  rw [List.length_zip, h1, h2, Nat.min_self]
theorem zip_take_len {α β : Type} {l : List α} {m : List β} {n : Nat} (h1 : l.length = n) (h2 : m.length = n) : (l.zip m).take n = l.zip m := List.take_of_length_le (by rw [zip_len h1 h2]; exact Nat.le_refl _)
/-- sizes that are not too long -/
abbrev SzB (ns : List Int) : Prop := ∀ n ∈ ns, n ≤ 10 ^ 45
theorem SeatOk.at : ∀ {ns ps : List Int} {i : Nat} {n p : Int}, SeatOk ns ps → ns[i]? = some n → ps[i]? = some p → 0 ≤ p ∧ p < n
  | [], [], _, _, _, _, h, _ => by simp at h
  | n :: ns, p :: ps, 0, _, _, h, h1, h2 => by
    simp at h1 h2
    subst h1 h2
    exact h.1
  | n :: ns, p :: ps, i + 1, _, _, h, h1, h2 => by
    rw [List.getElem?_cons_succ] at h1 h2
    exact SeatOk.at h.2 h1 h2
theorem zip_bound {ns ps : List Int} (ok : SzOk ns) (hB : SzB ns) (i : Nat) : ∀ z ∈ (ps.zip ns).take i, 1 ≤ z.2 ∧ z.2 ≤ 10 ^ 45 := fun z hz => by
  have := (List.of_mem_zip (show (z.1, z.2) ∈ ps.zip ns from List.mem_of_mem_take hz)).2
  exact ⟨ok.one _ this, hB _ this⟩
theorem abs_succ {n : Int} (h : n.natAbs < 2 ^ 150) : (n + 1).natAbs < 2 ^ 151 := by
  have : (2 : Nat) ^ 151 = 2 * 2 ^ 150 := by decide +kernel
  omega
/-- the halves of a place -/
def halfL (p n : Int) : List Int := if n % 2 = 1 then [p * (n + 1) / 2 % n] else if p % 2 = 0 then [p / 2, (p + n) / 2] else []
theorem halfL_def (p n : Int) : halfL p n = if n % 2 = 1 then [p * (n + 1) / 2 % n] else if p % 2 = 0 then [p / 2, (p + n) / 2] else [] := rfl
/-- .. of a seat -/
def crossL (hss : List (List Int)) (ks : List Int) : List (List Int) := hss.flatMap fun hs => ks.map fun k => hs ++ [k]
def halvesF (zs : List (Int × Int)) : List (List Int) := zs.foldl (fun hss z => crossL hss (halfL z.1 z.2)) [[]]
theorem halves_snoc (zs : List (Int × Int)) (z : Int × Int) : halvesF (zs ++ [z]) = crossL (halvesF zs) (halfL z.1 z.2) := by
  unfold halvesF
  rw [List.foldl_append]
  rfl
theorem cross_snoc (hss : List (List Int)) (hs ks : List Int) : crossL (hss ++ [hs]) ks = crossL hss ks ++ ks.map fun k => hs ++ [k] := by
  unfold crossL
  rw [List.flatMap_append]
  simp
theorem cross_len (ks : List Int) : ∀ hss : List (List Int), (crossL hss ks).length = hss.length * ks.length
  | [] => by simp [crossL]
  | h :: hss => by
    have ih := cross_len ks hss
    unfold crossL at ih ⊢
    rw [List.flatMap_cons, List.length_append, ih, List.length_map, List.length_cons, Nat.succ_mul, Nat.add_comm]
theorem half_len (p n : Int) : (halfL p n).length ≤ 2 := by
  unfold halfL
  split
  · simp
  · split <;> simp
theorem halves_len : ∀ (zs : List (Int × Int)) (hss : List (List Int)), (zs.foldl (fun hss z => crossL hss (halfL z.1 z.2)) hss).length ≤ hss.length * 2 ^ zs.length
  | [], hss => by simp
  | z :: zs, hss => by
    refine Nat.le_trans (halves_len zs _) ?_
    rw [cross_len, List.length_cons, Nat.pow_succ, Nat.mul_comm (2 ^ zs.length), ← Nat.mul_assoc]
    exact Nat.mul_le_mul_right _ (Nat.mul_le_mul_left _ (half_len _ _))
theorem halves_few {zs : List (Int × Int)} (h : zs.length ≤ 4) : (halvesF zs).length ≤ 16 := by
  have := halves_len zs [[]]
  refine Nat.le_trans this ?_
  rw [List.length_singleton, Nat.one_mul]
  exact Nat.pow_le_pow_right (by decide) h
theorem halves_rows : ∀ (zs : List (Int × Int)) (hss : List (List Int)) (m : Nat), (∀ hs ∈ hss, hs.length = m) → ∀ hs ∈ zs.foldl (fun hss z => crossL hss (halfL z.1 z.2)) hss, hs.length = m + zs.length
  | [], hss, m, h => h
  | z :: zs, hss, m, h => fun hs hh => by
    have := halves_rows zs (crossL hss (halfL z.1 z.2)) (m + 1) (fun ks hk => ?_) hs hh
    · rw [this, List.length_cons]
      omega
    · obtain ⟨us, hu, hk⟩ := List.mem_flatMap.mp hk
      obtain ⟨k, _, rfl⟩ := List.mem_map.mp hk
      rw [List.length_append, h us hu]
      rfl
section
variable {P : Program} {w : World} {K : PySem.W.Frag} {mg : Str → Option Value} {base : Heap}
def sp_Table_order (C : Addr) : Sp := fun vs H Q _ => ∃ (a s : Addr) (ns ps : List Int), vs = [.ref a, .ref s] ∧ TabAt C H a ns ∧ SzOk ns ∧ SzB ns ∧ H s = some (.tup (ps.map V.int)) ∧ SeatOk ns ps ∧ ∀ H2, Ex H H2 → Q (.int (ordF (ps.zip ns))) H2
theorem ok_Table_order (T : TX K mg) : FnOk P w K mg base CX0 5 T.f_Table_order T.fd_Table_order ["self", "seat"] (sp_Table_order T.C_Table) := by
  refine T.F_Table_order.ok sc_Table_order (fun vs H Q E h => ?_) (fun cdv A outer s H vs Q E hr h => ?_)
  · obtain ⟨a, s, ns, ps, rfl, _⟩ := h
    rfl
  · obtain ⟨a, s, ns, ps, rfl, tab, ok, hB, hs, sk, k⟩ := h
    have l4 := ok.le
    have lp := sk.len
    refine ⟨_, (pss_cons (ps_expr (pe_call (ok_require_seat T) hr rfl T.m_require_seat T.F_require_seat.kp T.b_require_seat .nil pass0 (pa_cons (pv 0) (pa_cons (pv 1) pa_nil)))) (pss_cons (ps_set (i := 2) sc_Table_order.nd rfl (Or.inl rfl) pe_int) (pss_cons (ps_for PassesOwn.never rfl (CZ.pi_z2s (fl := [true, true]) rfl (by rfl) T.z_zip (pa_cons (pv 1) (pa_cons (pe_fld (pv 0) rfl) pa_nil))) (pg_tup rfl (pgs_cons (pg_name (i := 3) sc_Table_order.nd rfl (Or.inl rfl)) (pgs_cons (pg_name (i := 4) sc_Table_order.nd rfl (Or.inl rfl)) pgs_nil))) (pss_cons (ps_set (i := 5) sc_Table_order.nd rfl (Or.inl rfl) (pe_op op_fdivW (pv 4) (pe_call (ok_greatest_common_divisor T) (hr.mono (by decide)) rfl T.m_greatest_common_divisor T.F_greatest_common_divisor.kp T.b_greatest_common_divisor .nil pass0 (pa_cons (pv 3) (pa_cons (pv 4) pa_nil))))) (pss_one (ps_set (i := 2) sc_Table_order.nd rfl (Or.inl rfl) (pe_op op_mulI (pe_op op_fdivW (pv 2) (pe_call (ok_greatest_common_divisor T) (hr.mono (by decide)) rfl T.m_greatest_common_divisor T.F_greatest_common_divisor.kp T.b_greatest_common_divisor .nil pass0 (pa_cons (pv 2) (pa_cons (pv 5) pa_nil)))) (pv 5)))))) (pss_one (ps_ret (pv 2)))))), ?_⟩
    refine ⟨_, rfl, _, rfl, a, _, ns, _, rfl, tab, l4, TupA.ints hs (by omega), isSeat_ok sk, fun H1 e1 => ?_⟩
    obtain ⟨dx, t, h1, h2⟩ := tab.mono e1
    have hs1 := e1 _ _ hs
    refine ⟨_, rfl, _, rfl, a, _, dx, _, _, rfl, h1, T.cl_Table, T.n_Table_rings, rfl, [s, t], rfl, rfl, all2 (sqT hs1) (sqT h2), ?_⟩
    refine for_it (CZ.walk_rows (xss := [ps.map V.int, ns.map V.int]) (n := ns.length) (lens2 (by rw [List.length_map, lp]) (by rw [List.length_map]))) (fun i σ H2 => ∃ y1 y2 y3 : Option V, σ = [some (.ref a), some (.ref s), some (.int (ordF ((ps.zip ns).take i))), y1, y2, y3] ∧ Ex H1 H2) ⟨_, _, _, rfl, exr⟩ (fun i σ H2 _ ⟨_, _, _, _, e⟩ => .cons (sqT (e _ _ hs1)) (.cons (sqT (e _ _ h2)) .nil)) ?_ ?_
    · rintro i x σ H2 H3 hi ⟨y1, y2, y3, rfl, e2⟩ yy
      obtain ⟨Ta, p, n, rfl, hT, rfl, hp, hn⟩ := yints2 yy
      have n1 := ok.one n (List.mem_of_getElem? hn)
      have n2 := hB n (List.mem_of_getElem? hn)
      obtain ⟨p0, p1⟩ := sk.at hn hp
      have lt : ((ps.zip ns).take i).length ≤ 4 := by
        rw [List.length_take, zip_len lp rfl]
        omega
      obtain ⟨o1, o2⟩ := ord_ok (zip_bound ok hB i) lt
      have ezs := take_more (zip_at hp hn)
      refine ⟨Ta, _, rfl, SqT.of upd_same, rfl, _, _, rfl, _, _, rfl, rfl, ?_⟩
      have g0 : (0 : Int) < gcdI p n := by
        have := gcd_pos2 (p := p) n1
        show (0 : Int) < ((Int.gcd p n : Nat) : Int)
        omega
      have gle : gcdI p n ≤ n := Int.le_of_dvd (by omega) (Int.gcd_dvd_right p n)
      refine ⟨_, rfl, _, rfl, _, rfl, p, n, rfl, p0, (by omega), _, _, rfl, rfl, wide_div g0 (abs45 (by omega) (by omega)) (by decide) (by decide), ?_⟩
      have q0 := per_pos (p := p) n1
      have q1 := per_le (p := p) (n := n)
      have q2 : perN p n < 2 ^ 150 := Nat.lt_of_le_of_lt q1 (abs45 (by omega) n2)
      dsimp only
      rw [per_int n1]
      have r0 : 0 < Nat.gcd (ordF ((ps.zip ns).take i)) (perN p n) := Nat.gcd_pos_of_pos_left _ o1
      have r1 : Nat.gcd (ordF ((ps.zip ns).take i)) (perN p n) ≤ perN p n := Nat.gcd_le_right _ q0
      refine ⟨_, rfl, _, rfl, _, rfl, _, _, rfl, Int.natCast_nonneg _, Int.natCast_nonneg _, _, _, rfl, rfl, wide_div (b := 150) ?_ ?_ (by decide) (by decide), _, rfl, _, _, rfl, rfl, (wide_mul (a := 600) (b := 150) ?_ ?_ (by decide) (by decide) (by decide)).ok, ?_⟩
      · show (0 : Int) < ((Nat.gcd (ordF ((ps.zip ns).take i)) (perN p n) : Nat) : Int)
        omega
      · show ((Nat.gcd (ordF ((ps.zip ns).take i)) (perN p n) : Nat) : Int).natAbs < 2 ^ 150
        rw [Int.natAbs_natCast]
        exact Nat.lt_of_le_of_lt r1 q2
      · show ((ordF ((ps.zip ns).take i) : Int) / ((Nat.gcd (ordF ((ps.zip ns).take i)) (perN p n) : Nat) : Int)).natAbs < 2 ^ 600
        rw [← Int.natCast_ediv, Int.natAbs_natCast]
        exact Nat.lt_of_le_of_lt (Nat.div_le_self _ _) o2
      · rw [Int.natAbs_natCast]
        exact q2
      · dsimp only
        rw [lcm_int]
        rw [ezs, ord_snoc]
        exact ⟨_, _, _, rfl, fun c o z => exn hT _ _ (e2 c o z)⟩
    · rintro σ H2 ⟨y1, y2, y3, rfl, e2⟩
      rw [zip_take_len lp rfl]
      exact ⟨_, rfl, k _ fun c o z => e2 c o (e1 c o z)⟩
end

/-- a list (false) or a tuple (true) of tuples of ints -/
def RowsQ (H : Hp) (q : Bool × Addr) (tss : List (List Int)) : Prop := ∃ xs, SqH H q xs ∧ RowsR H xs tss
theorem RowsQ.mono {H H2 : Hp} {q : Bool × Addr} {tss : List (List Int)} (e : Ex H H2) (h : RowsQ H q tss) : RowsQ H2 q tss := by
  obtain ⟨xs, h1, h2⟩ := h
  exact ⟨xs, h1.mono e, h2.mono e⟩
theorem RowsQ.dp {K : PySem.W.Frag} {H : Hp} {q : Bool × Addr} {tss : List (List Int)} (h : RowsQ H q tss) : Dp K H (.ref q.2) (.list (tss.map iT)) ∨ Dp K H (.ref q.2) (.tuple (tss.map iT)) := by
  obtain ⟨xs, h1, h2⟩ := h
  obtain ⟨b, a⟩ := q
  cases b
  · exact .inl (.lst (SqL.of (show H a = some (.lst xs) from h1)) h2.dp)
  · exact .inr (.tup (SqT.of (show H a = some (.tup xs) from h1)) h2.dp)
theorem any_rows (tss : List (List Int)) (ps : List Int) : ((tss.map iT).any fun z => PyData.eqv z (iT ps)) = decide (ps ∈ tss) := by
  rw [List.any_map, Bool.eq_iff_iff, List.any_eq_true, decide_eq_true_eq]
  constructor
  · rintro ⟨x, hx, h⟩
    have h2 : PyData.eqv (iT x) (iT ps) = true := h
    rw [eqv_ints] at h2
    rw [← of_decide_eq_true h2]
    exact hx
  · intro h
    refine ⟨ps, h, ?_⟩
    show PyData.eqv (iT ps) (iT ps) = true
    rw [eqv_ints]
    simp
abbrev kI (ps : List Int) : List Key := ps.map Sum.inl
theorem kI_map (ps : List Int) : (kI ps).map kV = ps.map V.int := by
  rw [List.map_map]
  rfl
theorem kI_inj {a b : List Int} (h : kI a = kI b) : a = b := by
  induction a generalizing b with
  | nil =>
    cases b with
    | nil => rfl
    | cons y ys => simp at h
  | cons x xs ih =>
    cases b with
    | nil => simp at h
    | cons y ys =>
      simp only [List.map_cons, List.cons.injEq, Sum.inl.injEq] at h
      rw [h.1, ih h.2]
theorem nodup_get {α : Type} {l : List α} (nod : l.Nodup) {i : Nat} {t : α} (ht : l[i]? = some t) : ¬ t ∈ l.take i := by
  intro hm
  obtain ⟨j, hj⟩ := List.getElem?_of_mem hm
  obtain ⟨jl, je⟩ := List.getElem?_eq_some_iff.mp hj
  rw [List.length_take] at jl
  rw [List.getElem_take] at je
  obtain ⟨il, ie⟩ := List.getElem?_eq_some_iff.mp ht
  exact absurd (je.trans ie.symm) (List.pairwise_iff_getElem.mp nod j i (by omega) il (by omega))
theorem put_len {κ : Type} [DecidableEq κ] {kvs : List (κ × V)} {k : κ} {v : V} (h : valV kvs k = none) : (putK kvs k v).length = kvs.length + 1 := by
  rw [putK_new v h, List.length_append]
  rfl
section
variable {P : Program} {w : World} {K : PySem.W.Frag} {mg : Str → Option Value} {base : Heap}
def sp_require_table (C : Addr) : Sp := fun vs H Q _ => ∃ (a : Addr) (ns : List Int), vs = [.ref a] ∧ TabAt C H a ns ∧ Q .non H
theorem ok_require_table (T : TX K mg) : FnOk P w K mg base CX0 5 T.f_require_table T.fd_require_table ["table"] (sp_require_table T.C_Table) := by
  refine T.F_require_table.ok sc_require_table (fun vs H Q E h => ?_) (fun cdv A outer s H vs Q E hr h => ?_)
  · obtain ⟨a, ns, rfl, _⟩ := h
    rfl
  · obtain ⟨a, ns, rfl, ⟨dx, t, h1, h2⟩, k⟩ := h
    refine ⟨_, (pss_one (ps_if (pt_not (pt_val (pe_callB call_isi (by rfl) T.z_isinstance (by decide +kernel) (pa_cons (pv 0) (pa_cons (pe_glob (v := .ref T.C_Table) rfl T.m_Table rfl) pa_nil))))) pss_never pss_nil)), ?_⟩
    exact ⟨_, rfl, _, _, _, _, true, rfl, .own _, .base (.ins h1 T.cl_Table T.ic_Table T.ig_ T.it_ T.im_Table), kit_self, _, rfl, itf rfl k⟩
end

open CD
abbrev dirS (b : Bool) : Str := if b = true then "backward" else "forward"
abbrev sgD (b : Bool) : Int := if b = true then -1 else 1
/-- moves: refs of (call, direction) -/
def MovR (H : Hp) (xs : List V) (ms : List (List Int × Bool)) : Prop := Paired (fun x m => ∃ r c, x = V.ref r ∧ H r = some (.tup [.ref c, .str (dirS m.2)]) ∧ H c = some (.tup (m.1.map V.int))) xs ms
theorem MovR.mono {H H2 : Hp} (e : Ex H H2) : ∀ {xs : List V} {ms : List (List Int × Bool)}, MovR H xs ms → MovR H2 xs ms
  | _, _, .nil => .nil
  | _, _, .cons ⟨r, c, h1, h2, h3⟩ t => .cons ⟨r, c, h1, e _ _ h2, e _ _ h3⟩ (MovR.mono e t)
theorem MovR.len {H : Hp} : ∀ {xs : List V} {ms : List (List Int × Bool)}, MovR H xs ms → xs.length = ms.length
  | _, _, .nil => rfl
  | _, _, .cons _ t => by rw [List.length_cons, List.length_cons, MovR.len t]
theorem MovR.snoc {H : Hp} {r c : Addr} {m : List Int × Bool} (h : H r = some (.tup [.ref c, .str (dirS m.2)])) (hc : H c = some (.tup (m.1.map V.int))) : ∀ {xs : List V} {ms : List (List Int × Bool)}, MovR H xs ms → MovR H (xs ++ [.ref r]) (ms ++ [m])
  | _, _, .nil => .cons ⟨r, c, rfl, h, hc⟩ .nil
  | _, _, .cons q t => .cons q (MovR.snoc h hc t)
theorem MovR.upd {H : Hp} {D : Addr} {ys zs : List V} (hD : H D = some (.lst ys)) : ∀ {xs : List V} {ms : List (List Int × Bool)}, MovR H xs ms → MovR (upd H D (.lst zs)) xs ms
  | _, _, .nil => .nil
  | _, _, .cons ⟨r, c, h1, h2, h3⟩ t => .cons ⟨r, c, h1, by rw [upd_ne (ne_of h2 hD (by intro z; cases z))]; exact h2, by rw [upd_ne (ne_of h3 hD (by intro z; cases z))]; exact h3⟩ (MovR.upd hD t)
def MovQ (H : Hp) (q : Bool × Addr) (ms : List (List Int × Bool)) : Prop := ∃ xs, SqH H q xs ∧ MovR H xs ms
theorem MovQ.mono {H H2 : Hp} {q : Bool × Addr} {ms : List (List Int × Bool)} (e : Ex H H2) (h : MovQ H q ms) : MovQ H2 q ms := by
  obtain ⟨xs, h1, h2⟩ := h
  exact ⟨xs, h1.mono e, h2.mono e⟩
/-- where the walker is -/
def posL (ns st : List Int) (ms : List (List Int × Bool)) : List Int := ms.foldl (fun p m => shiftL ns p m.1 (sgD m.2)) st
def walkL (ns st : List Int) (ms : List (List Int × Bool)) : List (List Int) := (List.range (ms.length + 1)).map fun i => posL ns st (ms.take i)
theorem pos_snoc (ns st : List Int) (ms : List (List Int × Bool)) (m : List Int × Bool) : posL ns st (ms ++ [m]) = shiftL ns (posL ns st ms) m.1 (sgD m.2) := by
  unfold posL
  rw [List.foldl_append]
  rfl
theorem walk_snoc (ns st : List Int) (ms : List (List Int × Bool)) (m : List Int × Bool) : walkL ns st (ms ++ [m]) = walkL ns st ms ++ [posL ns st (ms ++ [m])] := by
  unfold walkL
  rw [List.length_append, List.length_singleton, List.range_succ, List.map_append]
  congr 1
  · refine List.map_congr_left fun i hi => ?_
    rw [List.take_append_of_le_length (by have := List.mem_range.mp hi; omega)]
  · rw [List.map_cons, List.map_nil, List.take_of_length_le (by simp)]
theorem walk_last (ns st : List Int) (ms : List (List Int × Bool)) : ∃ hss, walkL ns st ms = hss ++ [posL ns st ms] := by
  unfold walkL
  rw [List.range_succ, List.map_append]
  exact ⟨_, by rw [List.map_cons, List.map_nil, List.take_of_length_le (Nat.le_refl _)]⟩
theorem walk_len (ns st : List Int) (ms : List (List Int × Bool)) : (walkL ns st ms).length = ms.length + 1 := by simp [walkL]
theorem pos_ok {ns st : List Int} (one : ∀ n ∈ ns, 1 ≤ n) (sk : SeatOk ns st) : ∀ {ms : List (List Int × Bool)}, (∀ m ∈ ms, m.1.length = ns.length) → SeatOk ns (posL ns st ms)
  | [], _ => sk
  | m :: ms, h => by
    show SeatOk ns (posL ns (shiftL ns st m.1 (sgD m.2)) ms)
    exact pos_ok one (shift_seat one sk.len (h m List.mem_cons_self)) fun n hn => h n (List.mem_cons_of_mem _ hn)
theorem atI_last {α : Type} (ys : List α) (v : α) : atI (ys ++ [v]) (-1) = some v := by
  unfold atI ixN
  rw [if_neg (by decide), if_pos (by rw [List.length_append, List.length_singleton]; omega), List.length_append, List.length_singleton]
  have : ((-1 : Int) + ((ys.length + 1 : Nat) : Int)).toNat = ys.length := by omega
  show (ys ++ [v])[((-1 : Int) + ((ys.length + 1 : Nat) : Int)).toNat]? = some v
  rw [this, List.getElem?_append_right (Nat.le_refl _), Nat.sub_self]
  rfl
theorem RowsR.last {H : Hp} {xs : List V} {hss : List (List Int)} {hs : List Int} (h : RowsR H xs (hss ++ [hs])) : ∃ ys r, xs = ys ++ [V.ref r] ∧ H r = some (.tup (hs.map V.int)) := by
  have l := h.len
  rcases List.eq_nil_or_concat xs with rfl | ⟨ys, y, rfl⟩
  · simp at l
  simp only [List.concat_eq_append] at h l ⊢
  have l2 : ys.length = hss.length := by simpa using l
  obtain ⟨hs2, r, e1, rfl, e3⟩ := h.get (i := ys.length) (by rw [List.getElem?_append_right (Nat.le_refl _), Nat.sub_self]; rfl)
  rw [l2, List.getElem?_append_right (Nat.le_refl _), Nat.sub_self] at e1
  obtain rfl : hs = hs2 := Option.some.inj e1
  exact ⟨ys, r, rfl, e3⟩
section
variable {P : Program} {w : World} {K : PySem.W.Frag} {mg : Str → Option Value} {base : Heap}
def sp_is_move (C : Addr) : Sp := fun vs H Q _ => ∃ (a r c : Addr) (ns cs : List Int) (bk : Bool), vs = [.ref a, .ref r] ∧ TabAt C H a ns ∧ ns.length ≤ 4 ∧ H r = some (.tup [.ref c, .str (dirS bk)]) ∧ H c = some (.tup (cs.map V.int)) ∧ cs.length = ns.length ∧ ∀ H2, Ex H H2 → Q (.bl true) H2
theorem ok_is_move (T : TX K mg) : FnOk P w K mg base CX0 3 T.f_is_move T.fd_is_move ["table", "value"] (sp_is_move T.C_Table) := by
  refine T.F_is_move.ok sc_is_move (fun vs H Q E h => ?_) (fun cdv A outer s H vs Q E hr h => ?_)
  · obtain ⟨a, r, c, ns, cs, bk, rfl, _⟩ := h
    rfl
  · obtain ⟨a, r, c, ns, cs, bk, rfl, tab, l4, hr1, hc, lc, k⟩ := h
    refine ⟨_, (pss_cons (ps_if (PW.pt (pw_or (pt_not (pt_val (pe_callB call_isi (by rfl) T.z_isinstance (by decide +kernel) (pa_cons (pv 1) (pa_cons (pe_bltn (v := .ty "tuple") rfl T.z_tuple (by decide +kernel) rfl) pa_nil))))) (pw_or1 (pt_cmpR op_ne (pe_callB call_len_seq (by rfl) T.z_len (by decide +kernel) (pa_cons (pv 1) pa_nil)) pe_int (nomark _))))) (pss_one (ps_ret pe_bl)) pss_nil) (pss_one (ps_ret (pe_and (pe_meth (pv 0) T.cl_Table T.me_Table_is_call (ok_Table_is_call T) hr T.b_Table_is_call .nil pass0 (pa_cons (pe_ix ix_tup (pv 1) pe_int (fun _ _ => rfl)) pa_nil)) (pe_one (pe_call (ok_is_direction T) (hr.mono (by decide)) rfl T.m_is_direction T.F_is_direction.kp T.b_is_direction .nil pass0 (pa_cons (pe_ix ix_tup (pv 1) pe_int (fun _ _ => rfl)) pa_nil))))))), ?_⟩
    obtain ⟨dx, t, g1, g2⟩ := id tab
    refine ⟨_, rfl, _, _, _, _, true, rfl, .ty _, .base (.tup hr1), kit_ty (by decide +kernel), _, rfl, ?_⟩
    refine ⟨_, rfl, r, _, rfl, .inr (SqT.of hr1), rfl, _, rfl, ?_⟩
    refine ⟨_, rfl, a, dx, _, rfl, g1, rfl, _, rfl, r, _, _, _, rfl, rfl, SqT.of hr1, rfl, a, _, ns, _, rfl, tab, TupA.ints hc (by omega), fun H1 e1 => ?_⟩
    rw [isCall_ok lc]
    refine ⟨_, rfl, ?_⟩
    refine ⟨_, rfl, r, _, _, _, rfl, rfl, SqT.of (e1 _ _ hr1), rfl, _, some (dirS bk), rfl, rfl, fun H2 e2 => ?_⟩
    have : isDirO (some (dirS bk)) = true := by cases bk <;> decide +kernel
    rw [this]
    exact k _ (ext e1 e2)
def sp_require_moves (C : Addr) : Sp := fun vs H Q _ => ∃ (a : Addr) (q : Bool × Addr) (ns : List Int) (ms : List (List Int × Bool)), vs = [.ref a, .ref q.2] ∧ TabAt C H a ns ∧ ns.length ≤ 4 ∧ MovQ H q ms ∧ (∀ m ∈ ms, m.1.length = ns.length) ∧ ∀ H2, Ex H H2 → Q .non H2
theorem ok_require_moves (T : TX K mg) : FnOk P w K mg base CX0 4 T.f_require_moves T.fd_require_moves ["table", "moves"] (sp_require_moves T.C_Table) := by
  refine T.F_require_moves.ok sc_require_moves (fun vs H Q E h => ?_) (fun cdv A outer s H vs Q E hr h => ?_)
  · obtain ⟨a, q, ns, ms, rfl, _⟩ := h
    rfl
  · obtain ⟨a, ⟨b, q⟩, ns, ms, rfl, tab, l4, ⟨xs, hq, rr⟩, hm, k⟩ := h
    refine ⟨_, (pss_cons (ps_if (pt_not (pt_val (pe_callB call_isiT (by rfl) T.z_isinstance (by decide +kernel) (pa_cons (pv 1) (pa_cons (pe_tup (pa_cons (pe_bltn (v := .ty "list") rfl T.z_list (by decide +kernel) rfl) (pa_cons (pe_bltn (v := .ty "tuple") rfl T.z_tuple (by decide +kernel) rfl) pa_nil))) pa_nil))))) pss_never pss_nil) (pss_one (ps_for PassesOwn.never rfl (CE.pi_e rfl T.z_enumerate (pa_cons (pv 1) pa_nil)) (pg_tup rfl (pgs_cons (pg_name (i := 2) sc_require_moves.nd rfl (Or.inl rfl)) (pgs_cons (pg_name (i := 3) sc_require_moves.nd rfl (Or.inl rfl)) pgs_nil))) (pss_one (ps_if (pt_not (pt_val (pe_call (ok_is_move T) hr rfl T.m_is_move T.F_is_move.kp T.b_is_move .nil pass0 (pa_cons (pv 0) (pa_cons (pv 3) pa_nil))))) pss_never pss_nil))))), ?_⟩
    (repeat (first | refine ⟨rfl, ?_⟩ | refine ⟨_, rfl, ?_⟩ | refine ⟨_, _, rfl, rfl, ?_⟩ | refine ⟨_, _, rfl, ?_⟩ | refine ⟨slen rfl, ?_⟩ | refine ⟨⟨by decide, by decide +kernel⟩, ?_⟩ | refine ⟨⟨by decide, by decide, by decide⟩, ?_⟩ | refine ⟨(by show (0 : Int) < _; first | decide | assumption | omega), ?_⟩ | refine ⟨mul_ok (by first | exact .inr (by decide) | exact .inl (by decide)), ?_⟩))
    (intro y ny; generalize hGy : upd _ y _ = H1; have eH1 := exG hGy ny; have hy := atG hGy; clear hGy)
    have q1 := hq.mono eH1
    refine ⟨_, y, _, _, _, true, rfl, hy, .cons (.ty _) (.cons (.ty _) .nil), q1.ty, kit_seq b, _, rfl, itf rfl ?_⟩
    refine ⟨_, rfl, (b, q), rfl, ⟨_, q1.sq⟩, ?_⟩
    refine for_it (CE.walk_e (xs := xs)) (fun i σ H3 => (∃ (y2 y3 : Option V), σ = [some (.ref a), some (.ref q), y2, y3]) ∧ Ex H H3) ⟨⟨_, _, rfl⟩, eH1⟩ (fun i σ H2 _ ⟨_, e⟩ => (hq.mono e).sq) ?_ ?_
    · rintro i x σ H3 H4 hi ⟨⟨y2, y3, rfl⟩, e3⟩ ⟨Ta, x1, x2, rfl, hT, rfl, hx1, hx2⟩
      cases hx1
      obtain ⟨m, hmi, r, c, rfl, hr0, hc0⟩ := paired_get rr hx2
      have e4 : Ex H (upd H3 Ta (.tup [.int (i : Nat), .ref r])) := ext e3 (exn hT)
      refine ⟨Ta, _, rfl, SqT.of upd_same, rfl, _, _, rfl, _, _, rfl, rfl, ?_⟩
      refine ⟨_, rfl, _, rfl, a, r, c, ns, m.1, m.2, rfl, tab.mono e4, l4, e4 _ _ hr0, e4 _ _ hc0, hm m (List.mem_of_getElem? hmi), fun H5 e5 => ?_⟩
      exact ⟨_, rfl, itf rfl ⟨⟨_, _, rfl⟩, ext e4 e5⟩⟩
    · rintro σ H3 ⟨⟨y2, y3, rfl⟩, e3⟩
      exact k _ e3
def sp_visited_seats (C : Addr) : Sp := fun vs H Q _ => ∃ (a s : Addr) (q : Bool × Addr) (ns ps : List Int) (ms : List (List Int × Bool)), vs = [.ref a, .ref s, .ref q.2] ∧ TabAt C H a ns ∧ SzOk ns ∧ H s = some (.tup (ps.map V.int)) ∧ SeatOk ns ps ∧ MovQ H q ms ∧ ms.length ≤ 100000 ∧ (∀ m ∈ ms, m.1.length = ns.length) ∧ ∀ f H2, Ex H H2 → H f = none → RowsAt H2 f (walkL ns ps ms) → Q (.ref f) H2
theorem ok_visited_seats (T : TX K mg) : FnOk P w K mg base CX0 7 T.f_visited_seats T.fd_visited_seats ["table", "seat", "moves"] (sp_visited_seats T.C_Table) := by
  refine T.F_visited_seats.ok sc_visited_seats (fun vs H Q E h => ?_) (fun cdv A outer s H vs Q E hr h => ?_)
  · obtain ⟨a, s, q, ns, ps, ms, rfl, _⟩ := h
    rfl
  · obtain ⟨a, s, ⟨b, q⟩, ns, ps, ms, rfl, tab, ok, hs, sk, ⟨xs, hq, rr⟩, lm, hm, k⟩ := h
    refine ⟨_, (pss_cons (ps_set (i := 3) sc_visited_seats.nd rfl (Or.inl rfl) (pe_lst (pa_cons (pv 1) pa_nil))) (pss_cons (ps_for PassesOwn.never rfl (pi_seq (pv 2)) (pg_tup rfl (pgs_cons (pg_name (i := 4) sc_visited_seats.nd rfl (Or.inl rfl)) (pgs_cons (pg_name (i := 5) sc_visited_seats.nd rfl (Or.inl rfl)) pgs_nil))) (pss_one (ps_expr (pe_bm PySem.F.plainAttrs_list PySem.F.slot_list_append PySem.F.type_list_append mt_append (pv 3) (pa_cons (pe_meth (pv 0) T.cl_Table T.me_Table_step (ok_Table_step T) hr T.b_Table_step .nil pass0 (pa_cons (pe_ix ix_list (pv 3) (pe_un un_neg pe_int) (fun _ _ => rfl)) (pa_cons (pv 4) (pa_cons (pv 5) pa_nil)))) pa_nil))))) (pss_one (ps_ret (pv 3))))), ?_⟩
    have lx := rr.len
    (repeat (first | refine ⟨rfl, ?_⟩ | refine ⟨_, rfl, ?_⟩ | refine ⟨_, _, rfl, rfl, ?_⟩ | refine ⟨_, _, rfl, ?_⟩ | refine ⟨slen rfl, ?_⟩ | refine ⟨⟨by decide, by decide +kernel⟩, ?_⟩ | refine ⟨⟨by decide, by decide, by decide⟩, ?_⟩ | refine ⟨(by show (0 : Int) < _; first | decide | assumption | omega), ?_⟩ | refine ⟨mul_ok (by first | exact .inr (by decide) | exact .inl (by decide)), ?_⟩))
    (intro f nf; generalize hGf : upd _ f _ = H1; have eH1 := exG hGf nf; have hf := atG hGf; clear hGf)
    refine ⟨_, rfl, (b, q), rfl, ⟨_, (hq.mono eH1).sq⟩, ?_⟩
    refine for_it (walk_seq (xs := xs)) (fun i σ H3 => (∃ (y4 y5 : Option V), σ = [some (.ref a), some (.ref s), some (.ref q), some (.ref f), y4, y5]) ∧ Ex H H3 ∧ RowsAt H3 f (walkL ns ps (ms.take i))) ⟨⟨_, _, rfl⟩, eH1, _, hf, .cons ⟨s, rfl, eH1 _ _ hs⟩ .nil⟩ (fun i σ H2 _ ⟨_, e, _⟩ => (hq.mono e).sq) ?_ ?_
    · rintro i x σ _ H3 hi ⟨⟨y4, y5, rfl⟩, e3, ra⟩ ⟨rfl, hx⟩
      obtain ⟨m, hmi, r, c, rfl, hr0, hc0⟩ := paired_get rr hx
      obtain ⟨hss, eh⟩ := walk_last ns ps (ms.take i)
      obtain ⟨zs, hz1, hz2⟩ := id ra
      rw [eh] at hz2
      obtain ⟨ys, u, rfl, hu⟩ := hz2.last
      have skp := pos_ok ok.one sk (ms := ms.take i) fun m h => hm m (List.mem_of_mem_take h)
      have lc := hm m (List.mem_of_getElem? hmi)
      obtain ⟨dx, t, g1, g2⟩ := tab.mono e3
      refine ⟨r, _, rfl, SqT.of (e3 _ _ hr0), rfl, _, _, rfl, _, _, rfl, rfl, ?_⟩
      refine ⟨_, rfl, .inl ⟨rfl, _, SqL.of hz1⟩, ?_⟩
      refine ⟨_, rfl, a, dx, _, rfl, g1, rfl, _, rfl, _, rfl, f, _, _, _, rfl, rfl, SqL.of hz1, atI_last _ _, _, rfl, _, rfl, a, u, c, ns, _, m.1, m.2, rfl, tab.mono e3, ok, hu, e3 _ _ hc0, skp, lc, fun H4 z e4 nz hz => ?_⟩
      obtain ⟨acc, p1, p2, p3⟩ := rows_push (ra.mono e4) hz
      refine ⟨f, _, _, rfl, rfl, p1, ?_, ⟨_, _, rfl⟩, ex_upd (ext e3 e4) nf, ?_⟩
      · rw [p2, walk_len, List.length_take]
        exact Nat.lt_of_le_of_lt (show _ ≤ 100001 by omega) (by decide)
      · rw [take_more hmi, walk_snoc, pos_snoc]
        exact p3
    · rintro σ H3 ⟨⟨y4, y5, rfl⟩, e3, ra⟩
      rw [lx, List.take_length] at ra
      exact ⟨_, rfl, k f _ e3 nf ra⟩
end

/-- a record stands at a -/
def RecAt (CR C : Addr) (H : Hp) (a : Addr) (ns st : List Int) (tss : List (List Int)) (ms : List (List Int × Bool)) : Prop :=
  ∃ (dx tb g p v : Addr) (gs ps vs : List V), H a = some (.ins CR dx [("table", .ref tb), ("goals", .ref g), ("played", .ref p), ("visited", .ref v)]) ∧ TabAt C H tb ns ∧ H g = some (.tup gs) ∧ RowsR H gs tss ∧ H p = some (.tup ps) ∧ MovR H ps ms ∧ H v = some (.tup vs) ∧ RowsR H vs (walkL ns st ms)
theorem RecAt.mono {CR C : Addr} {H H2 : Hp} {a : Addr} {ns st : List Int} {tss : List (List Int)} {ms : List (List Int × Bool)} (e : Ex H H2) (h : RecAt CR C H a ns st tss ms) : RecAt CR C H2 a ns st tss ms := by
  obtain ⟨dx, tb, g, p, v, gs, ps, vs, h1, h2, h3, h4, h5, h6, h7, h8⟩ := h
  exact ⟨dx, tb, g, p, v, gs, ps, vs, e _ _ h1, h2.mono e, e _ _ h3, h4.mono e, e _ _ h5, h6.mono e, e _ _ h7, h8.mono e⟩
section
variable {P : Program} {w : World} {K : PySem.W.Frag} {mg : Str → Option Value} {base : Heap}
end

/-- a source of draws stands at s -/
def Src (H : Hp) (s : Addr) : Prop := ∃ a b c : Int, H s = some (.lst [.int a, .int b, .int c])
theorem Src.mono {s : Addr} {H H2 : Hp} (e : Ex H H2) (h : Src H s) : Src H2 s := by
  obtain ⟨a, b, c, h⟩ := h
  exact ⟨a, b, c, e _ _ h⟩
theorem Src.ne {s p : Addr} {H : Hp} (h : Src H s) (hp : H p = none) : p ≠ s := by
  obtain ⟨a, b, c, h⟩ := h
  exact (ne_of_none h hp).symm
theorem Src.new {s p : Addr} {H : Hp} {o : HO} (h : Src H s) (hp : H p = none) : Src (upd H p o) s := Src.mono (exn hp) h
section
variable {P : Program} {w : World} {K : PySem.W.Frag} {mg : Str → Option Value} {base : Heap}
def sp_law_mixed : Sp := fun vs H Q _ => ∃ c d : Int, vs = [.int c, .int d] ∧ ∀ r : Int, 0 ≤ r → r < 2147483563 → Q (.int r) H
theorem ok_law_mixed (T : TX K mg) : FnOk P w K mg base CX0 1 T.f_law_mixed T.fd_law_mixed ["_law_cell", "_law_k"] sp_law_mixed := by
  refine T.F_law_mixed.ok sc_law_mixed (fun vs H Q E h => ?_) (fun cdv A outer s H vs Q E hr h => ?_)
  · obtain ⟨c, d, rfl, _⟩ := h
    rfl
  · obtain ⟨c, d, rfl, k⟩ := h
    refine ⟨_, (pss_cons (ps_set (i := 2) sc_law_mixed.nd rfl (Or.inl rfl) (pe_op op_mod (pe_op op_mulI (pe_op op_add (pe_op op_mod (pv 0) pe_int) pe_int) (pe_op op_add (pe_op op_mulI (pv 1) pe_int) pe_int)) pe_int)) (pss_cons (ps_set (i := 2) sc_law_mixed.nd rfl (Or.inl rfl) (pe_op op_mod (pe_op op_mulI (pe_op op_add (pv 2) (pe_op op_mulI (pe_op op_mod (pe_op op_fdivW (pv 0) pe_int) pe_int) (pe_op op_add (pv 1) pe_int))) pe_int) pe_int)) (pss_cons (ps_set (i := 2) sc_law_mixed.nd rfl (Or.inl rfl) (pe_op op_mod (pe_op op_mulI (pv 2) (pe_op op_add (pe_op op_add (pe_op op_fdivW (pv 2) pe_int) pe_int) (pv 1))) pe_int)) (pss_one (ps_ret (pe_op op_mod (pe_op op_mulI (pv 2) (pe_op op_add (pe_op op_fdivW (pv 2) pe_int) pe_int)) pe_int)))))), ?_⟩
    have a1 := mod_lo (i := c) (n := 2147483646) (by decide)
    have a2 := mod_hi (i := c) (n := 2147483646) (by decide)
    refine ⟨_, rfl, _, _, rfl, rfl, (by show (0 : Int) < _; decide), _, _, rfl, rfl, _, rfl, _, _, rfl, rfl, mul_ok (.inr (by decide)), _, _, rfl, rfl, _, _, rfl, rfl, mul_ok (.inl (by omega)), _, _, rfl, rfl, (by show (0 : Int) < _; decide), ?_⟩
    generalize (c % 2147483646 + 1) * (d * 7919 + 104729) % 2147483647 = n1
    have b1 := mod_lo (i := c / 2147483646) (n := 1000003) (by decide)
    have b2 := mod_hi (i := c / 2147483646) (n := 1000003) (by decide)
    refine ⟨_, rfl, _, rfl, _, _, rfl, rfl, ⟨by decide, by decide +kernel⟩, _, _, rfl, rfl, (by show (0 : Int) < _; decide), _, rfl, _, _, rfl, rfl, _, _, rfl, rfl, mul_ok (.inl (by omega)), _, _, rfl, rfl, _, _, rfl, rfl, mul_ok (.inr (by decide)), _, _, rfl, rfl, (by show (0 : Int) < _; decide), ?_⟩
    have c1 := mod_lo (i := (n1 + c / 2147483646 % 1000003 * (d + 31)) * 48271) (n := 2147483629) (by decide)
    have c2 := mod_hi (i := (n1 + c / 2147483646 % 1000003 * (d + 31)) * 48271) (n := 2147483629) (by decide)
    generalize (n1 + c / 2147483646 % 1000003 * (d + 31)) * 48271 % 2147483629 = n2 at c1 c2
    refine ⟨_, rfl, _, rfl, _, _, rfl, rfl, ⟨by decide, by decide +kernel⟩, _, _, rfl, rfl, _, rfl, _, _, rfl, rfl, _, _, rfl, rfl, mul_ok (.inl (by omega)), _, _, rfl, rfl, (by show (0 : Int) < _; decide), ?_⟩
    have d1 := mod_lo (i := n2 * (n2 / 1013 + 69621 + d)) (n := 2147483587) (by decide)
    have d2 := mod_hi (i := n2 * (n2 / 1013 + 69621 + d)) (n := 2147483587) (by decide)
    generalize n2 * (n2 / 1013 + 69621 + d) % 2147483587 = n3 at d1 d2
    exact ⟨_, rfl, _, rfl, _, _, rfl, rfl, ⟨by decide, by decide +kernel⟩, _, _, rfl, rfl, _, _, rfl, rfl, mul_ok (.inl (by omega)), _, _, rfl, rfl, (by show (0 : Int) < _; decide), k _ (mod_lo (by decide)) (mod_hi (by decide))⟩
def sp_law_source : Sp := fun vs H Q _ => ∃ c : Int, vs = [.int c] ∧ ∀ H2 s, Ex H H2 → H s = none → Src H2 s → Q (.ref s) H2
theorem ok_law_source (T : TX K mg) : FnOk P w K mg base CX0 1 T.f_law_source T.fd_law_source ["_law_cell"] sp_law_source := by
  refine T.F_law_source.ok sc_law_source (fun vs H Q E h => ?_) (fun cdv A outer s H vs Q E hr h => ?_)
  · obtain ⟨c, rfl, _⟩ := h
    rfl
  · obtain ⟨c, rfl, k⟩ := h
    exact ⟨_, (pss_one (ps_ret (pe_lst (pa_cons (pv 0) (pa_cons (pv 0) (pa_cons pe_int pa_nil)))))), ⟨_, rfl, _, rfl, (by show 3 ≤ sizeLine; decide), fun s hs => k _ s (exn hs) hs ⟨c, c, 0, upd_same⟩⟩⟩
def sp_law_take : Sp := fun vs H Q _ => ∃ (s : Addr) (n : Int), vs = [.ref s, .int n] ∧ Src H s ∧ 0 < n ∧ n.natAbs < 2 ^ 8000 ∧ ∀ r H2, 0 ≤ r → r < n → XB s H H2 → Src H2 s → Q (.int r) H2
theorem ok_law_take (T : TX K mg) : FnOk P w K mg base CX0 2 T.f_law_take T.fd_law_take ["_law_source_here", "_law_many"] sp_law_take := by
  refine T.F_law_take.ok sc_law_take (fun vs H Q E h => ?_) (fun cdv A outer s H vs Q E hr h => ?_)
  · obtain ⟨s, n, rfl, _⟩ := h
    rfl
  · obtain ⟨s, n, rfl, ⟨a, b, c, hs⟩, h0, hb, k⟩ := h
    refine ⟨_, (pss_cons (ps_if (pt_cmpR op_ge (pe_ix ix_list (pv 0) pe_int (fun _ _ => rfl)) (pe_op op_pow pe_int pe_int) (nomark _)) (pss_cons (ps_set (i := 2) sc_law_take.nd rfl (Or.inl rfl) (pe_op op_mod (pe_ix ix_list (pv 0) pe_int (fun _ _ => rfl)) (pv 1))) (pss_cons (ps_asg (pe_op op_fdivW (pe_ix ix_list (pv 0) pe_int (fun _ _ => rfl)) (pv 1)) (pg_sub (pv 0) pe_int set_list)) (pss_one (ps_ret (pv 2))))) pss_nil) (pss_cons (ps_asg (pe_op op_add (pe_ix ix_list (pv 0) pe_int (fun _ _ => rfl)) pe_int) (pg_sub (pv 0) pe_int set_list)) (pss_one (ps_ret (pe_op op_mod (pe_call (ok_law_mixed T) hr rfl T.m_law_mixed T.F_law_mixed.kp T.b_law_mixed .nil pass0 (pa_cons (pe_ix ix_list (pv 0) pe_int (fun _ _ => rfl)) (pa_cons (pe_ix ix_list (pv 0) pe_int (fun _ _ => rfl)) pa_nil))) (pv 1)))))), ?_⟩
    refine ⟨_, rfl, s, _, _, _, rfl, rfl, SqL.of hs, rfl, _, _, rfl, rfl, ⟨by decide, by decide, by decide⟩, _, _, rfl, rfl, _, rfl, ?_⟩
    refine ite2 (fun _ => ?_) (fun _ => ?_)
    · refine ⟨_, rfl, s, _, _, _, rfl, rfl, SqL.of hs, rfl, _, rfl, _, _, rfl, rfl, h0, ?_⟩
      refine ⟨_, rfl, s, _, _, _, rfl, rfl, SqL.of hs, rfl, _, rfl, _, _, rfl, rfl, wide_div h0 hb (by decide) (by decide), _, rfl, s, _, _, 0, rfl, rfl, hs, rfl, ?_⟩
      exact ⟨_, rfl, k _ _ (mod_lo h0) (mod_hi h0) XB.upd ⟨_, _, _, upd_same⟩⟩
    · refine ⟨_, rfl, s, _, _, _, rfl, rfl, SqL.of hs, rfl, _, _, rfl, rfl, _, rfl, s, _, _, 2, rfl, rfl, hs, rfl, ?_⟩
      refine ⟨_, rfl, s, _, _, _, rfl, rfl, SqL.of upd_same, rfl, _, rfl, s, _, _, _, rfl, rfl, SqL.of upd_same, rfl, _, _, rfl, fun r _ _ => ?_⟩
      exact ⟨_, rfl, _, _, rfl, rfl, h0, k _ _ (mod_lo h0) (mod_hi h0) XB.upd ⟨_, _, _, upd_same⟩⟩
end

theorem XB.src {s : Addr} {H H2 H3 : Hp} (xb : XB s H H2) (e : Ex H2 H3) : XB s H H3 := xb.trans (XB.of e)
/-- an appended list D, new behind H, beside the source s -/
theorem XB.app {s D : Addr} {H H2 : Hp} {o : HO} (xb : XB s H H2) (hD : H D = none) : XB s H (L2.upd H2 D o) := fun c u n z => by
  rw [upd_ne (ne_of_none z hD)]
  exact xb c u n z
theorem Src.app {s D : Addr} {H : Hp} {o : HO} (h : Src H s) (n : D ≠ s) : Src (upd H D o) s := by
  obtain ⟨a, b, c, z⟩ := h
  exact ⟨a, b, c, by rw [upd_ne n.symm]; exact z⟩
theorem atI_nat {α : Type} {xs : List α} {r : Int} (r0 : 0 ≤ r) (r1 : r < xs.length) : ∃ v, atI xs r = some v ∧ v ∈ xs := by
  have h : r.toNat < xs.length := by omega
  refine ⟨xs[r.toNat], ?_, List.getElem_mem h⟩
  unfold atI ixN
  rw [if_pos r0, if_pos r1]
  show xs[r.toNat]? = _
  rw [List.getElem?_eq_getElem h]
theorem prodL_snoc (ns : List Int) (n : Int) : ns.foldl (fun p n => p * n) 1 * n = (ns ++ [n]).foldl (fun p n => p * n) 1 := by
  rw [List.foldl_append]
  rfl
theorem SeatOk.snoc : ∀ {ns ps : List Int} {n p : Int}, SeatOk ns ps → 0 ≤ p → p < n → SeatOk (ns ++ [n]) (ps ++ [p])
  | [], [], _, _, _, h0, h1 => ⟨⟨h0, h1⟩, True.intro⟩
  | _ :: _, _ :: _, _, _, h, h0, h1 => ⟨h.1, SeatOk.snoc h.2 h0 h1⟩
theorem abs30 {n : Int} (h1 : 1 ≤ n) (h2 : n ≤ 10 ^ 30) : n.natAbs < 2 ^ 100 := by
  have : (10 : Int) ^ 30 < 2 ^ 100 := by decide +kernel
  omega
theorem tup_xb {s q : Addr} {H H2 : Hp} {xs : List V} (src : Src H s) (h : H q = some (.tup xs)) (xb : XB s H H2) : H2 q = some (.tup xs) := by
  obtain ⟨a, b, c, z⟩ := src
  exact xb _ _ (ne_of h z (by intro q; cases q)) h
theorem TabAt.xb {C s a : Addr} {H H2 : Hp} {ns : List Int} (src : Src H s) (xb : XB s H H2) (h : TabAt C H a ns) : TabAt C H2 a ns := by
  obtain ⟨dx, t, h1, h2⟩ := h
  obtain ⟨x, y, c, z⟩ := src
  exact ⟨dx, t, xb _ _ (ne_of h1 z (by intro q; cases q)) h1, xb _ _ (ne_of h2 z (by intro q; cases q)) h2⟩
theorem RowsR.xb {s : Addr} {H H2 : Hp} {xs : List V} {tss : List (List Int)} (h : RowsR H xs tss) (src : Src H s) (xb : XB s H H2) : RowsR H2 xs tss := h.monoT fun _ _ z => tup_xb src z xb
theorem RowsAt.xb {s f : Addr} {H H2 : Hp} {tss : List (List Int)} (h : RowsAt H f tss) (n : f ≠ s) (src : Src H s) (xb : XB s H H2) : RowsAt H2 f tss := by
  obtain ⟨xs, h1, h2⟩ := h
  exact ⟨xs, xb _ _ n h1, h2.xb src xb⟩

theorem MovR.monoT {H H2 : Hp} (e : ∀ c xs, H c = some (.tup xs) → H2 c = some (.tup xs)) : ∀ {xs : List V} {ms : List (List Int × Bool)}, MovR H xs ms → MovR H2 xs ms
  | _, _, .nil => .nil
  | _, _, .cons ⟨r, c, h1, h2, h3⟩ t => .cons ⟨r, c, h1, e _ _ h2, e _ _ h3⟩ (MovR.monoT e t)
theorem MovR.xb {s : Addr} {H H2 : Hp} {xs : List V} {ms : List (List Int × Bool)} (h : MovR H xs ms) (src : Src H s) (xb : XB s H H2) : MovR H2 xs ms := h.monoT fun _ _ z => tup_xb src z xb

section
variable {P : Program} {w : World} {K : PySem.W.Frag} {mg : Str → Option Value} {base : Heap}
def sp_law_one : Sp := fun vs H Q _ => ∃ (s l : Addr) (xs : List V), vs = [.ref s, .ref l] ∧ Src H s ∧ H l = some (.lst xs) ∧ l ≠ s ∧ xs ≠ [] ∧ xs.length ≤ 1000 ∧ ∀ (v : V) H2, v ∈ xs → XB s H H2 → Src H2 s → Q v H2
theorem ok_law_one (T : TX K mg) : FnOk P w K mg base CX0 3 T.f_law_one T.fd_law_one ["_law_source_here", "_law_some"] sp_law_one := by
  refine T.F_law_one.ok sc_law_one (fun vs H Q E h => ?_) (fun cdv A outer s H vs Q E hr h => ?_)
  · obtain ⟨s, l, xs, rfl, _⟩ := h
    rfl
  · obtain ⟨s, l, xs, rfl, hs, hl, nl, ne, lx, k⟩ := h
    refine ⟨_, (pss_one (ps_ret (pe_ix ix_list (pv 1) (pe_call (ok_law_take T) hr rfl T.m_law_take T.F_law_take.kp T.b_law_take .nil pass0 (pa_cons (pv 0) (pa_cons (pe_callB call_len_seq (by rfl) T.z_len (by decide +kernel) (pa_cons (pv 1) pa_nil)) pa_nil))) (fun _ _ => rfl)))), ?_⟩
    have pos := List.length_pos_iff.mpr ne
    refine ⟨_, rfl, _, rfl, _, rfl, l, _, rfl, .inl (SqL.of hl), s, _, rfl, hs, (by omega), ?_, fun r H2 r0 r1 xb src => ?_⟩
    · rw [Int.natAbs_natCast]
      exact Nat.lt_of_le_of_lt lx (by decide +kernel)
    obtain ⟨v, hv, hm⟩ := atI_nat r0 r1
    exact ⟨l, _, _, _, rfl, rfl, SqL.of (xb _ _ nl hl), hv, k v _ hm xb src⟩
def sp_law_rings : Sp := fun vs H Q _ => ∃ (s : Addr) (m : Int), vs = [.ref s, .int m] ∧ Src H s ∧ 3 ≤ m ∧ m ≤ 1000000 ∧ ∀ (t : Addr) (ns : List Int) H2, H t = none → H2 t = some (.tup (ns.map V.int)) → SzOk ns → (∀ n ∈ ns, n ≤ 31) → ns.foldl (fun p n => p * n) 1 ≤ m → XB s H H2 → Src H2 s → Q (.ref t) H2
theorem ok_law_rings (T : TX K mg) : FnOk P w K mg base CX0 4 T.f_law_rings T.fd_law_rings ["_law_source_here", "_law_limit"] sp_law_rings := by
  refine T.F_law_rings.ok sc_law_rings (fun vs H Q E h => ?_) (fun cdv A outer s H vs Q E hr h => ?_)
  · obtain ⟨s, m, rfl, _⟩ := h
    rfl
  · obtain ⟨s, m, rfl, hs, m0, m1, k⟩ := h
    refine ⟨_, (pss_cons (ps_set (i := 2) sc_law_rings.nd rfl (Or.inl rfl) (pe_lst pa_nil)) (pss_cons (ps_set (i := 3) sc_law_rings.nd rfl (Or.inl rfl) pe_int) (pss_cons (ps_for PassesOwn.never rfl (pi_range1 rfl T.z_range (pa_cons (pe_op op_add pe_int (pe_call (ok_law_take T) (hr.mono (by decide)) rfl T.m_law_take T.F_law_take.kp T.b_law_take .nil pass0 (pa_cons (pv 0) (pa_cons pe_int pa_nil)))) pa_nil)) (pg_name (i := 4) sc_law_rings.nd rfl (Or.inl rfl)) (pss_cons (ps_set (i := 5) sc_law_rings.nd rfl (Or.inl rfl) (pe_call (ok_law_one T) hr rfl T.m_law_one T.F_law_one.kp T.b_law_one .nil pass0 (pa_cons (pv 0) (pa_cons (pe_lst (pa_cons pe_int (pa_cons pe_int (pa_cons pe_int (pa_cons pe_int (pa_cons pe_int (pa_cons pe_int (pa_cons pe_int (pa_cons pe_int (pa_cons pe_int (pa_cons pe_int (pa_cons pe_int (pa_cons (pe_op op_add pe_int (pe_call (ok_law_take T) (hr.mono (by decide)) rfl T.m_law_take T.F_law_take.kp T.b_law_take .nil pass0 (pa_cons (pv 0) (pa_cons pe_int pa_nil)))) pa_nil))))))))))))) pa_nil)))) (pss_one (ps_if (pt_cmpR op_le (pe_op op_mulI (pv 3) (pv 5)) (pv 1) (nomark _)) (pss_cons (ps_expr (pe_bm PySem.F.plainAttrs_list PySem.F.slot_list_append PySem.F.type_list_append mt_append (pv 2) (pa_cons (pv 5) pa_nil))) (pss_one (ps_set (i := 3) sc_law_rings.nd rfl (Or.inl rfl) (pe_op op_mulI (pv 3) (pv 5))))) pss_nil)))) (pss_one (ps_ret (pe_callTy call_tuple_of (by rfl) T.z_tuple (by decide +kernel) (pa_cons (pe_op (r := rCatR K) op_catR (pv 2) (pe_op op_rep (pe_lst (pa_cons pe_int pa_nil)) (pe_callTy call_int1 (by rfl) T.z_int (by decide +kernel) (pa_cons (pe_cmpR (r := rEqD K) (op_eqD hr.units) (pv 2) (pe_lst pa_nil) (nomark _)) pa_nil)))) pa_nil))))))), ?_⟩
    (repeat (first | refine ⟨rfl, ?_⟩ | refine ⟨_, rfl, ?_⟩ | refine ⟨_, _, rfl, rfl, ?_⟩ | refine ⟨_, _, rfl, ?_⟩ | refine ⟨slen rfl, ?_⟩ | refine ⟨⟨by decide, by decide +kernel⟩, ?_⟩ | refine ⟨⟨by decide, by decide, by decide⟩, ?_⟩ | refine ⟨(by show (0 : Int) < _; first | decide | assumption | omega), ?_⟩ | refine ⟨mul_ok (by first | exact .inr (by decide) | exact .inl (by decide)), ?_⟩))
    (intro l nl; generalize hGl : upd _ l _ = H1; have eH1 := exG hGl nl; have hl := atG hGl; clear hGl)
    have nls : l ≠ s := hs.ne nl
    (repeat (first | refine ⟨rfl, ?_⟩ | refine ⟨_, rfl, ?_⟩ | refine ⟨_, _, rfl, rfl, ?_⟩ | refine ⟨_, _, rfl, ?_⟩ | refine ⟨slen rfl, ?_⟩ | refine ⟨⟨by decide, by decide +kernel⟩, ?_⟩ | refine ⟨⟨by decide, by decide, by decide⟩, ?_⟩ | refine ⟨(by show (0 : Int) < _; first | decide | assumption | omega), ?_⟩ | refine ⟨mul_ok (by first | exact .inr (by decide) | exact .inl (by decide)), ?_⟩))
    refine ⟨hs.mono eH1, by decide, by decide +kernel, fun r H2 r0 r1 xb2 src2 => ?_⟩
    (repeat (first | refine ⟨rfl, ?_⟩ | refine ⟨_, rfl, ?_⟩ | refine ⟨_, _, rfl, rfl, ?_⟩ | refine ⟨_, _, rfl, ?_⟩ | refine ⟨slen rfl, ?_⟩ | refine ⟨⟨by decide, by decide +kernel⟩, ?_⟩ | refine ⟨⟨by decide, by decide, by decide⟩, ?_⟩ | refine ⟨(by show (0 : Int) < _; first | decide | assumption | omega), ?_⟩ | refine ⟨mul_ok (by first | exact .inr (by decide) | exact .inl (by decide)), ?_⟩))
    refine ⟨by omega, by omega, ?_⟩
    have hl2 := xb2 _ _ nls hl
    have xbH : XB s H H2 := (XB.of eH1).trans xb2
    refine for_it walk_range (fun i σ H3 => ∃ (y4 y5 : Option V) (ns : List Int), σ = [some (.ref s), some (.int m), some (.ref l), some (.int (ns.foldl (fun p n => p * n) 1)), y4, y5] ∧ H3 l = some (.lst (ns.map V.int)) ∧ ns.length ≤ i ∧ (∀ n ∈ ns, 1 ≤ n ∧ n ≤ 31) ∧ 1 ≤ ns.foldl (fun p n => p * n) 1 ∧ ns.foldl (fun p n => p * n) 1 ≤ m ∧ XB s H H3 ∧ Src H3 s) ⟨none, none, [], rfl, hl2, Nat.le_refl _, by simp, by decide, by show (1 : Int) ≤ m; omega, xbH, src2⟩ (fun _ _ _ _ _ => True.intro) ?_ ?_
    · rintro i x σ _ H3 hi ⟨y4, y5, ns, rfl, hl3, ln, hn, t1, t2, xb3, src3⟩ ⟨rfl, hx⟩
      obtain rfl : x = .int (i : Int) := hx.trans (congrArg V.int (Int.zero_add _))
      (repeat (first | refine ⟨rfl, ?_⟩ | refine ⟨_, rfl, ?_⟩ | refine ⟨_, _, rfl, rfl, ?_⟩ | refine ⟨_, _, rfl, ?_⟩ | refine ⟨slen rfl, ?_⟩ | refine ⟨⟨by decide, by decide +kernel⟩, ?_⟩ | refine ⟨⟨by decide, by decide, by decide⟩, ?_⟩ | refine ⟨(by show (0 : Int) < _; first | decide | assumption | omega), ?_⟩ | refine ⟨mul_ok (by first | exact .inr (by decide) | exact .inl (by decide)), ?_⟩))
      refine ⟨src3, by decide, by decide +kernel, fun r5 H5 r50 r51 xb5 src5 => ?_⟩
      (repeat (first | refine ⟨rfl, ?_⟩ | refine ⟨_, rfl, ?_⟩ | refine ⟨_, _, rfl, rfl, ?_⟩ | refine ⟨_, _, rfl, ?_⟩ | refine ⟨slen rfl, ?_⟩ | refine ⟨⟨by decide, by decide +kernel⟩, ?_⟩ | refine ⟨⟨by decide, by decide, by decide⟩, ?_⟩ | refine ⟨(by show (0 : Int) < _; first | decide | assumption | omega), ?_⟩ | refine ⟨mul_ok (by first | exact .inr (by decide) | exact .inl (by decide)), ?_⟩))
      (intro al nal; generalize hGal : upd _ al _ = H6; have eH6 := exG hGal nal; have hal := atG hGal; clear hGal)
      have nals : al ≠ s := src5.ne nal
      have hl5 := xb5 _ _ nls hl3
      refine ⟨s, al, _, rfl, src5.mono eH6, hal, nals, by simp, (by show 12 ≤ 1000; decide), fun v H7 hv xb7 src7 => ?_⟩
      obtain ⟨z, rfl, z1, z2⟩ : ∃ z : Int, v = .int z ∧ 1 ≤ z ∧ z ≤ 31 := by
        simp only [List.mem_cons, List.not_mem_nil, or_false] at hv
        rcases hv with rfl | rfl | rfl | rfl | rfl | rfl | rfl | rfl | rfl | rfl | rfl | rfl
        all_goals exact ⟨_, rfl, by omega, by omega⟩
      have hl7 := xb7 _ _ nls (eH6 _ _ hl5)
      have XB7 : XB s H H7 := (xb3.trans xb5).trans ((XB.of eH6).trans xb7)
      have mok : IntMulOk (ns.foldl (fun p n => p * n) 1) z := mul_ok (.inl (by omega))
      refine ⟨_, rfl, _, rfl, _, _, rfl, rfl, mok, _, rfl, _, _, rfl, rfl, _, rfl, ?_⟩
      refine ite2 (fun hc => ?_) (fun hc => ?_)
      · have hc2 := of_decide_eq_true hc
        refine ⟨_, rfl, .inl ⟨rfl, _, SqL.of hl7⟩, _, rfl, l, _, _, rfl, rfl, hl7, ?_, ?_⟩
        · rw [List.length_map]
          have : i < (1 + r).toNat := hi
          exact Nat.lt_of_le_of_lt (show ns.length ≤ 4 by omega) (by decide)
        refine ⟨_, rfl, _, rfl, _, _, rfl, rfl, mok, ?_⟩
        refine ⟨some (.int (i : Int)), some (.int z), ns ++ [z], ?_, ?_, ?_, ?_, ?_, ?_, XB7.app nl, src7.app nls⟩
        · rw [← prodL_snoc]
          rfl
        · rw [upd_same, List.map_append]
          rfl
        · rw [List.length_append]
          show _ + 1 ≤ _
          omega
        · intro n hn2
          rcases List.mem_append.mp hn2 with h | h
          · exact hn n h
          · rw [List.mem_singleton.mp h]
            exact ⟨z1, z2⟩
        · rw [← prodL_snoc]
          exact Int.le_trans z1 (by have := Int.mul_le_mul_of_nonneg_right t1 (show 0 ≤ z by omega); omega)
        · rw [← prodL_snoc]
          exact hc2
      · exact ⟨_, _, ns, rfl, hl7, by omega, hn, t1, t2, XB7, src7⟩
    · rintro σ H3 ⟨y4, y5, ns, rfl, hl3, ln, hn, t1, t2, xb3, src3⟩
      have ln4 : ns.length ≤ 4 := by
        have : ns.length ≤ (1 + r).toNat := ln
        omega
      (repeat (first | refine ⟨rfl, ?_⟩ | refine ⟨_, rfl, ?_⟩ | refine ⟨_, _, rfl, rfl, ?_⟩ | refine ⟨_, _, rfl, ?_⟩ | refine ⟨slen rfl, ?_⟩ | refine ⟨⟨by decide, by decide +kernel⟩, ?_⟩ | refine ⟨⟨by decide, by decide, by decide⟩, ?_⟩ | refine ⟨(by show (0 : Int) < _; first | decide | assumption | omega), ?_⟩ | refine ⟨mul_ok (by first | exact .inr (by decide) | exact .inl (by decide)), ?_⟩))
      (intro b3 nb3; generalize hGb3 : upd _ b3 _ = H4; have eH4 := exG hGb3 nb3; have hb3 := atG hGb3; clear hGb3)
      have nb3 : b3 ≠ s := src3.ne nb3
      (repeat (first | refine ⟨rfl, ?_⟩ | refine ⟨_, rfl, ?_⟩ | refine ⟨_, _, rfl, rfl, ?_⟩ | refine ⟨_, _, rfl, ?_⟩ | refine ⟨slen rfl, ?_⟩ | refine ⟨⟨by decide, by decide +kernel⟩, ?_⟩ | refine ⟨⟨by decide, by decide, by decide⟩, ?_⟩ | refine ⟨(by show (0 : Int) < _; first | decide | assumption | omega), ?_⟩ | refine ⟨mul_ok (by first | exact .inr (by decide) | exact .inl (by decide)), ?_⟩))
      (intro b0 nb0; generalize hGb0 : upd _ b0 _ = H5; have eH5 := exG hGb0 nb0; have hb0 := atG hGb0; clear hGb0)
      have hl5 := eH5 _ _ (eH4 _ _ hl3)
      refine ⟨iL ns, iL [], dp_ilist hl5, dp_ilist hb0, (sh_ilist _).ok, (sh_ilist _).ok, ?_⟩
      rw [eqv_ilist]
      refine .inr ⟨_, rfl, ?_⟩
      have XB5 : XB s H H5 := xb3.trans (XB.of (ext eH4 eH5))
      have src5 := src3.mono (ext eH4 eH5)
      obtain ⟨kk, zs, hk0, hk1, hk2, hz, hok, hle, hpr⟩ : ∃ (kk : Int) (zs : List Int), (if decide (ns = []) = true then (1 : Int) else 0) = kk ∧ 0 ≤ kk ∧ kk ≤ 1 ∧ (List.replicate kk.toNat [V.int 3]).flatten = zs.map V.int ∧ SzOk (ns ++ zs) ∧ (∀ n ∈ ns ++ zs, n ≤ 31) ∧ (ns ++ zs).foldl (fun p n => p * n) 1 ≤ m := by
        by_cases hns : ns = []
        · subst hns
          exact ⟨1, [3], rfl, by decide, by decide, rfl, ⟨by decide, by decide, by decide⟩, by decide, m0⟩
        · refine ⟨0, [], by simp [hns], by decide, by decide, rfl, ⟨by simpa using hns, by simpa using ln4, fun n h => (hn n (by simpa using h)).1⟩, fun n h => (hn n (by simpa using h)).2, by rw [List.append_nil]; exact t2⟩
      rw [hk0]
      refine ⟨b3, kk, _, rfl, rfl, eH5 _ _ hb3, by omega, by omega, ?_, ?_⟩
      · show 1 * kk.toNat ≤ sizeLine
        exact Nat.le_trans (show _ ≤ 1 by omega) (by decide)
      rw [hz]
      (intro b4 nb4; generalize hGb4 : upd _ b4 _ = H6; have eH6 := exG hGb4 nb4; have hb4 := atG hGb4; clear hGb4)
      refine ⟨l, b4, _, _, rfl, rfl, SqL.of (eH6 _ _ hl5), SqL.of hb4, ?_, ?_⟩
      · have := hok.le
        rw [List.length_append] at this
        rw [List.length_map, List.length_map]
        exact Nat.le_trans this (by decide)
      rw [← List.map_append]
      (intro b5 nb5; generalize hGb5 : upd _ b5 _ = H7; have eH7 := exG hGb5 nb5; have hb5 := atG hGb5; clear hGb5)
      refine ⟨b5, _, rfl, .inl ⟨SqL.of hb5, fun t ht => ?_⟩⟩
      have e7 : Ex H5 H7 := ext eH6 eH7
      have XB7 := XB5.trans (XB.of e7)
      have src7 := src5.mono e7
      exact k t _ _ (XB7.back (src7.ne ht) ht) upd_same hok hle hpr (XB7.trans (XB.of (exn ht))) (src7.new ht)
end


section
variable {P : Program} {w : World} {K : PySem.W.Frag} {mg : Str → Option Value} {base : Heap}
def sp_law_seat : Sp := fun vs H Q _ => ∃ (s l : Addr) (ns : List Int), vs = [.ref s, .ref l] ∧ Src H s ∧ H l = some (.tup (ns.map V.int)) ∧ SzOk ns ∧ (∀ n ∈ ns, n ≤ 10 ^ 30) ∧
  ∀ (q : Addr) (ps : List Int) H2, H q = none → H2 q = some (.tup (ps.map V.int)) → SeatOk ns ps → XB s H H2 → Src H2 s → Q (.ref q) H2
theorem ok_law_seat (T : TX K mg) : FnOk P w K mg base CX0 3 T.f_law_seat T.fd_law_seat ["_law_source_here", "_law_rings_here"] sp_law_seat := by
  refine T.F_law_seat.ok sc_law_seat (fun vs H Q E h => ?_) (fun cdv A outer s H vs Q E hr h => ?_)
  · obtain ⟨s, l, ns, rfl, _⟩ := h
    rfl
  · obtain ⟨s, l, ns, rfl, hs, hl, ok, hB, k⟩ := h
    refine ⟨_, (pss_one (ps_ret (pe_callTy call_tuple_of (by rfl) T.z_tuple (by decide +kernel) (pa_cons (pe_lc (own := [("_law_size", 2)]) (g := (gName 2)) rfl sc_law_seat.nd (pi_tup (pv 1)) (blkOk_by (N := N_law_seat) (sc := defScope s_law_seat) (by decide +kernel)) (fun _ _ _ _ _ => (pg_name (i := 2) sc_law_seat.nd rfl (Or.inl rfl))) (fun _ _ _ _ _ => pts_nil) (fun _ _ _ _ _ => (pe_call (ok_law_take T) hr rfl T.m_law_take T.F_law_take.kp T.b_law_take .nil pass0 (pa_cons (pv 0) (pa_cons (pv 2) pa_nil))))) pa_nil)))), ?_⟩
    refine ⟨_, rfl, l, rfl, ⟨_, SqT.of hl⟩, fun D hD => ?_⟩
    have nD : D ≠ s := hs.ne hD
    refine lc_it (walk_tup (xs := ns.map V.int)) (fun i H2 => ∃ ps : List Int, H2 D = some (.lst (ps.map V.int)) ∧ SeatOk (ns.take i) ps ∧ XB s H H2 ∧ Src H2 s) ⟨[], upd_same, True.intro, XB.of (exn hD), hs.new hD⟩ (fun i H2 _ ⟨ps, _, _, xb, _⟩ => SqT.of (tup_xb hs hl xb)) ?_ ?_
    · rintro i x H2 H3 hi ⟨ps, hD2, sk, xb, src⟩ ⟨rfl, hx⟩
      obtain ⟨n, hn, rfl⟩ := map_get hx
      have n1 := ok.one n (List.mem_of_getElem? hn)
      have n2 := hB n (List.mem_of_getElem? hn)
      refine ⟨rfl, _, rfl, _, rfl, s, n, rfl, src, by omega, ?_, fun r H4 r0 r1 xb4 src4 => ?_⟩
      · exact Nat.lt_of_lt_of_le (abs30 n1 n2) (Nat.pow_le_pow_right (by decide) (by decide))
      refine ⟨ps.map V.int, xb4 _ _ nD hD2, ?_, ps ++ [r], ?_, ?_, (xb.trans xb4).app hD, src4.app nD⟩
      · have hl4 := ok.le
        have := sk.len
        rw [List.length_take] at this
        rw [List.length_map]
        exact Nat.lt_of_le_of_lt (show ps.length ≤ 4 by omega) (by decide)
      · rw [upd_same, List.map_append]
        rfl
      · rw [take_more hn]
        exact sk.snoc r0 r1
    · rintro H2 ⟨ps, hD2, sk, xb, src⟩
      refine ⟨D, _, rfl, .inl ⟨SqL.of hD2, fun q hq => ?_⟩⟩
      rw [List.length_map, List.take_length] at sk
      have nq := src.ne hq
      exact k q ps _ (xb.back nq hq) upd_same sk (xb.trans (XB.of (exn hq))) (src.new hq)
def sp_law_call : Sp := fun vs H Q _ => ∃ (s l : Addr) (ns : List Int), vs = [.ref s, .ref l] ∧ Src H s ∧ H l = some (.tup (ns.map V.int)) ∧ SzOk ns ∧ (∀ n ∈ ns, n ≤ 10 ^ 30) ∧
  ∀ (q : Addr) (cs : List Int) H2, H q = none → H2 q = some (.tup (cs.map V.int)) → cs.length = ns.length → XB s H H2 → Src H2 s → Q (.ref q) H2
theorem ok_law_call (T : TX K mg) : FnOk P w K mg base CX0 4 T.f_law_call T.fd_law_call ["_law_source_here", "_law_rings_here"] sp_law_call := by
  refine T.F_law_call.ok sc_law_call (fun vs H Q E h => ?_) (fun cdv A outer s H vs Q E hr h => ?_)
  · obtain ⟨s, l, ns, rfl, _⟩ := h
    rfl
  · obtain ⟨s, l, ns, rfl, hs, hl, ok, hB, k⟩ := h
    refine ⟨_, (pss_cons (ps_set (i := 2) sc_law_call.nd rfl (Or.inr rfl) (pe_call (ok_law_one T) hr rfl T.m_law_one T.F_law_one.kp T.b_law_one .nil pass0 (pa_cons (pv 0) (pa_cons (pe_lst (pa_cons pe_int (pa_cons pe_int (pa_cons pe_int (pa_cons pe_int (pa_cons (pe_un un_neg pe_int) (pa_cons (pe_op op_pow pe_int pe_int) pa_nil))))))) pa_nil)))) (pss_one (ps_ret (pe_callTy call_tuple_of (by rfl) T.z_tuple (by decide +kernel) (pa_cons (pe_lc (own := [("_law_size", 3)]) (g := (gName 3)) rfl sc_law_call.nd (pi_tup (pv 1)) (blkOk_by (N := N_law_call) (sc := defScope s_law_call) (by decide +kernel)) (fun _ _ _ _ _ => (pg_name (i := 3) sc_law_call.nd rfl (Or.inl rfl))) (fun _ _ _ _ _ => pts_nil) (fun _ _ _ _ _ => (pe_op op_add (pe_call (ok_law_take T) (hr.mono (by decide)) rfl T.m_law_take T.F_law_take.kp T.b_law_take .nil pass0 (pa_cons (pv 0) (pa_cons (pv 3) pa_nil))) (pe_op op_mulI (pv 2) (pv 3))))) pa_nil))))), ?_⟩
    (repeat (first | refine ⟨rfl, ?_⟩ | refine ⟨_, rfl, ?_⟩ | refine ⟨_, _, rfl, rfl, ?_⟩ | refine ⟨_, _, rfl, ?_⟩ | refine ⟨slen rfl, ?_⟩ | refine ⟨⟨by decide, by decide +kernel⟩, ?_⟩ | refine ⟨⟨by decide, by decide, by decide⟩, ?_⟩ | refine ⟨(by show (0 : Int) < _; first | decide | assumption | omega), ?_⟩ | refine ⟨mul_ok (by first | exact .inr (by decide) | exact .inl (by decide)), ?_⟩))
    (intro al nal; generalize hGal : upd _ al _ = H0; have eH0 := exG hGal nal; have hal := atG hGal; clear hGal)
    have nals : al ≠ s := hs.ne nal
    refine ⟨s, al, _, rfl, hs.mono eH0, hal, nals, by simp, (by show 6 ≤ 1000; decide), fun v H1 hv xb1 src1 => ?_⟩
    obtain ⟨z, rfl, z2⟩ : ∃ z : Int, v = .int z ∧ z.natAbs < 2 ^ 70 := by
      simp only [List.mem_cons, List.not_mem_nil, or_false] at hv
      rcases hv with rfl | rfl | rfl | rfl | rfl | rfl
      all_goals exact ⟨_, rfl, by decide +kernel⟩
    have xbH : XB s H H1 := (XB.of eH0).trans xb1
    have hl1 := tup_xb hs hl xbH
    refine ⟨_, rfl, l, rfl, ⟨_, SqT.of hl1⟩, fun D hD => ?_⟩
    have nD : D ≠ s := src1.ne hD
    refine lc_it (walk_tup (xs := ns.map V.int)) (fun i H2 => ∃ ps : List Int, H2 D = some (.lst (ps.map V.int)) ∧ ps.length = i ∧ XB s H1 H2 ∧ Src H2 s) ⟨[], upd_same, rfl, XB.of (exn hD), src1.new hD⟩ (fun i H2 _ ⟨ps, _, _, xb, _⟩ => SqT.of (tup_xb src1 hl1 xb)) ?_ ?_
    · rintro i x H2 H3 hi ⟨ps, hD2, lp, xb, src⟩ ⟨rfl, hx⟩
      obtain ⟨n, hn, rfl⟩ := map_get hx
      have n1 := ok.one n (List.mem_of_getElem? hn)
      have n2 := hB n (List.mem_of_getElem? hn)
      have hl4 := ok.le
      refine ⟨rfl, _, rfl, _, rfl, s, n, rfl, src, by omega, ?_, fun r H4 r0 r1 xb4 src4 => ?_⟩
      · exact Nat.lt_of_lt_of_le (abs30 n1 n2) (Nat.pow_le_pow_right (by decide) (by decide))
      refine ⟨_, rfl, _, rfl, _, _, rfl, rfl, (wide_mul z2 (abs30 n1 n2) (by decide) (by decide) (by decide)).ok, _, _, rfl, rfl, ?_⟩
      refine ⟨ps.map V.int, xb4 _ _ nD hD2, ?_, ps ++ [r + z * n], ?_, ?_, (xb.trans xb4).app hD, src4.app nD⟩
      · rw [List.length_map] at hi ⊢
        exact Nat.lt_of_le_of_lt (show ps.length ≤ 4 by omega) (by decide)
      · rw [upd_same, List.map_append]
        rfl
      · rw [List.length_append, lp]
        rfl
    · rintro H2 ⟨ps, hD2, lp, xb, src⟩
      refine ⟨D, _, rfl, .inl ⟨SqL.of hD2, fun q hq => ?_⟩⟩
      rw [List.length_map] at lp
      have nq := src.ne hq
      have XB2 := xbH.trans xb
      exact k q ps _ (XB2.back nq hq) upd_same lp (XB2.trans (XB.of (exn hq))) (src.new hq)
def sp_law_moves : Sp := fun vs H Q _ => ∃ (s l : Addr) (ns : List Int) (m : Int), vs = [.ref s, .ref l, .int m] ∧ Src H s ∧ H l = some (.tup (ns.map V.int)) ∧ SzOk ns ∧ (∀ n ∈ ns, n ≤ 10 ^ 30) ∧ 0 ≤ m ∧ m ≤ 1000 ∧
  ∀ (f : Addr) (ms : List (List Int × Bool)) H2, H f = none → (∃ xs, H2 f = some (.lst xs) ∧ MovR H2 xs ms) → ms.length ≤ m.toNat → (∀ m ∈ ms, m.1.length = ns.length) → XB s H H2 → Src H2 s → Q (.ref f) H2
theorem ok_law_moves (T : TX K mg) : FnOk P w K mg base CX0 5 T.f_law_moves T.fd_law_moves ["_law_source_here", "_law_rings_here", "_law_most"] sp_law_moves := by
  refine T.F_law_moves.ok sc_law_moves (fun vs H Q E h => ?_) (fun cdv A outer s H vs Q E hr h => ?_)
  · obtain ⟨s, l, ns, m, rfl, _⟩ := h
    rfl
  · obtain ⟨s, l, ns, m, rfl, hs, hl, ok, hB, m1, m2, k⟩ := h
    refine ⟨_, (pss_cons (ps_set (i := 3) sc_law_moves.nd rfl (Or.inl rfl) (pe_lst pa_nil)) (pss_cons (ps_for PassesOwn.never rfl (pi_range1 rfl T.z_range (pa_cons (pe_call (ok_law_take T) (hr.mono (by decide)) rfl T.m_law_take T.F_law_take.kp T.b_law_take .nil pass0 (pa_cons (pv 0) (pa_cons (pe_op op_add (pv 2) pe_int) pa_nil))) pa_nil)) (pg_name (i := 4) sc_law_moves.nd rfl (Or.inl rfl)) (pss_one (ps_expr (pe_bm PySem.F.plainAttrs_list PySem.F.slot_list_append PySem.F.type_list_append mt_append (pv 3) (pa_cons (pe_tup (pa_cons (pe_call (ok_law_call T) hr rfl T.m_law_call T.F_law_call.kp T.b_law_call .nil pass0 (pa_cons (pv 0) (pa_cons (pv 1) pa_nil))) (pa_cons (pe_ix ix_list (pe_lst (pa_cons pe_str (pa_cons pe_str pa_nil))) (pe_call (ok_law_take T) (hr.mono (by decide)) rfl T.m_law_take T.F_law_take.kp T.b_law_take .nil pass0 (pa_cons (pv 0) (pa_cons pe_int pa_nil))) (fun _ _ => rfl)) pa_nil))) pa_nil))))) (pss_one (ps_ret (pv 3))))), ?_⟩
    (repeat (first | refine ⟨rfl, ?_⟩ | refine ⟨_, rfl, ?_⟩ | refine ⟨_, _, rfl, rfl, ?_⟩ | refine ⟨_, _, rfl, ?_⟩ | refine ⟨slen rfl, ?_⟩ | refine ⟨⟨by decide, by decide +kernel⟩, ?_⟩ | refine ⟨⟨by decide, by decide, by decide⟩, ?_⟩ | refine ⟨(by show (0 : Int) < _; first | decide | assumption | omega), ?_⟩ | refine ⟨mul_ok (by first | exact .inr (by decide) | exact .inl (by decide)), ?_⟩))
    (intro f nf; generalize hGf : upd _ f _ = H1; have eH1 := exG hGf nf; have hf := atG hGf; clear hGf)
    have nfs : f ≠ s := hs.ne nf
    refine ⟨_, rfl, _, rfl, _, _, rfl, rfl, s, m + 1, rfl, hs.mono eH1, by omega, ?_, fun r H2 r0 r1 xb2 src2 => ?_⟩
    · exact Nat.lt_of_le_of_lt (show (m + 1).natAbs ≤ 1001 by omega) (by decide +kernel)
    (repeat (first | refine ⟨rfl, ?_⟩ | refine ⟨_, rfl, ?_⟩ | refine ⟨_, _, rfl, rfl, ?_⟩ | refine ⟨_, _, rfl, ?_⟩ | refine ⟨slen rfl, ?_⟩ | refine ⟨⟨by decide, by decide +kernel⟩, ?_⟩ | refine ⟨⟨by decide, by decide, by decide⟩, ?_⟩ | refine ⟨(by show (0 : Int) < _; first | decide | assumption | omega), ?_⟩ | refine ⟨mul_ok (by first | exact .inr (by decide) | exact .inl (by decide)), ?_⟩))
    refine ⟨by omega, by omega, ?_⟩
    refine for_it walk_range (fun i σ H3 => ∃ (y4 : Option V) (ms : List (List Int × Bool)), σ = [some (.ref s), some (.ref l), some (.int m), some (.ref f), y4] ∧ (∃ xs, H3 f = some (.lst xs) ∧ MovR H3 xs ms) ∧ ms.length = i ∧ (∀ m ∈ ms, m.1.length = ns.length) ∧ XB s H H3 ∧ Src H3 s) ⟨none, [], rfl, ⟨_, xb2 _ _ nfs hf, .nil⟩, rfl, by simp, (XB.of eH1).trans xb2, src2⟩ (fun _ _ _ _ _ => True.intro) ?_ ?_
    · rintro i x σ _ H3 hi ⟨y4, ms, rfl, ⟨xs, hx1, hx2⟩, lm, hmm, xb3, src3⟩ ⟨rfl, hx⟩
      refine ⟨_, rfl, .inl ⟨rfl, _, SqL.of hx1⟩, ?_⟩
      refine ⟨_, rfl, _, rfl, s, l, ns, rfl, src3, tup_xb hs hl xb3, ok, hB, fun q cs H4 nq hq lc xb4 src4 => ?_⟩
      (repeat (first | refine ⟨rfl, ?_⟩ | refine ⟨_, rfl, ?_⟩ | refine ⟨_, _, rfl, rfl, ?_⟩ | refine ⟨_, _, rfl, ?_⟩ | refine ⟨slen rfl, ?_⟩ | refine ⟨⟨by decide, by decide +kernel⟩, ?_⟩ | refine ⟨⟨by decide, by decide, by decide⟩, ?_⟩ | refine ⟨(by show (0 : Int) < _; first | decide | assumption | omega), ?_⟩ | refine ⟨mul_ok (by first | exact .inr (by decide) | exact .inl (by decide)), ?_⟩))
      (intro al nal; generalize hGal : upd _ al _ = H5; have eH5 := exG hGal nal; have hal := atG hGal; clear hGal)
      have src5 := src4.mono eH5
      refine ⟨_, rfl, s, 2, rfl, src5, by decide, by decide +kernel, fun r2 H6 r20 r21 xb6 src6 => ?_⟩
      obtain ⟨bk, hbk⟩ : ∃ bk : Bool, atI [V.str "forward", V.str "backward"] r2 = some (.str (dirS bk)) := by
        have : r2 = 0 ∨ r2 = 1 := by omega
        rcases this with rfl | rfl
        · exact ⟨false, rfl⟩
        · exact ⟨true, rfl⟩
      refine ⟨al, _, _, _, rfl, rfl, SqL.of (xb6 _ _ (src4.ne nal) hal), hbk, ?_⟩
      (repeat (first | refine ⟨rfl, ?_⟩ | refine ⟨_, rfl, ?_⟩ | refine ⟨_, _, rfl, rfl, ?_⟩ | refine ⟨_, _, rfl, ?_⟩ | refine ⟨slen rfl, ?_⟩ | refine ⟨⟨by decide, by decide +kernel⟩, ?_⟩ | refine ⟨⟨by decide, by decide, by decide⟩, ?_⟩ | refine ⟨(by show (0 : Int) < _; first | decide | assumption | omega), ?_⟩ | refine ⟨mul_ok (by first | exact .inr (by decide) | exact .inl (by decide)), ?_⟩))
      (intro tp ntp; generalize hGtp : upd _ tp _ = H7; have eH7 := exG hGtp ntp; have htp := atG hGtp; clear hGtp)
      have x37 : XB s H3 H7 := (xb4.trans (XB.of eH5)).trans (xb6.trans (XB.of eH7))
      have hx7 := x37 _ _ nfs hx1
      have hm7 : MovR H7 xs ms := hx2.xb src3 x37
      have hq7 := eH7 _ _ (tup_xb src5 (eH5 _ _ hq) xb6)
      refine ⟨f, _, _, rfl, rfl, hx7, ?_, ?_⟩
      · rw [hm7.len, lm]
        have : i < r.toNat := hi
        exact Nat.lt_of_le_of_lt (show i ≤ 1001 by omega) (by decide)
      refine ⟨_, ms ++ [(cs, bk)], rfl, ⟨_, upd_same, MovR.snoc (c := q) ?_ ?_ (hm7.upd hx7)⟩, by rw [List.length_append, lm]; rfl, fun m h => ?_, (xb3.trans x37).app nf, (src6.mono eH7).app nfs⟩
      · rw [upd_ne (ne_of htp hx7 (by intro z; cases z))]
        exact htp
      · rw [upd_ne (ne_of hq7 hx7 (by intro z; cases z))]
        exact hq7
      · rcases List.mem_append.mp h with h | h
        · exact hmm m h
        · rw [List.mem_singleton.mp h]
          exact lc
    · rintro σ H3 ⟨y4, ms, rfl, hx, lm, hmm, xb3, src3⟩
      have lm2 : ms.length = r.toNat := lm
      exact ⟨_, rfl, k f ms _ nf hx (by omega) hmm xb3 src3⟩
end

section
variable {P : Program} {w : World} {K : PySem.W.Frag} {mg : Str → Option Value} {base : Heap}
def sp_law_step : Sp := fun vs H Q _ => ∃ (l p d : Addr) (f : Int) (ns ps cs : List Int), vs = [.ref l, .ref p, .ref d, .int f] ∧ H l = some (.tup (ns.map V.int)) ∧ SzOk ns ∧ H p = some (.tup (ps.map V.int)) ∧ H d = some (.tup (cs.map V.int)) ∧ ps.length = ns.length ∧ cs.length = ns.length ∧ (f = 1 ∨ f = -1) ∧
  ∀ H2 q, Ex H H2 → H q = none → H2 q = some (.tup ((shiftL ns ps cs f).map V.int)) → Q (.ref q) H2
theorem ok_law_step (T : TX K mg) : FnOk P w K mg base CX0 1 T.f_law_step T.fd_law_step ["_law_rings_here", "_law_spot", "_law_delta", "_law_sign"] sp_law_step := by
  refine T.F_law_step.ok sc_law_step (fun vs H Q E h => ?_) (fun cdv A outer s H vs Q E hr h => ?_)
  · obtain ⟨l, p, d, f, ns, ps, cs, rfl, _⟩ := h
    rfl
  · obtain ⟨t, s, c, f, ns, ps, cs, rfl, h2, ok, hs, hc, lp, lc, hf, k⟩ := h
    have l4 := ok.le
    refine ⟨_, (pss_one (ps_ret (pe_callTy call_tuple_of (by rfl) T.z_tuple (by decide +kernel) (pa_cons (pe_lc (own := [("_law_place", 4), ("_law_one_here", 5), ("_law_size", 6)]) (g := (gTup K 3 (gCons (gName 4) (gCons (gName 5) (gCons (gName 6) gNil))))) rfl sc_law_step.nd (CZ.pi_z3 (fl := [true, true, true]) rfl (by rfl) T.z_zip (pa_cons (pv 1) (pa_cons (pv 2) (pa_cons (pv 0) pa_nil)))) (blkOk_by (N := N_law_step) (sc := defScope s_law_step) (by decide +kernel)) (fun _ _ _ _ _ => (pg_tup rfl (pgs_cons (pg_name (i := 4) sc_law_step.nd rfl (Or.inl rfl)) (pgs_cons (pg_name (i := 5) sc_law_step.nd rfl (Or.inl rfl)) (pgs_cons (pg_name (i := 6) sc_law_step.nd rfl (Or.inl rfl)) pgs_nil))))) (fun _ _ _ _ _ => pts_nil) (fun _ _ _ _ _ => (pe_op op_mod (pe_op op_add (pv 4) (pe_op op_mulI (pv 3) (pv 5))) (pv 6)))) pa_nil)))), ?_⟩
    refine ⟨_, rfl, _, rfl, _, rfl, [s, c, t], rfl, rfl, all3 (sqT hs) (sqT hc) (sqT h2), fun D hD => ?_⟩
    have ls : (shiftL ns ps cs f).length = ns.length := shift_len lp lc
    refine lc_vals (CZ.walk_rows (xss := [ps.map V.int, cs.map V.int, ns.map V.int]) (n := ns.length) (lens3 (by rw [List.length_map, lp]) (by rw [List.length_map, lc]) (by rw [List.length_map]))) ((shiftL ns ps cs f).map V.int) (by rw [List.length_map, ls]) (by omega) hD (fun H3 e => .cons (sqT (e _ _ hs)) (.cons (sqT (e _ _ hc)) (.cons (sqT (e _ _ h2)) .nil))) ?_ (gmono_tup (gmono_cons gmono_name (gmono_cons gmono_name (gmono_cons gmono_name gmono_nil)))) ?_
    · intro i y H3 H4 R hi e yy kk
      obtain ⟨Ta, p, d, n, rfl, hT, rfl, hp, hd, hn⟩ := yints3 yy
      have n1 := ok.one n (List.mem_of_getElem? hn)
      refine ⟨Ta, _, rfl, SqT.of upd_same, rfl, _, _, rfl, _, _, rfl, _, _, rfl, rfl, rfl, ?_⟩
      refine ⟨_, rfl, _, rfl, _, rfl, _, _, rfl, rfl, mul_ok (.inl (by omega)), _, _, rfl, rfl, _, rfl, _, _, rfl, rfl, (by show (0 : Int) < n; omega), ?_⟩
      refine kk _ _ (exn hT) ?_
      rw [List.getElem?_map, shift_get hn hp hd]
      rfl
    · intro H3 e hD3
      exact ⟨D, _, rfl, .inl ⟨SqL.of hD3, fun q hq => k _ q (ext e (exn hq)) (Evl.fresh_back e hq) upd_same⟩⟩
end

/-! ### lattices of integer vectors -/
abbrev Vec := Nat → Int
inductive Lat (G : Vec → Prop) : Vec → Prop where
  | zero : Lat G (fun _ => 0)
  | step {v g : Vec} (k : Int) (h : Lat G v) (hg : G g) : Lat G (fun i => v i - k * g i)
theorem Lat.comb {G : Vec → Prop} {u v : Vec} (hu : Lat G u) (hv : Lat G v) : ∀ k : Int, Lat G (fun i => u i - k * v i) := by
  induction hv with
  | zero =>
    intro k
    have : (fun i => u i - k * 0) = u := by funext i; simp
    rw [this]
    exact hu
  | step j h hg ih =>
    intro k
    have := Lat.step (-(k * j)) (ih k) hg
    refine (congrArg (Lat G) (funext fun i => ?_)).mp this
    grind
theorem Lat.gen {G : Vec → Prop} {g : Vec} (h : G g) : Lat G g := by
  have := Lat.step (-1) (Lat.zero (G := G)) h
  refine (congrArg (Lat G) (funext fun i => ?_)).mp this
  grind
theorem Lat.of_eq {G : Vec → Prop} {u v : Vec} (h : Lat G u) (e : ∀ i, u i = v i) : Lat G v := (funext e : u = v) ▸ h
theorem Lat.add {G : Vec → Prop} {u v : Vec} (hu : Lat G u) (hv : Lat G v) : Lat G (fun i => u i + v i) := (hu.comb hv (-1)).of_eq fun i => by grind
theorem Lat.mul {G : Vec → Prop} {v : Vec} (hv : Lat G v) (k : Int) : Lat G (fun i => k * v i) := (Lat.zero.comb hv (-k)).of_eq fun i => by grind
theorem Lat.le {G G' : Vec → Prop} {v : Vec} (h : ∀ g, G g → Lat G' g) (hv : Lat G v) : Lat G' v := by
  induction hv with
  | zero => exact .zero
  | step k _ hg ih => exact ih.comb (h _ hg) k
/-- a list as a vector -/
def vf (v : List Int) : Vec := fun i => v.getD i 0
theorem vf_nil : vf [] = fun _ => 0 := by funext i; simp [vf]
theorem vf_ge {v : List Int} {i : Nat} (h : v.length ≤ i) : vf v i = 0 := by
  unfold vf
  rw [List.getD_eq_getElem?_getD, List.getElem?_eq_none h]
  rfl
theorem vf_at {v : List Int} {i : Nat} {x : Int} (h : v[i]? = some x) : vf v i = x := by
  unfold vf
  rw [List.getD_eq_getElem?_getD, h]
  rfl
def axpy (k : Int) (a b : List Int) : List Int := List.zipWith (fun x y => x - k * y) a b
theorem axpy_len {k : Int} {a b : List Int} (h : a.length = b.length) : (axpy k a b).length = b.length := by simp [axpy, h]
theorem axpy_vf {k : Int} {a b : List Int} (h : a.length = b.length) : vf (axpy k a b) = fun i => vf a i - k * vf b i := by
  funext i
  by_cases hi : i < a.length
  · have h1 : a[i]? = some a[i] := List.getElem?_eq_getElem hi
    have h2 : b[i]? = some (b[i]'(by omega)) := List.getElem?_eq_getElem (by omega)
    have h3 : (axpy k a b)[i]? = some (a[i] - k * b[i]'(by omega)) := by
      unfold axpy
      rw [List.getElem?_zipWith, h1, h2]
    rw [vf_at h1, vf_at h2, vf_at h3]
  · rw [vf_ge (v := a) (by omega), vf_ge (v := b) (by omega), vf_ge (by rw [axpy_len h]; omega)]
    grind
/-- what stays behind Euclid's step -/
theorem fmod_small {x y : Int} (h : y ≠ 0) : (x - x.fdiv y * y).natAbs < y.natAbs := by
  have e := Int.fmod_def x y
  have e2 : x - x.fdiv y * y = x.fmod y := by rw [e, Int.mul_comm]
  rw [e2]
  rw [Int.fmod_eq_emod]
  have a := Int.emod_nonneg x h
  have b := Int.emod_lt x h
  split
  · omega
  · rename_i hn
    have hd : ¬ y ∣ x := fun z => hn (.inr z)
    have hy : ¬ 0 ≤ y := fun z => hn (.inl z)
    have : x % y ≠ 0 := fun z => hd (Int.dvd_of_emod_eq_zero z)
    omega
/-- rows of Euclid, by a column -/
def combF (c : Nat) (f s : List Int) : List Int × List Int :=
  if h : vf s c = 0 then (f, s) else combF c s (axpy ((vf f c).fdiv (vf s c)) f s)
termination_by (vf s c).natAbs
decreasing_by
  by_cases hf : c < f.length
  · have hs : c < s.length := by
      rcases Nat.lt_or_ge c s.length with z | z
      · exact z
      · exact absurd (vf_ge z) h
    have h3 : (axpy ((vf f c).fdiv (vf s c)) f s)[c]? = some (f[c] - (vf f c).fdiv (vf s c) * s[c]) := by
      unfold axpy
      rw [List.getElem?_zipWith, List.getElem?_eq_getElem hf, List.getElem?_eq_getElem hs]
    rw [vf_at h3, ← vf_at (List.getElem?_eq_getElem hf), ← vf_at (List.getElem?_eq_getElem hs)]
    exact fmod_small h
  · rw [vf_ge (v := axpy _ f s) (by unfold axpy; rw [List.length_zipWith]; omega)]
    omega
theorem combF_eq (c : Nat) (f s : List Int) : combF c f s = if vf s c = 0 then (f, s) else combF c s (axpy ((vf f c).fdiv (vf s c)) f s) := by
  rw [combF]
  split <;> rfl
/-- by induction on Euclid's steps -/
theorem comb_ind {c : Nat} {P : List Int → List Int → Prop} {n : Nat} (h : ∀ f s, f.length = n → s.length = n → vf s c ≠ 0 → P f s → P s (axpy ((vf f c).fdiv (vf s c)) f s)) :
    ∀ (m : Nat) (f s : List Int), (vf s c).natAbs ≤ m → f.length = n → s.length = n → P f s → P (combF c f s).1 (combF c f s).2 ∧ (combF c f s).1.length = n ∧ (combF c f s).2.length = n ∧ vf (combF c f s).2 c = 0
  | m, f, s, hm, lf, ls, hp => by
    rw [combF_eq]
    by_cases z : vf s c = 0
    · rw [if_pos z]
      exact ⟨hp, lf, ls, z⟩
    · rw [if_neg z]
      have la : (axpy ((vf f c).fdiv (vf s c)) f s).length = n := by rw [axpy_len (by omega), ls]
      have lt : (vf (axpy ((vf f c).fdiv (vf s c)) f s) c).natAbs < (vf s c).natAbs := by
        rw [axpy_vf (by omega)]
        exact fmod_small z
      cases m with
      | zero => omega
      | succ m => exact comb_ind h m s _ (by omega) ls la (h f s lf ls z hp)
/-- generators: two rows and others -/
def two (R : Vec → Prop) (f s : List Int) : Vec → Prop := fun g => g = vf f ∨ g = vf s ∨ R g
theorem comb_lat {c n : Nat} {f s : List Int} (lf : f.length = n) (ls : s.length = n) (R : Vec → Prop) (v : Vec) : Lat (two R f s) v ↔ Lat (two R (combF c f s).1 (combF c f s).2) v := by
  have := comb_ind (c := c) (n := n) (P := fun a b => ∀ v, Lat (two R f s) v ↔ Lat (two R a b) v) (fun a b la lb nz ih v => (ih v).trans ?_) _ f s (Nat.le_refl _) lf ls fun v => Iff.rfl
  · exact this.1 v
  constructor
  · refine Lat.le fun g hg => ?_
    rcases hg with rfl | rfl | hg
    · have h1 : Lat (two R b (axpy ((vf a c).fdiv (vf b c)) a b)) (vf (axpy ((vf a c).fdiv (vf b c)) a b)) := Lat.gen (.inr (.inl rfl))
      rw [axpy_vf (by omega)] at h1
      have h2 : Lat (two R b (axpy ((vf a c).fdiv (vf b c)) a b)) (vf b) := Lat.gen (.inl rfl)
      exact (h1.comb h2 (-((vf a c).fdiv (vf b c)))).of_eq fun i => by grind
    · exact Lat.gen (.inl rfl)
    · exact Lat.gen (.inr (.inr hg))
  · refine Lat.le fun g hg => ?_
    rcases hg with rfl | rfl | hg
    · exact Lat.gen (.inr (.inl rfl))
    · rw [axpy_vf (by omega)]
      exact (Lat.gen (G := two R a b) (.inl rfl)).comb (Lat.gen (.inr (.inl rfl))) _
    · exact Lat.gen (.inr (.inr hg))
theorem comb_zero {c n j : Nat} {f s : List Int} (lf : f.length = n) (ls : s.length = n) (h1 : vf f j = 0) (h2 : vf s j = 0) : vf (combF c f s).1 j = 0 ∧ vf (combF c f s).2 j = 0 :=
  (comb_ind (c := c) (n := n) (P := fun a b => vf a j = 0 ∧ vf b j = 0) (fun a b la lb nz ih => ⟨ih.2, by rw [axpy_vf (by omega)]; simp [ih.1, ih.2]⟩) _ f s (Nat.le_refl _) lf ls ⟨h1, h2⟩).1
theorem comb_nz {c n : Nat} {f s : List Int} (lf : f.length = n) (ls : s.length = n) (h1 : vf f c ≠ 0) : vf (combF c f s).1 c ≠ 0 :=
  (comb_ind (c := c) (n := n) (P := fun a b => vf a c ≠ 0) (fun a b la lb nz ih => nz) _ f s (Nat.le_refl _) lf ls h1).1
theorem comb_len {c n : Nat} {f s : List Int} (lf : f.length = n) (ls : s.length = n) : (combF c f s).1.length = n ∧ (combF c f s).2.length = n ∧ vf (combF c f s).2 c = 0 :=
  (comb_ind (c := c) (n := n) (P := fun _ _ => True) (fun _ _ _ _ _ _ => True.intro) _ f s (Nat.le_refl _) lf ls True.intro).2

/-! ### a triangular basis -/
def unitV (j : Nat) (x : Int) : Vec := fun i => if i = j then x else 0
def redF (c : Nat) (odds row : List Int) : List Int := row.take (c + 1) ++ List.zipWith (fun x y => x % y) (row.drop (c + 1)) (odds.drop (c + 1))
theorem red_len {c n : Nat} {odds row : List Int} (h1 : odds.length = n) (h2 : row.length = n) : (redF c odds row).length = n := by
  unfold redF
  rw [List.length_append, List.length_take, List.length_zipWith, List.length_drop, List.length_drop]
  omega
theorem red_vf {c n : Nat} {odds row : List Int} (h1 : odds.length = n) (h2 : row.length = n) (i : Nat) : vf (redF c odds row) i = if c < i ∧ i < n then vf row i % vf odds i else vf row i := by
  by_cases hn : i < n
  · by_cases hc : c < i
    · rw [if_pos ⟨hc, hn⟩]
      have e1 : row[i]? = some (row[i]'(by omega)) := List.getElem?_eq_getElem (by omega)
      have e2 : odds[i]? = some (odds[i]'(by omega)) := List.getElem?_eq_getElem (by omega)
      rw [vf_at e1, vf_at e2]
      refine vf_at ?_
      unfold redF
      rw [List.getElem?_append_right (by rw [List.length_take]; omega), List.getElem?_zipWith, List.length_take, List.getElem?_drop, List.getElem?_drop]
      have e3 : c + 1 + (i - min (c + 1) row.length) = i := by omega
      rw [e3, e1, e2]
    · rw [if_neg (fun z => hc z.1)]
      have e1 : row[i]? = some (row[i]'(by omega)) := List.getElem?_eq_getElem (by omega)
      rw [vf_at e1]
      refine vf_at ?_
      unfold redF
      rw [List.getElem?_append_left (by rw [List.length_take]; omega), List.getElem?_take, if_pos (by omega), e1]
  · rw [if_neg (fun z => hn z.2), vf_ge (by rw [red_len h1 h2]; omega), vf_ge (by omega)]
/-- multiples of units -/
theorem units_lat {G : Vec → Prop} {c n : Nat} {o k : Nat → Int} (h : ∀ j, c < j → j < n → G (unitV j (o j))) : ∀ m, m ≤ n → Lat G (fun i => if c < i ∧ i < m then k i * o i else 0)
  | 0, _ => Lat.zero.of_eq fun i => by simp
  | m + 1, hm => by
    have ih := units_lat (k := k) h m (by omega)
    by_cases hc : c < m
    · refine (ih.comb (Lat.gen (h m hc (by omega))) (-(k m))).of_eq fun i => ?_
      unfold unitV
      by_cases hi : i = m
      · subst hi
        rw [if_neg (by omega), if_pos rfl, if_pos (by omega)]
        grind
      · rw [if_neg hi]
        by_cases hj : c < i ∧ i < m
        · rw [if_pos hj, if_pos (by omega)]
          grind
        · rw [if_neg hj, if_neg (by omega)]
          grind
    · refine ih.of_eq fun i => ?_
      by_cases hj : c < i ∧ i < m
      · omega
      · rw [if_neg hj, if_neg (by omega)]
/-- a row and the reduced one: alike beside the units -/
theorem red_lat {G : Vec → Prop} {c n : Nat} {odds row : List Int} (h1 : odds.length = n) (h2 : row.length = n) (h : ∀ j, c < j → j < n → G (unitV j (vf odds j))) : Lat G (fun i => vf row i - vf (redF c odds row) i) := by
  refine (units_lat (k := fun i => vf row i / vf odds i) h n (Nat.le_refl _)).of_eq fun i => ?_
  rw [red_vf h1 h2]
  by_cases hi : c < i ∧ i < n
  · rw [if_pos hi, if_pos hi]
    have := Int.mul_ediv_add_emod (vf row i) (vf odds i)
    grind
  · rw [if_neg hi, if_neg hi]
    grind
/-- one row more in a column -/
def pivF (c : Nat) (odds : List Int) (st : List Int × List (List Int)) (row : List Int) : List Int × List (List Int) :=
  (redF c odds (combF c st.1 row).1, st.2 ++ [redF c odds (combF c st.1 row).2])
def unitL (n c : Nat) (x : Int) : List Int := (List.range n).map fun i => if i = c then x else 0
theorem unitL_vf {n c : Nat} {x : Int} (h : c < n) : vf (unitL n c x) = unitV c x := by
  funext i
  unfold unitV unitL
  by_cases hi : i < n
  · refine vf_at ?_
    rw [List.getElem?_map, List.getElem?_range hi]
    rfl
  · rw [vf_ge (by simp; omega), if_neg (by omega)]
def colF (odds : List Int) (c : Nat) (rows : List (List Int)) : List Int × List (List Int) := rows.foldl (pivF c odds) (unitL odds.length c (vf odds c), [])
/-- generators: rows done, a pivot, rows, units behind c -/
def gens (B : Vec → Prop) (p : List Int) (rows : List (List Int)) (c n : Nat) (odds : List Int) : Vec → Prop := fun g => B g ∨ g = vf p ∨ (∃ r ∈ rows, g = vf r) ∨ ∃ j, c < j ∧ j < n ∧ g = unitV j (vf odds j)
theorem lat_same {G G' : Vec → Prop} (h : ∀ g, G g → Lat G' g) (h' : ∀ g, G' g → Lat G g) (v : Vec) : Lat G v ↔ Lat G' v := ⟨Lat.le h, Lat.le h'⟩
/-- a row replaced by one that differs by the lattice of the others -/
theorem lat_swap {R : Vec → Prop} {a b : Vec} (h : Lat R (fun i => a i - b i)) (v : Vec) : Lat (fun g => g = a ∨ R g) v ↔ Lat (fun g => g = b ∨ R g) v := by
  have up : ∀ {c : Vec} {g : Vec}, Lat R g → Lat (fun g => g = c ∨ R g) g := fun z => Lat.le (fun g hg => Lat.gen (.inr hg)) z
  refine lat_same (fun g hg => ?_) (fun g hg => ?_) v
  · rcases hg with rfl | hg
    · exact ((up h).add (Lat.gen (G := fun g => g = b ∨ R g) (.inl rfl))).of_eq fun i => by grind
    · exact Lat.gen (.inr hg)
  · rcases hg with rfl | hg
    · exact ((Lat.gen (G := fun g => g = a ∨ R g) (.inl rfl)).comb (up h) 1).of_eq fun i => by grind
    · exact Lat.gen (.inr hg)
theorem lat_congr {G G' : Vec → Prop} (h : ∀ g, G g ↔ G' g) (v : Vec) : Lat G v ↔ Lat G' v := lat_same (fun g hg => Lat.gen ((h g).mp hg)) (fun g hg => Lat.gen ((h g).mpr hg)) v
theorem piv_lat {B : Vec → Prop} {c n : Nat} {odds : List Int} (h1 : odds.length = n) {p row : List Int} {os rest : List (List Int)} (lp : p.length = n) (lr : row.length = n) (v : Vec) :
    Lat (gens B p (os ++ row :: rest) c n odds) v ↔ Lat (gens B (redF c odds (combF c p row).1) (os ++ [redF c odds (combF c p row).2] ++ rest) c n odds) v := by
  obtain ⟨l1, l2, _⟩ := comb_len (c := c) lp lr
  let R : Vec → Prop := fun g => B g ∨ (∃ r ∈ os ++ rest, g = vf r) ∨ ∃ j, c < j ∧ j < n ∧ g = unitV j (vf odds j)
  have hR : ∀ j, c < j → j < n → R (unitV j (vf odds j)) := fun j a b => .inr (.inr ⟨j, a, b, rfl⟩)
  have s1 : Lat (gens B p (os ++ row :: rest) c n odds) v ↔ Lat (two R p row) v := by
    refine lat_congr (fun g => ?_) v
    unfold gens two
    simp only [R, List.mem_append, List.mem_cons]
    constructor
    · rintro (h | h | ⟨r, (h | h | h), rfl⟩ | h)
      · exact .inr (.inr (.inl h))
      · exact .inl h
      · exact .inr (.inr (.inr (.inl ⟨r, .inl h, rfl⟩)))
      · subst h; exact .inr (.inl rfl)
      · exact .inr (.inr (.inr (.inl ⟨r, .inr h, rfl⟩)))
      · exact .inr (.inr (.inr (.inr h)))
    · rintro (h | h | h | ⟨r, (h | h), rfl⟩ | h)
      · exact .inr (.inl h)
      · exact .inr (.inr (.inl ⟨row, .inr (.inl rfl), h⟩))
      · exact .inl h
      · exact .inr (.inr (.inl ⟨r, .inl h, rfl⟩))
      · exact .inr (.inr (.inl ⟨r, .inr (.inr h), rfl⟩))
      · exact .inr (.inr (.inr h))
  have s2 := comb_lat (c := c) lp lr R v
  have s3 : Lat (two R (combF c p row).1 (combF c p row).2) v ↔ Lat (two R (redF c odds (combF c p row).1) (combF c p row).2) v :=
    lat_swap (R := fun g => g = vf (combF c p row).2 ∨ R g) (red_lat h1 l1 fun j a b => .inr (hR j a b)) v
  have s4 : Lat (two R (redF c odds (combF c p row).1) (combF c p row).2) v ↔ Lat (fun g => g = vf (redF c odds (combF c p row).2) ∨ g = vf (redF c odds (combF c p row).1) ∨ R g) v := by
    refine (lat_congr (G' := fun g => g = vf (combF c p row).2 ∨ g = vf (redF c odds (combF c p row).1) ∨ R g) (fun g => ?_) v).trans (lat_swap (R := fun g => g = vf (redF c odds (combF c p row).1) ∨ R g) (red_lat h1 l2 fun j a b => .inr (hR j a b)) v)
    unfold two
    constructor
    · rintro (h | h | h)
      · exact .inr (.inl h)
      · exact .inl h
      · exact .inr (.inr h)
    · rintro (h | h | h)
      · exact .inr (.inl h)
      · exact .inl h
      · exact .inr (.inr h)
  refine s1.trans (s2.trans (s3.trans (s4.trans (lat_congr (fun g => ?_) v))))
  unfold gens
  simp only [R, List.mem_append, List.mem_singleton]
  constructor
  · rintro (h | h | h | ⟨r, (h | h), rfl⟩ | h)
    · exact .inr (.inr (.inl ⟨_, .inl (.inr rfl), h⟩))
    · exact .inr (.inl h)
    · exact .inl h
    · exact .inr (.inr (.inl ⟨r, .inl (.inl h), rfl⟩))
    · exact .inr (.inr (.inl ⟨r, .inr h, rfl⟩))
    · exact .inr (.inr (.inr h))
  · rintro (h | h | ⟨r, ((h | h) | h), rfl⟩ | h)
    · exact .inr (.inr (.inl h))
    · exact .inr (.inl h)
    · exact .inr (.inr (.inr (.inl ⟨r, .inl h, rfl⟩)))
    · subst h; exact .inl rfl
    · exact .inr (.inr (.inr (.inl ⟨r, .inr h, rfl⟩)))
    · exact .inr (.inr (.inr (.inr h)))
/-- what a column leaves -/
theorem col_fold {B : Vec → Prop} {c n : Nat} {odds : List Int} (h1 : odds.length = n) (hc : c < n) (L : Vec → Prop) : ∀ (rows : List (List Int)) (p : List Int) (os : List (List Int)),
    (∀ r ∈ rows, r.length = n ∧ ∀ j, j < c → vf r j = 0) → p.length = n → (∀ j, j < c → vf p j = 0) → vf p c ≠ 0 → (∀ r ∈ os, r.length = n ∧ ∀ j, j ≤ c → vf r j = 0) → (∀ v, Lat (gens B p (os ++ rows) c n odds) v ↔ L v) →
    let q := rows.foldl (pivF c odds) (p, os)
    q.1.length = n ∧ (∀ j, j < c → vf q.1 j = 0) ∧ vf q.1 c ≠ 0 ∧ (∀ r ∈ q.2, r.length = n ∧ ∀ j, j ≤ c → vf r j = 0) ∧ (∀ v, Lat (gens B q.1 q.2 c n odds) v ↔ L v)
  | [], p, os, _, lp, zp, nz, zo, hl => ⟨lp, zp, nz, zo, fun v => by have := hl v; rwa [List.append_nil] at this⟩
  | row :: rows, p, os, hr, lp, zp, nz, zo, hl => by
    obtain ⟨lr, zr⟩ := hr row List.mem_cons_self
    obtain ⟨l1, l2, z2⟩ := comb_len (c := c) lp lr
    refine col_fold h1 hc L rows (redF c odds (combF c p row).1) (os ++ [redF c odds (combF c p row).2]) (fun r h => hr r (List.mem_cons_of_mem _ h)) (red_len h1 l1) (fun j hj => ?_) ?_ (fun r h => ?_) (fun v => (piv_lat h1 lp lr v).symm.trans (hl v))
    · rw [red_vf h1 l1, if_neg (by omega)]
      exact (comb_zero lp lr (zp j hj) (zr j hj)).1
    · rw [red_vf h1 l1, if_neg (by omega)]
      exact comb_nz lp lr nz
    · rcases List.mem_append.mp h with h | h
      · exact zo r h
      · rw [List.mem_singleton.mp h]
        refine ⟨red_len h1 l2, fun j hj => ?_⟩
        rw [red_vf h1 l2, if_neg (by omega)]
        by_cases e : j = c
        · rw [e]; exact z2
        · exact (comb_zero lp lr (zp j (by omega)) (zr j (by omega))).2

/-- the pivot with a positive entry -/
def posF (c : Nat) (p : List Int) : List Int := if 0 < vf p c then p else p.map fun x => -x
theorem neg_vf (p : List Int) : vf (p.map fun x => -x) = fun i => - vf p i := by
  funext i
  by_cases hi : i < p.length
  · have e : p[i]? = some p[i] := List.getElem?_eq_getElem hi
    rw [vf_at e]
    exact vf_at (by rw [List.getElem?_map, e]; rfl)
  · rw [vf_ge (by simp; omega), vf_ge (by omega)]
    rfl
theorem pos_len (c : Nat) (p : List Int) : (posF c p).length = p.length := by
  unfold posF
  split <;> simp
theorem pos_pos {c : Nat} {p : List Int} (h : vf p c ≠ 0) : 0 < vf (posF c p) c := by
  unfold posF
  split
  · assumption
  · rw [neg_vf]
    show 0 < - vf p c
    omega
theorem pos_zero {c j : Nat} {p : List Int} (h : vf p j = 0) : vf (posF c p) j = 0 := by
  unfold posF
  split
  · exact h
  · rw [neg_vf]
    show - vf p j = 0
    omega
theorem pos_lat {R : Vec → Prop} (c : Nat) (p : List Int) (v : Vec) : Lat (fun g => g = vf p ∨ R g) v ↔ Lat (fun g => g = vf (posF c p) ∨ R g) v := by
  unfold posF
  split
  · exact Iff.rfl
  · rw [neg_vf]
    refine lat_same (fun g hg => ?_) (fun g hg => ?_) v
    · rcases hg with rfl | hg
      · exact ((Lat.gen (G := fun g => g = (fun i => - vf p i) ∨ R g) (.inl rfl)).mul (-1)).of_eq fun i => by grind
      · exact Lat.gen (.inr hg)
    · rcases hg with rfl | hg
      · exact ((Lat.gen (G := fun g => g = vf p ∨ R g) (.inl rfl)).mul (-1)).of_eq fun i => by grind
      · exact Lat.gen (.inr hg)
/-- one column more -/
def nextF (odds : List Int) (st : List (List Int) × List (List Int)) (c : Nat) : List (List Int) × List (List Int) := (st.1 ++ [posF c (colF odds c st.2).1], (colF odds c st.2).2)
def basisF (odds : List Int) (rows : List (List Int)) : List (List Int) := ((List.range odds.length).foldl (nextF odds) ([], rows)).1
/-- the i-th row begins at i, with a positive entry -/
def Tri (n : Nat) (B : List (List Int)) : Prop := ∀ i (r : List Int), B[i]? = some r → r.length = n ∧ (∀ j, j < i → vf r j = 0) ∧ 0 < vf r i
def rowsG (B : List (List Int)) : Vec → Prop := fun g => ∃ r ∈ B, g = vf r
/-- free shifts: of rows and units -/
def shG (rows : List (List Int)) (c n : Nat) (odds : List Int) : Vec → Prop := fun g => (∃ r ∈ rows, g = vf r) ∨ ∃ j, c ≤ j ∧ j < n ∧ g = unitV j (vf odds j)
theorem next_inv {n : Nat} {odds : List Int} (h1 : odds.length = n) (ho : ∀ i, i < n → vf odds i ≠ 0) (L : Vec → Prop) {c : Nat} (hc : c < n) {B rows : List (List Int)} (lB : B.length = c) (tri : Tri n B) (hr : ∀ r ∈ rows, r.length = n ∧ ∀ j, j < c → vf r j = 0)
    (hl : ∀ v, Lat (fun g => rowsG B g ∨ shG rows c n odds g) v ↔ L v) :
    let q := nextF odds (B, rows) c
    q.1.length = c + 1 ∧ Tri n q.1 ∧ (∀ r ∈ q.2, r.length = n ∧ ∀ j, j < c + 1 → vf r j = 0) ∧ (∀ v, Lat (fun g => rowsG q.1 g ∨ shG q.2 (c + 1) n odds g) v ↔ L v) := by
  have lu : (unitL odds.length c (vf odds c)).length = n := by simp [unitL, h1]
  have uv : vf (unitL odds.length c (vf odds c)) = unitV c (vf odds c) := unitL_vf (by omega)
  have key := col_fold (B := rowsG B) h1 hc L rows (unitL odds.length c (vf odds c)) [] hr lu (fun j hj => by rw [uv]; unfold unitV; rw [if_neg (by omega)]) (by rw [uv]; unfold unitV; rw [if_pos rfl]; exact ho c hc) (by simp) (fun v => by
    refine (lat_congr (fun g => ?_) v).trans (hl v)
    unfold gens shG
    rw [uv, List.nil_append]
    constructor
    · rintro (h | h | h | ⟨j, a, b, rfl⟩)
      · exact .inl h
      · exact .inr (.inr ⟨c, Nat.le_refl _, hc, h⟩)
      · exact .inr (.inl h)
      · exact .inr (.inr ⟨j, by omega, b, rfl⟩)
    · rintro (h | h | ⟨j, a, b, rfl⟩)
      · exact .inl h
      · exact .inr (.inr (.inl h))
      · by_cases e : j = c
        · subst e; exact .inr (.inl rfl)
        · exact .inr (.inr (.inr ⟨j, by omega, b, rfl⟩)))
  obtain ⟨k1, k2, k3, k4, k5⟩ := key
  show (B ++ [posF c (colF odds c rows).1]).length = c + 1 ∧ Tri n (B ++ [posF c (colF odds c rows).1]) ∧ (∀ r ∈ (colF odds c rows).2, r.length = n ∧ ∀ j, j < c + 1 → vf r j = 0) ∧ (∀ v, Lat (fun g => rowsG (B ++ [posF c (colF odds c rows).1]) g ∨ shG (colF odds c rows).2 (c + 1) n odds g) v ↔ L v)
  refine ⟨by rw [List.length_append, lB]; rfl, fun i r hi => ?_, fun r hr => ⟨(k4 r hr).1, fun j hj => (k4 r hr).2 j (by omega)⟩, fun v => ?_⟩
  · by_cases hlt : i < c
    · rw [List.getElem?_append_left (by omega)] at hi
      exact tri i r hi
    · rw [List.getElem?_append_right (by omega), lB] at hi
      have : i - c = 0 := by
        rcases Nat.eq_zero_or_pos (i - c) with z | z
        · exact z
        · rw [List.getElem?_eq_none (by simp; omega)] at hi
          cases hi
      rw [this] at hi
      obtain rfl : posF c (colF odds c rows).1 = r := by simpa using hi
      have : i = c := by omega
      subst this
      exact ⟨by rw [pos_len]; exact k1, fun j hj => pos_zero (k2 j hj), pos_pos k3⟩
  · refine Iff.trans ?_ (k5 v)
    refine Iff.trans (lat_congr (G' := fun g => g = vf (posF c (colF odds c rows).1) ∨ (rowsG B g ∨ shG (colF odds c rows).2 (c + 1) n odds g)) (fun g => ?_) v) ((pos_lat c _ v).symm.trans (lat_congr (fun g => ?_) v))
    · unfold rowsG
      simp only [List.mem_append, List.mem_singleton]
      constructor
      · rintro (⟨r, (h | h), rfl⟩ | h)
        · exact .inr (.inl ⟨r, h, rfl⟩)
        · subst h; exact .inl rfl
        · exact .inr (.inr h)
      · rintro (h | ⟨r, h, rfl⟩ | h)
        · exact .inl ⟨_, .inr rfl, h⟩
        · exact .inl ⟨r, .inl h, rfl⟩
        · exact .inr h
    · unfold gens shG colF
      constructor
      · rintro (h | h | h | ⟨j, a, b, rfl⟩)
        · exact .inr (.inl h)
        · exact .inl h
        · exact .inr (.inr (.inl h))
        · exact .inr (.inr (.inr ⟨j, by omega, b, rfl⟩))
      · rintro (h | h | h | ⟨j, a, b, rfl⟩)
        · exact .inr (.inl h)
        · exact .inl h
        · exact .inr (.inr (.inl h))
        · exact .inr (.inr (.inr ⟨j, by omega, b, rfl⟩))
theorem fold_inv {n : Nat} {odds : List Int} (h1 : odds.length = n) (ho : ∀ i, i < n → vf odds i ≠ 0) {rows : List (List Int)} (hr : ∀ r ∈ rows, r.length = n) : ∀ c, c ≤ n →
    let q := (List.range c).foldl (nextF odds) ([], rows)
    q.1.length = c ∧ Tri n q.1 ∧ (∀ r ∈ q.2, r.length = n ∧ ∀ j, j < c → vf r j = 0) ∧ (∀ v, Lat (fun g => rowsG q.1 g ∨ shG q.2 c n odds g) v ↔ Lat (shG rows 0 n odds) v)
  | 0, _ => ⟨rfl, fun i r h => by simp at h, fun r h => ⟨hr r h, fun j hj => absurd hj (by omega)⟩, fun v => lat_congr (fun g => ⟨fun h => h.elim (fun ⟨r, z, _⟩ => nomatch z) id, .inr⟩) v⟩
  | c + 1, hc => by
    obtain ⟨a1, a2, a3, a4⟩ := fold_inv h1 ho hr c (by omega)
    rw [List.range_succ, List.foldl_append]
    exact next_inv h1 ho _ (by omega) a1 a2 a3 a4
/-- the basis: triangular, and of the same lattice -/
theorem basis_ok {n : Nat} {odds : List Int} (h1 : odds.length = n) (ho : ∀ i, i < n → vf odds i ≠ 0) {rows : List (List Int)} (hr : ∀ r ∈ rows, r.length = n) :
    (basisF odds rows).length = n ∧ Tri n (basisF odds rows) ∧ ∀ v, Lat (rowsG (basisF odds rows)) v ↔ Lat (shG rows 0 n odds) v := by
  obtain ⟨a1, a2, a3, a4⟩ := fold_inv h1 ho hr n (Nat.le_refl _)
  unfold basisF
  rw [h1]
  refine ⟨a1, a2, fun v => Iff.trans ?_ (a4 v)⟩
  refine lat_same (fun g hg => Lat.gen (.inl hg)) (fun g hg => ?_) v
  rcases hg with hg | ⟨r, hr2, rfl⟩ | ⟨j, b, c, _⟩
  · exact Lat.gen hg
  · refine Lat.zero.of_eq fun i => ?_
    by_cases hi : i < n
    · exact ((a3 r hr2).2 i hi).symm
    · exact (vf_ge (by rw [(a3 r hr2).1]; omega)).symm
  · omega
/-! ### what a triangular basis tells -/
/-- rows from i on -/
theorem tri_step {n i : Nat} {B : List (List Int)} {b : List Int} (tri : Tri n B) (hb : B[i]? = some b) {v : Vec} (h : Lat (rowsG (B.drop i)) v) : vf b i ∣ v i ∧ Lat (rowsG (B.drop (i + 1))) (fun j => v j - v i / vf b i * vf b j) := by
  obtain ⟨lb, zb, pb⟩ := tri i b hb
  have hd : B.drop i = b :: B.drop (i + 1) := by
    obtain ⟨hi, e⟩ := List.getElem?_eq_some_iff.mp hb
    rw [List.drop_eq_getElem_cons hi, e]
  rw [hd] at h
  induction h with
  | zero => exact ⟨Int.dvd_zero _, Lat.zero.of_eq fun j => by simp⟩
  | @step u g k hu hg ih =>
    obtain ⟨ih1, ih2⟩ := ih
    obtain ⟨r, hr, rfl⟩ := hg
    rcases List.mem_cons.mp hr with rfl | hr
    · refine ⟨Int.dvd_sub ih1 (Int.dvd_mul_left _ _), ih2.of_eq fun j => ?_⟩
      have e : (u i - k * vf r i) / vf r i = u i / vf r i - k := by
        rw [Int.sub_ediv_of_dvd _ (Int.dvd_mul_left _ _), Int.mul_ediv_cancel _ (by omega)]
      rw [e]
      grind
    · obtain ⟨m, hm⟩ := List.getElem?_of_mem hr
      rw [List.getElem?_drop] at hm
      have z := (tri _ r hm).2.1 i (by omega)
      dsimp only
      rw [z]
      refine ⟨by simpa using ih1, (ih2.comb (Lat.gen ⟨r, hr, rfl⟩) k).of_eq fun j => ?_⟩
      have e : u i - k * 0 = u i := by simp
      rw [e]
      grind
/-- a vector of the lattice that begins at i -/
theorem tri_from {n : Nat} {B : List (List Int)} (tri : Tri n B) {v : Vec} (h : Lat (rowsG B) v) : ∀ i, i ≤ B.length → (∀ j, j < i → v j = 0) → Lat (rowsG (B.drop i)) v
  | 0, _, _ => by rwa [List.drop_zero]
  | i + 1, hi, hz => by
    have hb : B[i]? = some (B[i]'(by omega)) := List.getElem?_eq_getElem (by omega)
    obtain ⟨_, g⟩ := tri_step tri hb (tri_from tri h i (by omega) fun j hj => hz j (by omega))
    refine g.of_eq fun j => ?_
    rw [hz i (by omega)]
    simp
theorem lat_drop {B : List (List Int)} {i : Nat} {v : Vec} (h : Lat (rowsG (B.drop i)) v) : Lat (rowsG B) v := h.le fun g ⟨r, hr, e⟩ => Lat.gen ⟨r, List.mem_of_mem_drop hr, e⟩
/-- is_free, from i on -/
def freeF : Nat → List (List Int) → List Int → Bool
  | _, [], _ => true
  | i, b :: B, v => if vf v i % vf b i ≠ 0 then false else freeF (i + 1) B (axpy (vf v i / vf b i) v b)
theorem free_ok {n : Nat} {B : List (List Int)} (lB : B.length = n) (tri : Tri n B) : ∀ (k i : Nat) (v : List Int), i + k = n → v.length = n → (∀ j, j < i → vf v j = 0) → (freeF i (B.drop i) v = true ↔ Lat (rowsG (B.drop i)) (vf v))
  | 0, i, v, hk, lv, hz => by
    have : B.drop i = [] := List.drop_eq_nil_of_le (by omega)
    rw [this]
    refine ⟨fun _ => Lat.zero.of_eq fun j => ?_, fun _ => rfl⟩
    by_cases hj : j < i
    · exact (hz j hj).symm
    · exact (vf_ge (by omega)).symm
  | k + 1, i, v, hk, lv, hz => by
    have hb : B[i]? = some (B[i]'(by omega)) := List.getElem?_eq_getElem (by omega)
    have hd : B.drop i = B[i]'(by omega) :: B.drop (i + 1) := List.drop_eq_getElem_cons (by omega)
    generalize B[i]'(by omega) = b at hb hd
    obtain ⟨l1, z1, p1⟩ := tri i b hb
    have la : (axpy (vf v i / vf b i) v b).length = n := by rw [axpy_len (by omega), l1]
    have va := axpy_vf (k := vf v i / vf b i) (a := v) (b := b) (by omega)
    constructor
    · intro h
      rw [hd] at h
      unfold freeF at h
      by_cases hm : vf v i % vf b i ≠ 0
      · rw [if_pos hm] at h
        cases h
      · rw [if_neg hm] at h
        have hm2 : vf v i % vf b i = 0 := Decidable.byContradiction hm
        have ih := (free_ok lB tri k (i + 1) _ (by omega) la (fun j hj => by
          rw [va]
          by_cases e : j = i
          · subst e
            show vf v j - vf v j / vf b j * vf b j = 0
            have := Int.mul_ediv_add_emod (vf v j) (vf b j)
            grind
          · show vf v j - vf v i / vf b i * vf b j = 0
            rw [hz j (by omega), z1 j (by omega)]
            simp)).mp h
        rw [va] at ih
        rw [hd]
        refine ((ih.le fun g ⟨r, hr, e⟩ => Lat.gen ⟨r, List.mem_cons_of_mem _ hr, e⟩).comb (Lat.gen (G := rowsG (b :: B.drop (i + 1))) ⟨b, List.mem_cons_self, rfl⟩) (-(vf v i / vf b i))).of_eq fun j => ?_
        grind
    · intro h
      obtain ⟨d1, d2⟩ := tri_step tri hb h
      have hm2 : vf v i % vf b i = 0 := Int.emod_eq_zero_of_dvd d1
      rw [hd]
      unfold freeF
      rw [if_neg (by simpa using hm2)]
      refine (free_ok lB tri k (i + 1) _ (by omega) la (fun j hj => ?_)).mpr ?_
      · rw [va]
        by_cases e : j = i
        · subst e
          show vf v j - vf v j / vf b j * vf b j = 0
          have := Int.mul_ediv_add_emod (vf v j) (vf b j)
          grind
        · show vf v j - vf v i / vf b i * vf b j = 0
          rw [hz j (by omega), z1 j (by omega)]
          simp
      · rw [va]
        exact d2
theorem free_iff {n : Nat} {B : List (List Int)} (lB : B.length = n) (tri : Tri n B) {v : List Int} (lv : v.length = n) : freeF 0 B v = true ↔ Lat (rowsG B) (vf v) := by
  have := free_ok lB tri n 0 v (by omega) lv (fun j hj => absurd hj (by omega))
  rwa [List.drop_zero] at this

/-! ### two lattices, one in the other -/
def diagP : Nat → List (List Int) → Int
  | _, [] => 1
  | i, b :: B => vf b i * diagP (i + 1) B
theorem diag_pos {n : Nat} {B : List (List Int)} (tri : Tri n B) : ∀ (k i : Nat), i + k = B.length → 0 < diagP i (B.drop i)
  | 0, i, h => by
    rw [List.drop_eq_nil_of_le (by omega)]
    exact Int.zero_lt_one
  | k + 1, i, h => by
    rw [List.drop_eq_getElem_cons (by omega)]
    exact Int.mul_pos (tri i _ (List.getElem?_eq_getElem (by omega))).2.2 (diag_pos tri k (i + 1) (by omega))
theorem diag_each {n : Nat} {B C : List (List Int)} (lB : B.length = n) (lC : C.length = n) (tB : Tri n B) (tC : Tri n C) (h : ∀ v, Lat (rowsG B) v → Lat (rowsG C) v) {i : Nat} {b c : List Int} (hb : B[i]? = some b) (hc : C[i]? = some c) : vf c i ∣ vf b i := by
  obtain ⟨hi, _⟩ := List.getElem?_eq_some_iff.mp hb
  have g1 : Lat (rowsG C) (vf b) := h _ (Lat.gen ⟨b, List.mem_of_getElem? hb, rfl⟩)
  exact (tri_step tC hc (tri_from tC g1 i (by omega) (tB i b hb).2.1)).1
theorem diag_dvd {n : Nat} {B C : List (List Int)} (lB : B.length = n) (lC : C.length = n) (tB : Tri n B) (tC : Tri n C) (h : ∀ v, Lat (rowsG B) v → Lat (rowsG C) v) : ∀ (k i : Nat), i + k = n → diagP i (C.drop i) ∣ diagP i (B.drop i)
  | 0, i, hk => by
    rw [List.drop_eq_nil_of_le (by omega), List.drop_eq_nil_of_le (by omega)]
    exact Int.dvd_refl _
  | k + 1, i, hk => by
    rw [List.drop_eq_getElem_cons (l := B) (by omega), List.drop_eq_getElem_cons (l := C) (by omega)]
    exact Int.mul_dvd_mul (diag_each lB lC tB tC h (List.getElem?_eq_getElem (by omega)) (List.getElem?_eq_getElem (by omega))) (diag_dvd lB lC tB tC h k (i + 1) (by omega))
theorem eq_of_prods {a b c d : Int} (h1 : 0 < a) (h2 : 0 < b) (h3 : 0 < c) (h4 : 0 < d) (x : c ∣ a) (y : d ∣ b) (e : a * b = c * d) : a = c ∧ b = d := by
  have x1 := Int.le_of_dvd h1 x
  have y1 := Int.le_of_dvd h2 y
  have e1 : c * d ≤ a * d := Int.mul_le_mul_of_nonneg_right x1 (by omega)
  have e2 : a * d ≤ a * b := Int.mul_le_mul_of_nonneg_left y1 (by omega)
  have e3 : a * d = a * b := by omega
  have e4 : c * d = a * d := by omega
  exact ⟨(Int.eq_of_mul_eq_mul_right (by omega) e4).symm, (Int.eq_of_mul_eq_mul_left (by omega) e3).symm⟩
theorem diag_same {n : Nat} {B C : List (List Int)} (lB : B.length = n) (lC : C.length = n) (tB : Tri n B) (tC : Tri n C) (h : ∀ v, Lat (rowsG B) v → Lat (rowsG C) v) : ∀ (k i : Nat), i + k = n → diagP i (B.drop i) = diagP i (C.drop i) → ∀ (m : Nat) (b c : List Int), i ≤ m → B[m]? = some b → C[m]? = some c → vf b m = vf c m
  | 0, i, hk, _ => fun m b c hm hb _ => by
    obtain ⟨hi, _⟩ := List.getElem?_eq_some_iff.mp hb
    omega
  | k + 1, i, hk, e => fun m b c hm hb hc => by
    have dB := diag_pos tB k (i + 1) (by omega)
    have dC := diag_pos tC k (i + 1) (by omega)
    rw [List.drop_eq_getElem_cons (l := B) (by omega), List.drop_eq_getElem_cons (l := C) (by omega)] at e
    have hb0 : B[i]? = some (B[i]'(by omega)) := List.getElem?_eq_getElem (by omega)
    have hc0 : C[i]? = some (C[i]'(by omega)) := List.getElem?_eq_getElem (by omega)
    obtain ⟨e1, e2⟩ := eq_of_prods (tB i _ hb0).2.2 dB (tC i _ hc0).2.2 dC (diag_each lB lC tB tC h hb0 hc0) (diag_dvd lB lC tB tC h k (i + 1) (by omega)) e
    by_cases z : m = i
    · subst z
      rw [hb] at hb0
      rw [hc] at hc0
      rw [Option.some.inj hb0, Option.some.inj hc0]
      exact e1
    · exact diag_same lB lC tB tC h k (i + 1) (by omega) e2 m b c (by omega) hb hc
/-- the same product: the same lattice -/
theorem lat_back {n : Nat} {B C : List (List Int)} (lB : B.length = n) (lC : C.length = n) (tB : Tri n B) (tC : Tri n C) (h : ∀ v, Lat (rowsG B) v → Lat (rowsG C) v) (e : diagP 0 B = diagP 0 C) : ∀ (k i : Nat) (v : Vec), i + k = n → (∀ j, j < i → v j = 0) → Lat (rowsG C) v → Lat (rowsG B) v
  | 0, i, v, hk, hz, hv => by
    have := tri_from tC hv i (by omega) hz
    rw [List.drop_eq_nil_of_le (by omega)] at this
    exact this.le fun g ⟨r, hr, _⟩ => nomatch hr
  | k + 1, i, v, hk, hz, hv => by
    have hb : B[i]? = some (B[i]'(by omega)) := List.getElem?_eq_getElem (by omega)
    have hc : C[i]? = some (C[i]'(by omega)) := List.getElem?_eq_getElem (by omega)
    generalize B[i]'(by omega) = b at hb
    generalize C[i]'(by omega) = c at hc
    have hd := (tri_step tC hc (tri_from tC hv i (by omega) hz)).1
    have eq : vf b i = vf c i := diag_same lB lC tB tC h n 0 (by omega) (by rw [List.drop_zero, List.drop_zero]; exact e) i b c (by omega) hb hc
    rw [← eq] at hd
    have gb : Lat (rowsG B) (vf b) := Lat.gen ⟨b, List.mem_of_getElem? hb, rfl⟩
    have ih := lat_back lB lC tB tC h e k (i + 1) (fun j => v j - v i / vf b i * vf b j) (by omega) (fun j hj => by
      by_cases z : j = i
      · subst z
        show v j - v j / vf b j * vf b j = 0
        rw [Int.ediv_mul_cancel hd]
        omega
      · show v j - v i / vf b i * vf b j = 0
        rw [hz j (by omega), (tB i b hb).2.1 j (by omega)]
        simp) (hv.comb (h _ gb) _)
    exact (ih.comb gb (-(v i / vf b i))).of_eq fun j => by grind
/-! ### coordinates -/
def comboV : List Int → List (List Int) → Vec
  | k :: ks, b :: B => fun j => k * vf b j + comboV ks B j
  | _, _ => fun _ => 0
theorem combo_lat : ∀ (ks : List Int) (B : List (List Int)), Lat (rowsG B) (comboV ks B)
  | [], _ => Lat.zero.of_eq fun _ => by cases ‹List (List Int)› <;> rfl
  | _ :: _, [] => Lat.zero
  | k :: ks, b :: B => (((combo_lat ks B).le fun g ⟨r, hr, e⟩ => Lat.gen ⟨r, List.mem_cons_of_mem _ hr, e⟩).comb (Lat.gen (G := rowsG (b :: B)) ⟨b, List.mem_cons_self, rfl⟩) (-k)).of_eq fun j => by
    show comboV ks B j - -k * vf b j = k * vf b j + comboV ks B j
    grind
def coordF : Nat → List (List Int) → List Int → List Int
  | _, [], _ => []
  | i, b :: B, v => vf v i / vf b i :: coordF (i + 1) B (axpy (vf v i / vf b i) v b)
theorem coord_len : ∀ (i : Nat) (B : List (List Int)) (v : List Int), (coordF i B v).length = B.length
  | _, [], _ => rfl
  | i, b :: B, v => by
    show (coordF (i + 1) B _).length + 1 = B.length + 1
    rw [coord_len]
theorem coord_ok {n : Nat} {B : List (List Int)} (lB : B.length = n) (tri : Tri n B) : ∀ (k i : Nat) (v : List Int), i + k = n → v.length = n → Lat (rowsG (B.drop i)) (vf v) → ∀ j, vf v j = comboV (coordF i (B.drop i) v) (B.drop i) j
  | 0, i, v, hk, lv, h => fun j => by
    rw [List.drop_eq_nil_of_le (by omega)] at h ⊢
    have : ∀ {u : Vec}, Lat (rowsG []) u → u j = 0 := fun hu => by
      induction hu with
      | zero => rfl
      | step k _ hg _ => exact (nomatch hg.choose_spec.1)
    exact this h
  | k + 1, i, v, hk, lv, h => fun j => by
    have hb : B[i]? = some (B[i]'(by omega)) := List.getElem?_eq_getElem (by omega)
    have hd : B.drop i = B[i]'(by omega) :: B.drop (i + 1) := List.drop_eq_getElem_cons (by omega)
    generalize B[i]'(by omega) = b at hb hd
    obtain ⟨l1, z1, p1⟩ := tri i b hb
    have va := axpy_vf (k := vf v i / vf b i) (a := v) (b := b) (by omega)
    have ih := coord_ok lB tri k (i + 1) (axpy (vf v i / vf b i) v b) (by omega) (by rw [axpy_len (by omega), l1]) (by rw [va]; exact (tri_step tri hb h).2) j
    rw [hd]
    show vf v j = vf v i / vf b i * vf b j + comboV (coordF (i + 1) (B.drop (i + 1)) (axpy (vf v i / vf b i) v b)) (B.drop (i + 1)) j
    rw [← ih, va]
    grind
/-- coordinates are unique -/
theorem combo_inj {n : Nat} {B : List (List Int)} (tri : Tri n B) : ∀ (m i : Nat) (ks ls : List Int), i + m = B.length → ks.length = m → ls.length = m → (∀ j, comboV ks (B.drop i) j = comboV ls (B.drop i) j) → ks = ls
  | 0, _, ks, ls, _, h1, h2, _ => by rw [List.length_eq_zero_iff.mp h1, List.length_eq_zero_iff.mp h2]
  | m + 1, i, k :: ks, l :: ls, hm, h1, h2, h => by
    have hb : B[i]? = some (B[i]'(by omega)) := List.getElem?_eq_getElem (by omega)
    have hd : B.drop i = B[i]'(by omega) :: B.drop (i + 1) := List.drop_eq_getElem_cons (by omega)
    generalize B[i]'(by omega) = b at hb hd
    obtain ⟨l1, z1, p1⟩ := tri i b hb
    rw [hd] at h
    have z : ∀ ks : List Int, comboV ks (B.drop (i + 1)) i = 0 := fun ks => by
      have : ∀ {u : Vec}, Lat (rowsG (B.drop (i + 1))) u → u i = 0 := fun hu => by
        induction hu with
        | zero => rfl
        | step k _ hg ih =>
          obtain ⟨r, hr, rfl⟩ := hg
          obtain ⟨q, hq⟩ := List.getElem?_of_mem hr
          rw [List.getElem?_drop] at hq
          show _ - k * vf r i = 0
          rw [ih, (tri _ r hq).2.1 i (by omega)]
          simp
      exact this (combo_lat ks _)
    have e := h i
    have e2 : k * vf b i + comboV ks (B.drop (i + 1)) i = l * vf b i + comboV ls (B.drop (i + 1)) i := e
    rw [z, z] at e2
    have kl : k = l := Int.eq_of_mul_eq_mul_right (a := vf b i) (by omega) (by omega)
    subst kl
    rw [combo_inj tri m (i + 1) ks ls (by omega) (Nat.succ.inj h1) (Nat.succ.inj h2) fun j => by
      have e3 : k * vf b j + comboV ks (B.drop (i + 1)) j = k * vf b j + comboV ls (B.drop (i + 1)) j := h j
      omega]
/-- multiples of units are in the lattice -/
theorem unit_in {n : Nat} {B : List (List Int)} (lB : B.length = n) (tri : Tri n B) : ∀ (k i : Nat), i + k = n → ∀ j, i ≤ j → j < n → Lat (rowsG (B.drop i)) (unitV j (diagP i (B.drop i)))
  | 0, i, hk => fun j h1 h2 => by omega
  | k + 1, i, hk => fun j h1 h2 => by
    have hb : B[i]? = some (B[i]'(by omega)) := List.getElem?_eq_getElem (by omega)
    have hd : B.drop i = B[i]'(by omega) :: B.drop (i + 1) := List.drop_eq_getElem_cons (by omega)
    generalize B[i]'(by omega) = b at hb hd
    obtain ⟨l1, z1, p1⟩ := tri i b hb
    have up : ∀ {u : Vec}, Lat (rowsG (B.drop (i + 1))) u → Lat (rowsG (b :: B.drop (i + 1))) u := fun hu => hu.le fun g ⟨r, hr, e⟩ => Lat.gen ⟨r, List.mem_cons_of_mem _ hr, e⟩
    have ih := unit_in lB tri k (i + 1) (by omega)
    rw [hd]
    show Lat (rowsG (b :: B.drop (i + 1))) (unitV j (vf b i * diagP (i + 1) (B.drop (i + 1))))
    by_cases e : j = i
    · subst e
      have hs : Lat (rowsG (b :: B.drop (j + 1))) (fun m => if j < m ∧ m < n then vf b m * diagP (j + 1) (B.drop (j + 1)) else 0) := by
        refine (up (Lat.le (G := fun g => ∃ m, j < m ∧ m < n ∧ g = unitV m (diagP (j + 1) (B.drop (j + 1)))) (fun g ⟨m, a, c, e⟩ => by rw [e]; exact ih m (by omega) c) (units_lat (c := j) (n := n) (o := fun _ => diagP (j + 1) (B.drop (j + 1))) (k := fun m => vf b m) (fun m a c => ⟨m, a, c, rfl⟩) n (Nat.le_refl _))))
      refine (((Lat.gen (G := rowsG (b :: B.drop (j + 1))) ⟨b, List.mem_cons_self, rfl⟩).mul (diagP (j + 1) (B.drop (j + 1)))).comb hs 1).of_eq fun m => ?_
      unfold unitV
      by_cases h3 : m = j
      · subst h3
        rw [if_pos rfl, if_neg (by omega)]
        grind
      · rw [if_neg h3]
        by_cases h4 : j < m ∧ m < n
        · rw [if_pos h4]
          grind
        · rw [if_neg h4]
          have : vf b m = 0 := by
            by_cases h5 : m < j
            · exact z1 m h5
            · exact vf_ge (by omega)
          rw [this]
          simp
    · refine ((up (ih j (by omega) h2)).mul (vf b i)).of_eq fun m => ?_
      unfold unitV
      split
      · rfl
      · simp

/-! ### sums, and what separates -/
def sumN : Nat → (Nat → Int) → Int
  | 0, _ => 0
  | n + 1, f => sumN n f + f n
theorem sumN_congr {f g : Nat → Int} : ∀ {n : Nat}, (∀ i, i < n → f i = g i) → sumN n f = sumN n g
  | 0, _ => rfl
  | n + 1, h => by
    show sumN n f + f n = sumN n g + g n
    rw [sumN_congr fun i hi => h i (by omega), h n (by omega)]
theorem sumN_add (f g : Nat → Int) : ∀ n, sumN n (fun i => f i + g i) = sumN n f + sumN n g
  | 0 => rfl
  | n + 1 => by
    show sumN n (fun i => f i + g i) + (f n + g n) = (sumN n f + f n) + (sumN n g + g n)
    rw [sumN_add f g n]
    omega
theorem sumN_mul (k : Int) (f : Nat → Int) : ∀ n, sumN n (fun i => k * f i) = k * sumN n f
  | 0 => by simp [sumN]
  | n + 1 => by
    show sumN n _ + _ = k * (sumN n f + f n)
    rw [sumN_mul k f n, Int.mul_add]
theorem sumN_zero : ∀ n, sumN n (fun _ => 0) = 0
  | 0 => rfl
  | n + 1 => by
    show sumN n _ + 0 = 0
    rw [sumN_zero n]
    rfl
theorem sumN_swap (f : Nat → Nat → Int) (m : Nat) : ∀ n, sumN n (fun i => sumN m fun k => f i k) = sumN m fun k => sumN n fun i => f i k
  | 0 => (sumN_zero m).symm
  | n + 1 => by
    show sumN n _ + sumN m _ = sumN m fun k => sumN n (fun i => f i k) + f n k
    rw [sumN_swap f m n, sumN_add]
theorem sumN_head (f : Nat → Int) : ∀ n, sumN (n + 1) f = f 0 + sumN n fun i => f (i + 1)
  | 0 => by simp [sumN]
  | n + 1 => by
    show sumN (n + 1) f + f (n + 1) = f 0 + (sumN n (fun i => f (i + 1)) + f (n + 1))
    rw [sumN_head f n]
    omega
theorem sumN_unit {n j : Nat} (f : Nat → Int) (h : j < n) : sumN n (fun k => f k * unitV k 1 j) = f j := by
  have key : ∀ m, sumN m (fun k => f k * unitV k 1 j) = if j < m then f j else 0 := by
    intro m
    induction m with
    | zero => rfl
    | succ m ih =>
      show sumN m _ + f m * unitV m 1 j = _
      rw [ih]
      unfold unitV
      by_cases e : j = m
      · subst e
        rw [if_neg (Nat.lt_irrefl _), if_pos rfl, if_pos (Nat.lt_succ_self _)]
        simp
      · rw [if_neg e]
        by_cases h2 : j < m
        · rw [if_pos h2, if_pos (by omega)]
          simp
        · rw [if_neg h2, if_neg (by omega)]
          simp
  rw [key n, if_pos h]
theorem dvd_sumN {d : Int} {f : Nat → Int} : ∀ {n : Nat}, (∀ i, i < n → d ∣ f i) → d ∣ sumN n f
  | 0, _ => Int.dvd_zero _
  | n + 1, h => Int.dvd_add (dvd_sumN fun i hi => h i (by omega)) (h n (by omega))
theorem combo_sum : ∀ (ks : List Int) (B : List (List Int)) (j : Nat), ks.length = B.length → comboV ks B j = sumN B.length fun i => vf ks i * vf (B.getD i []) j
  | [], [], _, _ => rfl
  | k :: ks, b :: B, j, h => by
    show k * vf b j + comboV ks B j = sumN (B.length + 1) _
    rw [sumN_head, combo_sum ks B j (Nat.succ.inj h)]
    rfl
theorem lat_sum {B : List (List Int)} (m : Nat → Int) : ∀ n, n ≤ B.length → Lat (rowsG B) (fun j => sumN n fun i => m i * vf (B.getD i []) j)
  | 0, _ => Lat.zero
  | n + 1, h => by
    have hb : B[n]? = some (B[n]'(by omega)) := List.getElem?_eq_getElem (by omega)
    have e : B.getD n [] = B[n]'(by omega) := by rw [List.getD_eq_getElem?_getD, hb]; rfl
    refine ((lat_sum m n (by omega)).comb (Lat.gen (G := rowsG B) ⟨B[n]'(by omega), List.getElem_mem _, rfl⟩) (-(m n))).of_eq fun j => ?_
    show _ = sumN n (fun i => m i * vf (B.getD i []) j) + m n * vf (B.getD n []) j
    rw [e]
    grind
/-- the coordinates of multiples of the units -/
def colsF (B : List (List Int)) (n k : Nat) : List Int := coordF 0 B (unitL n k (diagP 0 B))
/-- what is told of a vector at i -/
def tellF (B : List (List Int)) (n : Nat) (v : Vec) (i : Nat) : Int := sumN n fun k => v k * vf (colsF B n k) i
section
variable {n : Nat} {B : List (List Int)} (lB : B.length = n) (tri : Tri n B)
include lB tri
theorem cols_ok {k : Nat} (hk : k < n) (j : Nat) : unitV k (diagP 0 B) j = sumN n fun i => vf (colsF B n k) i * vf (B.getD i []) j := by
  have h1 := unit_in lB tri n 0 (by omega) k (by omega) hk
  rw [List.drop_zero] at h1
  have lu : (unitL n k (diagP 0 B)).length = n := by simp [unitL]
  have uv := unitL_vf (n := n) (x := diagP 0 B) hk
  have h2 := coord_ok lB tri n 0 (unitL n k (diagP 0 B)) (by omega) lu (by rw [List.drop_zero, uv]; exact h1) j
  rw [List.drop_zero, uv] at h2
  rw [h2, combo_sum _ _ _ (coord_len _ _ _), lB]
  rfl
theorem tell_combo {v : Vec} (hv : ∀ j, n ≤ j → v j = 0) (j : Nat) : diagP 0 B * v j = sumN n fun i => tellF B n v i * vf (B.getD i []) j := by
  have e1 : (sumN n fun i => tellF B n v i * vf (B.getD i []) j) = sumN n fun i => sumN n fun k => v k * (vf (colsF B n k) i * vf (B.getD i []) j) := sumN_congr fun i _ => by
    unfold tellF
    rw [Int.mul_comm, ← sumN_mul]
    exact sumN_congr fun k _ => by grind
  rw [e1, sumN_swap]
  have e2 : (sumN n fun k => sumN n fun i => v k * (vf (colsF B n k) i * vf (B.getD i []) j)) = sumN n fun k => (v k * diagP 0 B) * unitV k 1 j := sumN_congr fun k hk => by
    rw [sumN_mul, ← cols_ok lB tri hk j]
    unfold unitV
    split <;> simp
  rw [e2]
  by_cases hj : j < n
  · rw [sumN_unit (fun k => v k * diagP 0 B) hj, Int.mul_comm]
  · rw [hv j (by omega)]
    have : (sumN n fun k => (v k * diagP 0 B) * unitV k 1 j) = sumN n fun _ => 0 := sumN_congr fun k hk => by
      unfold unitV
      rw [if_neg (by omega)]
      simp
    rw [this, sumN_zero]
    simp
/-- all told 0: in the lattice -/
theorem tell_in {v : Vec} (hv : ∀ j, n ≤ j → v j = 0) (h : ∀ i, i < n → diagP 0 B ∣ tellF B n v i) : Lat (rowsG B) v := by
  have D0 : 0 < diagP 0 B := by
    have := diag_pos tri n 0 (by omega)
    rwa [List.drop_zero] at this
  refine (lat_sum (B := B) (fun i => tellF B n v i / diagP 0 B) n (by omega)).of_eq fun j => ?_
  refine Int.eq_of_mul_eq_mul_left (a := diagP 0 B) (by omega) ?_
  rw [tell_combo lB tri hv j, ← sumN_mul]
  refine sumN_congr fun i hi => ?_
  rw [← Int.mul_assoc, Int.mul_ediv_cancel' (h i hi)]
theorem tell_of {v : List Int} (lv : v.length = n) (h : Lat (rowsG B) (vf v)) {i : Nat} (hi : i < n) : diagP 0 B ∣ tellF B n (vf v) i := by
  have h2 := fun j => coord_ok lB tri n 0 v (by omega) lv (by rw [List.drop_zero]; exact h) j
  rw [List.drop_zero] at h2
  have lc : (coordF 0 B v).length = n := by rw [coord_len, lB]
  have key := combo_inj tri n 0 ((List.range n).map fun i => tellF B n (vf v) i) ((coordF 0 B v).map fun x => diagP 0 B * x) (by omega) (by simp) (by simp [lc]) (fun j => by
    rw [List.drop_zero, combo_sum _ _ _ (by simp [lB]), combo_sum _ _ _ (by rw [List.length_map, lc, lB]), lB]
    have e1 : (sumN n fun i => vf ((List.range n).map fun i => tellF B n (vf v) i) i * vf (B.getD i []) j) = diagP 0 B * vf v j := by
      rw [tell_combo lB tri (v := vf v) (fun j hj => vf_ge (by omega)) j]
      refine sumN_congr fun i hi => ?_
      rw [vf_at (v := (List.range n).map fun i => tellF B n (vf v) i) (x := tellF B n (vf v) i) (by rw [List.getElem?_map, List.getElem?_range hi]; rfl)]
    rw [e1, h2 j, combo_sum _ _ _ (by rw [lc, lB]), lB, ← sumN_mul]
    refine sumN_congr fun i hi => ?_
    have e3 : (coordF 0 B v)[i]? = some ((coordF 0 B v)[i]'(by omega)) := List.getElem?_eq_getElem (by omega)
    rw [vf_at e3, vf_at (v := (coordF 0 B v).map fun x => diagP 0 B * x) (by rw [List.getElem?_map, e3]; rfl), Int.mul_assoc])
  have e4 : ((List.range n).map fun i => tellF B n (vf v) i)[i]? = some (tellF B n (vf v) i) := by rw [List.getElem?_map, List.getElem?_range hi]; rfl
  rw [key, List.getElem?_map] at e4
  cases e5 : (coordF 0 B v)[i]? with
  | none => rw [e5] at e4; cases e4
  | some x =>
    rw [e5] at e4
    rw [← Option.some.inj e4]
    exact Int.dvd_mul_right _ _
end

def wsum (ws xs : List Int) : Int := (List.zipWith (fun w x => w * x) ws xs).sum

structure WitOk (ns : List Int) (m : Int) (ws : List Int) (r : Int) : Prop where
  m3 : 3 ≤ m
  odd : m % 2 = 1
  r0 : 0 ≤ r
  r1 : r < m
  len : ws.length = ns.length
  w0 : ∀ x ∈ ws, 0 ≤ x ∧ x < m
  fit : ∀ (i : Nat) (x n : Int), ws[i]? = some x → ns[i]? = some n → x * n % m = 0
theorem wsum_cons (w : Int) (ws : List Int) (x : Int) (xs : List Int) : wsum (w :: ws) (x :: xs) = w * x + wsum ws xs := by
  unfold wsum
  rw [List.zipWith_cons_cons, List.sum_cons]
theorem wsum_scale {g : Int} : ∀ {ws vs xs : List Int}, ws = vs.map (fun v => g * v) → wsum ws xs = g * wsum vs xs
  | _, [], xs, h => by
    subst h
    simp [wsum]
  | _, v :: vs, [], h => by
    subst h
    simp [wsum]
  | _, v :: vs, x :: xs, h => by
    subst h
    rw [List.map_cons, wsum_cons, wsum_cons, wsum_scale (vs := vs) (xs := xs) rfl]
    grind
theorem wsum_zero : ∀ {ws xs : List Int}, (∀ w ∈ ws, w = 0) → wsum ws xs = 0
  | [], _, _ => by simp [wsum]
  | _ :: _, [], _ => by simp [wsum]
  | w :: ws, x :: xs, h => by
    rw [wsum_cons, h w List.mem_cons_self, wsum_zero fun y hy => h y (List.mem_cons_of_mem _ hy)]
    simp
theorem wsum_unit : ∀ {ws : List Int} {n j : Nat} {x y : Int}, ws.length = n → j < n → ws[j]? = some x → wsum ws (unitL n j y) = x * y := by
  have key : ∀ (ws : List Int) (f : Nat → Int) , wsum ws ((List.range ws.length).map f) = sumN ws.length fun k => f k * vf ws k := by
    intro ws
    induction ws with
    | nil => intro f; rfl
    | cons w ws ih =>
      intro f
      rw [List.length_cons, List.range_succ_eq_map, List.map_cons, List.map_map, wsum_cons, sumN_head, ih (f ∘ Nat.succ)]
      show w * f 0 + _ = f 0 * w + _
      rw [Int.mul_comm w]
      rfl
  intro ws n j x y h hj hx
  subst h
  unfold unitL
  rw [key]
  have e : (sumN ws.length fun k => (if k = j then y else 0) * vf ws k) = sumN ws.length fun k => (y * vf ws k) * unitV k 1 j := sumN_congr fun k _ => by
    unfold unitV
    by_cases e : k = j
    · rw [if_pos e, if_pos e.symm, Int.mul_one]
    · rw [if_neg e, if_neg (fun z => e z.symm)]
      simp
  rw [e, sumN_unit (fun k => y * vf ws k) hj, vf_at hx, Int.mul_comm]
theorem wsum_shiftL {m f : Int} : ∀ {ws ns ps cs : List Int}, ws.length = ns.length → ps.length = ns.length → cs.length = ns.length → (∀ (i : Nat) (x n : Int), ws[i]? = some x → ns[i]? = some n → x * n % m = 0) → m ∣ wsum ws (shiftL ns ps cs f) - (wsum ws ps + f * wsum ws cs)
  | [], [], [], [], _, _, _, _ => by
    show m ∣ 0 - (0 + f * 0)
    simp
  | x :: ws, n :: ns, p :: ps, c :: cs, h1, h2, h3, hf => by
    have ih := wsum_shiftL (m := m) (f := f) (Nat.succ.inj h1) (Nat.succ.inj h2) (Nat.succ.inj h3) fun i x n hx hn => hf (i + 1) x n (by simpa using hx) (by simpa using hn)
    have f0 := Int.dvd_of_emod_eq_zero (hf 0 x n rfl rfl)
    show m ∣ wsum (x :: ws) ((p + f * c) % n :: shiftL ns ps cs f) - _
    rw [wsum_cons, wsum_cons, wsum_cons]
    have e := Int.mul_ediv_add_emod (p + f * c) n
    have d2 : m ∣ x * n * ((p + f * c) / n) := Int.dvd_mul_of_dvd_left f0
    have d3 := Int.dvd_sub ih d2
    refine (congrArg (m ∣ ·) ?_).mp d3
    grind

-- sorts
open PySem.W PySem.Calls in
theorem collect_tuple {prog : Program} {w : World} {A : Around} {E : Value → Shared → Prop} {s : Shared} {l : Addr} {vs : List Value} {Q : List Value → Shared → Prop} (hl : IsTup s.heap l vs.toArray)
    (h : Q vs { s with heap := (s.heap.push (seqObj "list" #[] 0)).update s.heap.objs.size (Obj.mapSeq (· ++ vs.toArray)) }) (hsz : vs.length ≤ sizeLine) :
    wpAny (model prog w) A (collect (.ref l)) Q E s := by
  obtain ⟨o, ho, hc, n, hd⟩ := id hl
  unfold collect
  refine wpAny_bind (wpAny_runValue (codeAny_builtin entry_proto_collect' ?_))
  show wpAny _ _ (do again (.builtin "list.__iadd__" ⟨[← newList [], .ref l], []⟩)) _ _ s
  refine wpAny_bind (wpAny_newList (wpAny_pure ⟨Code.quiet_builtin _ (by decide +kernel), codeAny_builtin entry_list_iadd' ?_⟩))
  show wpAny _ _ (Builtin.List.listExtendWith (.ref s.heap.objs.size) (.ref l) (.ref s.heap.objs.size)) _ _ { s with heap := s.heap.push (seqObj "list" #[] 0) }
  unfold Builtin.List.listExtendWith
  have ho' : (s.heap.push (seqObj "list" #[] 0)).get? l = some o := Heap.get?_push_of_some _ ho
  refine wpAny_bind (wpAny_typeOf (T := "tuple") ⟨o, ho', hc⟩ ?_)
  have ht : (Value.type "tuple" == Value.type "tuple") = true := by rfl
  rw [if_pos (by rw [ht]; simp)]
  refine wpAny_bind (listItems_at ho' hd ?_)
  refine wpAny_bind (listItems_at (xs := #[]) (n := 0) (Heap.get?_push_size _ rfl) rfl ?_)
  rw [if_neg (by simp)]
  refine wpAny_bind (listUpdate_at (xs := #[]) (n := 0) (Heap.get?_push_size _ rfl) rfl ?_ (Nat.zero_le _) (by show (#[] ++ vs.toArray).size ≤ sizeLine + 1; simp only [Array.size_append, List.size_toArray, List.length_nil]; omega))
  refine wpAny_pure ?_
  show wpAny (model prog w) A (do
      let o ← load s.heap.objs.size
      match o.data with
      | .seq xs _ => pure xs.toList
      | _ => unsupported "internal:collect") Q E { s with heap := (s.heap.push (seqObj "list" #[] 0)).update s.heap.objs.size (Obj.mapSeq (· ++ vs.toArray)) }
  refine wpAny_bind (wpAny_load (get?_update_seq (Heap.get?_push_size _ rfl) _) ?_)
  show wpAny _ _ (pure ((#[] : Array Value) ++ vs.toArray).toList) Q E _
  rw [show ((#[] : Array Value) ++ vs.toArray).toList = vs by simp]
  exact wpAny_pure h
open PySem.W PySem.Calls in
theorem sorted_of_tup {prog : Program} {w : World} {A : Around} {E : Value → Shared → Prop} {s : Shared} {l : Addr} {vs : List Value} {Q : Value → Shared → Prop} (hl : IsTup s.heap l vs.toArray) (hL : vs.length ≤ sizeLine)
    (body : ∀ E' : Value → Shared → Prop, wpAny (model prog w) A.in1.in1 (Builtin.«list.sort» ⟨[.ref (s.heap.objs.size + 1)], []⟩) (fun f s' => f = .done (.ret .none) ∧ Q (.ref (s.heap.objs.size + 1)) s') E' { s with heap := copyHeap s.heap vs }) :
    wpAny (model prog w) A (call (.builtin "sorted") [.ref l]) Q E s := by
  refine call_function_entry_kw kind_sorted plain_sorted entry_sorted (args_sorted1 _) ?_
  unfold Builtin.«sorted»
  refine wpAny_bind (m := checkCount "sorted" 1 1 _) (wpAny_pure ?_)
  refine wpAny_bind (collect_tuple hl ?_ hL)
  refine wpAny_bind (wpAny_newList ?_ hL)
  have hsz : ((s.heap.push (seqObj "list" #[] 0)).update s.heap.objs.size (Obj.mapSeq (· ++ vs.toArray))).objs.size = s.heap.objs.size + 1 := by
    rw [Heap.size_update, size_push']
  show wpAny _ _ _ _ _ { s with heap := copyHeap s.heap vs }
  rw [hsz]
  refine wpAny_bind (wpAny_holding (wpAny_call_entry_kw slot_list_sort ⟨_, copyHeap_at s.heap vs, rfl⟩ entry_list_sort ?body (args_list_sort _)))
  case body =>
    show wpAny (model prog w) A.in1.in1 (Builtin.«list.sort» ⟨[.ref (s.heap.objs.size + 1)], []⟩) _ _ _
    refine wpAny_mono (body _) (fun f s' hf => ?_) fun _ _ e => e
    obtain ⟨rfl, hq⟩ := hf
    exact ⟨_, rfl, wpAny_pure ⟨_, rfl, hq⟩⟩
open PySem.W PySem.Calls in
theorem sorted_data_t {prog : Program} {w : World} {A : Around} {E : Value → Shared → Prop} {s : Shared} {β : Type} {vs : List Value} {bs : List β} {enc : β → PyData} {R : Value → β → Prop} {l : Addr} {Q : Value → Shared → Prop} (hl : IsTup s.heap l vs.toArray) (e : EachIs R vs bs) (er : EachIs (fun v b => ∃ as, Reads s.heap v (enc b) as) vs bs) (hal : AllAlike (bs.map enc)) (hk : Sortable (bs.map enc)) (hL : bs.length ≤ sizeLine)
    (hu : ∀ b, b ∈ bs → A.units + 2 + (enc b).depth < cLine) (h : ∀ out, out.length = bs.length → EachIs R out (bs.mergeSort (dataLe false enc)) → Q (.ref (s.heap.objs.size + 1)) { s with heap := sortedAll s.heap vs (List.toArray out) }) :
    wpAny (model prog w) A (call (.builtin "sorted") [.ref l]) Q E s := by
  have er' : EachIs (fun v b => ∃ as, Reads (sortingHeap (copyHeap s.heap vs) (s.heap.objs.size + 1) vs) v (enc b) as) vs bs := er.mono fun _ _ ⟨as, r⟩ => ⟨as, PyProof.Rows.Reads.keeps (fun _ _ => sorting_copy_old) r⟩
  have hL' : vs.length ≤ sizeLine := by rw [e.length]; exact hL
  exact sorted_of_tup hl hL' fun _ => list_sort_vals (s := { s with heap := copyHeap s.heap vs }) (copyHeap_at s.heap vs) (SortsAt.data (s := { s with heap := sortingHeap (copyHeap s.heap vs) (s.heap.objs.size + 1) vs }) (each_map (R := fun v d => ∃ as, Reads (sortingHeap (copyHeap s.heap vs) (s.heap.objs.size + 1) vs) v d as) enc er') hal hk (bound_map hu)) hL' ⟨rfl, h _ (by rw [sortVals_length false rfl]; exact e.length) (sortVals_data false e er' hal)⟩
/-- the order of tuples of ints -/
def leT (a b : List Int) : Bool := PySem.W.dataLe false iT a b
/-- sorted(q), q a list or tuple of tuples of ints -/
def rSortQ (K : PySem.W.Frag) : List V → Hp → VK → Prop := fun vs H Q => ∃ (q : Bool × Addr) (xs : List V) (tss : List (List Int)), vs = [V.ref q.2] ∧ CZ.SqK K H q xs ∧ RowsR H xs tss ∧ (∀ ts ∈ tss, ts ≠ []) ∧
  ∀ (ys : List V) (p : Addr), RowsR H ys (tss.mergeSort leT) → H p = none → Q (.ref p) (upd H p (.lst ys))
open PySem.W in
theorem each_rows {H : Hp} : ∀ {xs : List V} {tss : List (List Int)} {us : List Value}, RowsR H xs tss → Vals xs us → EachIs (fun (u : Value) (ts : List Int) => ∃ t, u = Value.ref t ∧ H t = some (.tup (ts.map V.int))) us tss
  | _, _, _, .nil, .nil => .nil
  | _, _, _, .cons ⟨r, e, h⟩ t, .cons rv tv => by
    subst e
    cases rv
    exact .cons ⟨r, rfl, h⟩ (each_rows t tv)
open PySem.W in
theorem rows_each {H : Hp} : ∀ {us : List Value} {tss : List (List Int)}, EachIs (fun (u : Value) (ts : List Int) => ∃ t, u = Value.ref t ∧ H t = some (.tup (ts.map V.int))) us tss → ∃ ys, RowsR H ys tss ∧ Vals ys us
  | _, _, .nil => ⟨[], .nil, .nil⟩
  | _, _, .cons ⟨t, e, h⟩ r => by
    subst e
    obtain ⟨ys, h1, h2⟩ := rows_each r
    exact ⟨.ref t :: ys, .cons ⟨t, rfl, h⟩ h1, .cons rfl h2⟩
open PySem.W in
theorem each_dp {X : Cx} {pins : List (Addr × Obj)} {σ : L2.St} {H : Hp} {s : Shared} (I : Inv X pins σ H s) : ∀ {us : List Value} {tss : List (List Int)}, EachIs (fun (u : Value) (ts : List Int) => ∃ t, u = Value.ref t ∧ H t = some (.tup (ts.map V.int))) us tss → EachIs (fun v b => ∃ as, Reads s.heap v (iT b) as) us tss
  | _, _, .nil => .nil
  | _, _, .cons ⟨t, e, h⟩ r => by
    subst e
    exact .cons (Dp.reads I _ (.ref t) _ (dp_ints h) rfl) (each_dp I r)
theorem alike_iT (a b : List Int) : PySem.W.alike (iT a) (iT b) = true := by
  show PySem.W.alike (.tuple (a.map .int)) (.tuple (b.map .int)) = true
  rw [PySem.W.alike]
  exact PySem.W.alike_ints a b
theorem cr_sortQ {X : Cx} (hu : X.A.units + 65 < cLine) : CallR X (.builtin "sorted") (rSortQ X.K) := by
  intro pins s σ H vs us Q I r h
  obtain ⟨⟨b, a⟩, xs, tss, rfl, hs, rr, ne, q⟩ := h
  rw [Vals.ref1 r]
  have hk : PySem.W.Sortable (tss.map iT) := .inl fun d hd => by
    obtain ⟨ts, ht, rfl⟩ := List.mem_map.mp hd
    cases ts with
    | nil => exact absurd rfl (ne _ ht)
    | cons x l => exact ⟨_, _, rfl⟩
  have hU : ∀ ts, ts ∈ tss → X.A.units + 2 + (iT ts).depth < cLine := fun ts _ => by
    have e := PySem.W.depth_ints ts
    have : (iT ts).depth = 1 := by
      show PyData.depth (.tuple (ts.map .int)) = 1
      simp only [PyData.depth, e]
    omega
  have fin : ∀ its : List Value, Vals xs its → xs.length ≤ sizeLine → ∀ out, out.length = tss.length → PySem.W.EachIs (fun (u : Value) (ts : List Int) => ∃ t, u = Value.ref t ∧ H t = some (.tup (ts.map V.int))) out (tss.mergeSort (PySem.W.dataLe false iT)) → EP X pins σ Q (.ref (s.heap.objs.size + 1)) { s with heap := sortedAll s.heap its (List.toArray out) } := by
    intro its rv hz out lo eo
    obtain ⟨ys, h1, h2⟩ := rows_each eo
    obtain ⟨ep, he'⟩ := PyProof.Rows.sortedAll_at s.heap its (List.toArray out)
    have hlen : ys.length ≤ sizeLine := by
      rw [h2.length, lo, ← Paired.length rr]
      exact hz
    exact ⟨.ref _, upd H (s.heap.objs.size + 1) (.lst ys), I.laid (t' := s.toks) (fun _ _ => PyProof.Rows.sortedAll_old) (Nat.le_succ _) ⟨hlen, out, ep, h2, he'⟩, rfl, q ys _ h1 (I.hok.fresh (Nat.le_succ _))⟩
  have hal : PySem.W.AllAlike (tss.map iT) := PySem.W.AllAlike.of alike_iT
  cases b with
  | false =>
    obtain ⟨its, rv, hl, hz⟩ := I.list (show SqL X.K H a xs from hs)
    have e := each_rows rr rv
    exact PySem.W.sorted_data (enc := iT) hl.isList e (each_dp I e) hal hk (by rw [← Paired.length rr]; exact hz) hU (fin its rv hz)
  | true =>
    obtain ⟨its, rv, hl, hz⟩ := I.tuple (show SqT X.K H a xs from hs)
    have e := each_rows rr rv
    exact sorted_data_t (enc := iT) hl e (each_dp I e) hal hk (by rw [← Paired.length rr]; exact hz) hU (fin its rv hz)

section
variable {P : Program} {w : World} {K : PySem.W.Frag} {mg : Str → Option Value} {base : Heap}
def sp_weighted : Sp := fun vs H Q _ => ∃ (m : Int) (a b : Addr) (ws ps : List Int), vs = [.int m, .ref a, .ref b] ∧ 0 < m ∧ H a = some (.tup (ws.map V.int)) ∧ H b = some (.tup (ps.map V.int)) ∧ ws.length = ps.length ∧ ps.length ≤ 4 ∧ (∀ w ∈ ws, w.natAbs < 2 ^ 5000) ∧ (∀ p ∈ ps, p.natAbs < 2 ^ 5000) ∧ ∀ H2, Ex H H2 → Q (.int (wsum ws ps % m)) H2
theorem ok_weighted (T : TX K mg) : FnOk P w K mg base CX0 1 T.f_weighted T.fd_weighted ["modulus", "weights", "seat"] sp_weighted := by
  refine T.F_weighted.ok sc_weighted (fun vs H Q E h => ?_) (fun cdv A outer s H vs Q E hr h => ?_)
  · obtain ⟨m, a, b, ws, ps, rfl, _⟩ := h
    rfl
  · obtain ⟨m, a, b, ws, ps, rfl, m0, ha, hb, l, l4, bw, bp, k⟩ := h
    refine ⟨_, (pss_one (ps_ret (pe_op op_mod (pe_callB (cr_sum rfl) (by rfl) T.z_sum (by decide +kernel) (pa_cons (pe_lc (own := [("weight", 3), ("place", 4)]) (g := (gTup K 2 (gCons (gName 3) (gCons (gName 4) gNil)))) rfl sc_weighted.nd (CZ.pi_z2s (fl := [true, true]) rfl (by rfl) T.z_zip (pa_cons (pv 1) (pa_cons (pv 2) pa_nil))) (blkOk_by (N := N_weighted) (sc := defScope s_weighted) (by decide +kernel)) (fun _ _ _ _ _ => (pg_tup rfl (pgs_cons (pg_name (i := 3) sc_weighted.nd rfl (Or.inl rfl)) (pgs_cons (pg_name (i := 4) sc_weighted.nd rfl (Or.inl rfl)) pgs_nil)))) (fun _ _ _ _ _ => pts_nil) (fun _ _ _ _ _ => (pe_op op_mulI (pv 3) (pv 4)))) pa_nil)) (pv 0)))), ?_⟩
    refine ⟨_, rfl, _, rfl, [a, b], rfl, rfl, all2 (sqT ha) (sqT hb), fun D hD => ?_⟩
    refine lc_vals (CZ.walk_rows (xss := [ws.map V.int, ps.map V.int]) (n := ps.length) (lens2 (by rw [List.length_map, l]) (by rw [List.length_map]))) ((List.zipWith (fun w x => w * x) ws ps).map V.int) (by rw [List.length_map, List.length_zipWith, l, Nat.min_self]) (by omega) hD (fun H3 e => .cons (sqT (e _ _ ha)) (.cons (sqT (e _ _ hb)) .nil)) ?_ (gmono_tup (gmono_cons gmono_name (gmono_cons gmono_name gmono_nil))) ?_
    · intro j y H6 H7 R hj e yy kk
      obtain ⟨Tb, p, d, rfl, hTb, rfl, hp, hdd⟩ := yints2 yy
      refine ⟨Tb, _, rfl, SqT.of upd_same, rfl, _, _, rfl, _, _, rfl, rfl, ?_⟩
      refine ⟨rfl, _, rfl, _, rfl, _, _, rfl, rfl, (wide_mul (bw p (List.mem_of_getElem? hp)) (bp d (List.mem_of_getElem? hdd)) (by decide) (by decide) (by decide)).ok, ?_⟩
      refine kk _ _ (exn hTb) ?_
      rw [List.getElem?_map, List.getElem?_zipWith, hp, hdd]
      rfl
    · intro H3 e3 hD3
      exact ⟨D, _, rfl, SqL.of hD3, _, rfl, _, _, rfl, rfl, m0, k _ e3⟩
end

/-- all seats, in ascending order -/
def crossS (hss : List (List Int)) (n : Int) : List (List Int) := hss.flatMap fun hs => (List.range n.toNat).map fun (i : Nat) => hs ++ [(i : Int)]
def allS (ns : List Int) : List (List Int) := ns.foldl crossS [[]]
theorem allS_snoc (ns : List Int) (n : Int) : allS (ns ++ [n]) = crossS (allS ns) n := by
  unfold allS
  rw [List.foldl_append]
  rfl
theorem crossS_snoc (hss : List (List Int)) (hs : List Int) (n : Int) : crossS (hss ++ [hs]) n = crossS hss n ++ (List.range n.toNat).map fun (i : Nat) => hs ++ [(i : Int)] := by
  unfold crossS
  rw [List.flatMap_append]
  simp
theorem crossS_len (n : Int) : ∀ hss : List (List Int), (crossS hss n).length = hss.length * n.toNat
  | [] => by simp [crossS]
  | h :: hss => by
    have ih := crossS_len n hss
    unfold crossS at ih ⊢
    rw [List.flatMap_cons, List.length_append, ih, List.length_map, List.length_range, List.length_cons, Nat.succ_mul, Nat.add_comm]
def prodL (ns : List Int) : Int := ns.foldl (fun p n => p * n) 1
theorem prodS_snoc (ns : List Int) (n : Int) : prodL (ns ++ [n]) = prodL ns * n := by
  unfold prodL
  rw [List.foldl_append]
  rfl
theorem fold_mul (ns : List Int) : ∀ p : Int, ns.foldl (fun p n => p * n) p = p * ns.foldl (fun p n => p * n) 1 := by
  induction ns with
  | nil => intro p; simp
  | cons n ns ih =>
    intro p
    rw [List.foldl_cons, List.foldl_cons, ih (p * n), ih (1 * n), Int.one_mul, Int.mul_assoc]
theorem prodL_cons (n : Int) (ns : List Int) : prodL (n :: ns) = n * prodL ns := by
  unfold prodL
  rw [List.foldl_cons, fold_mul, Int.one_mul]
theorem prodL_pos : ∀ {ns : List Int}, (∀ n ∈ ns, 1 ≤ n) → 1 ≤ prodL ns
  | [], _ => by decide
  | n :: ns, h => by
    rw [prodL_cons]
    exact Int.mul_pos (by have := h n List.mem_cons_self; omega) (by have := prodL_pos (fun m hm => h m (List.mem_cons_of_mem _ hm)); omega)
theorem prodL_take : ∀ {ns : List Int} (i : Nat), (∀ n ∈ ns, 1 ≤ n) → prodL (ns.take i) ≤ prodL ns
  | [], _, _ => by simp
  | n :: ns, 0, h => by
    rw [List.take_zero]
    exact prodL_pos h
  | n :: ns, i + 1, h => by
    rw [List.take_succ_cons, prodL_cons, prodL_cons]
    exact Int.mul_le_mul_of_nonneg_left (prodL_take i fun m hm => h m (List.mem_cons_of_mem _ hm)) (by have := h n List.mem_cons_self; omega)
theorem foldS_len : ∀ (ns : List Int) (hss : List (List Int)), (∀ n ∈ ns, 1 ≤ n) → ((ns.foldl crossS hss).length : Int) = hss.length * prodL ns
  | [], hss, _ => by simp [prodL]
  | n :: ns, hss, h => by
    have n1 := h n List.mem_cons_self
    rw [List.foldl_cons, foldS_len ns _ fun m hm => h m (List.mem_cons_of_mem _ hm), crossS_len, prodL_cons, Int.natCast_mul, Int.toNat_of_nonneg (by omega), Int.mul_assoc]
theorem allS_len {ns : List Int} (h : ∀ n ∈ ns, 1 ≤ n) : ((allS ns).length : Int) = prodL ns := by
  unfold allS
  rw [foldS_len ns _ h]
  simp
theorem mem_foldS : ∀ (ns : List Int) (hss : List (List Int)) (p : List Int), p ∈ ns.foldl crossS hss ↔ ∃ h ∈ hss, ∃ q, SeatOk ns q ∧ p = h ++ q
  | [], hss, p => by
    constructor
    · intro h
      exact ⟨p, h, [], True.intro, by simp⟩
    · rintro ⟨h, hh, q, sk, rfl⟩
      cases q with
      | nil => rw [List.append_nil]; exact hh
      | cons x q => exact sk.elim
  | n :: ns, hss, p => by
    rw [List.foldl_cons, mem_foldS ns]
    constructor
    · rintro ⟨h, hh, q, sk, rfl⟩
      obtain ⟨g, hg, hh⟩ := List.mem_flatMap.mp hh
      obtain ⟨i, hi, rfl⟩ := List.mem_map.mp hh
      have := List.mem_range.mp hi
      exact ⟨g, hg, (i : Int) :: q, ⟨⟨by omega, by omega⟩, sk⟩, by simp⟩
    · rintro ⟨h, hh, q, sk, rfl⟩
      cases q with
      | nil => exact sk.elim
      | cons x q =>
        obtain ⟨⟨x0, x1⟩, sk⟩ : (0 ≤ x ∧ x < n) ∧ SeatOk ns q := sk
        refine ⟨h ++ [x], List.mem_flatMap.mpr ⟨h, hh, List.mem_map.mpr ⟨x.toNat, List.mem_range.mpr (by omega), by rw [Int.toNat_of_nonneg x0]⟩⟩, q, sk, by simp⟩
theorem mem_allS {ns p : List Int} : p ∈ allS ns ↔ SeatOk ns p := by
  unfold allS
  rw [mem_foldS]
  constructor
  · rintro ⟨h, hh, q, sk, rfl⟩
    rw [List.mem_singleton.mp hh]
    exact sk
  · intro sk
    exact ⟨[], List.mem_singleton.mpr rfl, p, sk, rfl⟩
theorem rows_allS {ns : List Int} : ∀ hs ∈ allS ns, hs.length = ns.length := fun hs h => (mem_allS.mp h).len
/-- the seat as far behind p as o is ahead -/
def mirL : List Int → List Int → List Int → List Int
  | n :: ns, p :: ps, o :: os => ((2 * p - o) % n) :: mirL ns ps os
  | _, _, _ => []
theorem mirL_len : ∀ {ns ps os : List Int}, ps.length = ns.length → os.length = ns.length → (mirL ns ps os).length = ns.length
  | [], _, _, _, _ => by cases ‹List Int› <;> cases ‹List Int› <;> rfl
  | n :: ns, p :: ps, o :: os, h1, h2 => by
    simp only [mirL, List.length_cons] at *
    rw [mirL_len (by omega) (by omega)]
theorem mirL_get : ∀ {ns ps os : List Int} {i : Nat} {n p o : Int}, ns[i]? = some n → ps[i]? = some p → os[i]? = some o → (mirL ns ps os)[i]? = some ((2 * p - o) % n)
  | n :: ns, p :: ps, o :: os, 0, _, _, _, h1, h2, h3 => by
    simp at h1 h2 h3
    subst h1 h2 h3
    rfl
  | n :: ns, p :: ps, o :: os, i + 1, _, _, _, h1, h2, h3 => by
    rw [List.getElem?_cons_succ] at h1 h2 h3
    show (mirL ns ps os)[i]? = _
    exact mirL_get h1 h2 h3
  | [], _, _, _, _, _, _, h1, _, _ => by simp at h1
  | _ :: _, [], _, _, _, _, _, _, h1, _ => by simp at h1
  | _ :: _, _ :: _, [], _, _, _, _, _, _, h1 => by simp at h1
theorem mirL_seat : ∀ {ns ps os : List Int}, (∀ n ∈ ns, 1 ≤ n) → ps.length = ns.length → os.length = ns.length → SeatOk ns (mirL ns ps os)
  | [], _, _, _, _, _ => by cases ‹List Int› <;> cases ‹List Int› <;> exact True.intro
  | n :: ns, p :: ps, o :: os, h, h1, h2 => by
    have n1 := h n List.mem_cons_self
    exact ⟨⟨Int.emod_nonneg _ (by omega), Int.emod_lt_of_pos _ (by omega)⟩, mirL_seat (fun m hm => h m (List.mem_cons_of_mem _ hm)) (by simpa using h1) (by simpa using h2)⟩
/-- the call that leads from p to o -/
def toL : List Int → List Int → List Int → List Int
  | n :: ns, p :: ps, o :: os => ((o - p) % n) :: toL ns ps os
  | _, _, _ => []
theorem toL_len : ∀ {ns ps os : List Int}, ps.length = ns.length → os.length = ns.length → (toL ns ps os).length = ns.length
  | [], _, _, _, _ => by cases ‹List Int› <;> cases ‹List Int› <;> rfl
  | n :: ns, p :: ps, o :: os, h1, h2 => by
    simp only [toL, List.length_cons] at *
    rw [toL_len (by omega) (by omega)]
theorem toL_get : ∀ {ns ps os : List Int} {i : Nat} {n p o : Int}, ns[i]? = some n → ps[i]? = some p → os[i]? = some o → (toL ns ps os)[i]? = some ((o - p) % n)
  | n :: ns, p :: ps, o :: os, 0, _, _, _, h1, h2, h3 => by
    simp at h1 h2 h3
    subst h1 h2 h3
    rfl
  | n :: ns, p :: ps, o :: os, i + 1, _, _, _, h1, h2, h3 => by
    rw [List.getElem?_cons_succ] at h1 h2 h3
    show (toL ns ps os)[i]? = _
    exact toL_get h1 h2 h3
  | [], _, _, _, _, _, _, h1, _, _ => by simp at h1
  | _ :: _, [], _, _, _, _, _, _, h1, _ => by simp at h1
  | _ :: _, _ :: _, [], _, _, _, _, _, _, h1 => by simp at h1
/-- the number of a seat in a list of numbers -/
def dep (fs : List (List Int × Nat)) (p : List Int) : Option Nat := (fs.find? fun q => decide (q.1 = p)).map (·.2)
abbrev keysL (fs : List (List Int × Nat)) : List (List Int) := fs.map (·.1)
theorem dep_cons (f : List Int × Nat) (fs : List (List Int × Nat)) (p : List Int) : dep (f :: fs) p = if f.1 = p then some f.2 else dep fs p := by
  unfold dep
  rw [List.find?_cons]
  by_cases c : f.1 = p
  · rw [decide_eq_true c, if_pos c]
    rfl
  · rw [decide_eq_false c, if_neg c]
theorem dep_isSome {fs : List (List Int × Nat)} {p : List Int} : (dep fs p).isSome = decide (p ∈ keysL fs) := by
  induction fs with
  | nil => simp [dep]
  | cons f fs ih =>
    rw [dep_cons]
    by_cases c : f.1 = p
    · rw [if_pos c]
      simp [c]
    · rw [if_neg c, ih]
      have : ¬ p = f.1 := fun z => c z.symm
      simp [this]
/-- the seats that join next -/
def newL (ns : List Int) (fs : List (List Int × Nat)) (miss newest : List (List Int)) : List (List Int) := miss.filter fun s => newest.any fun o => decide (mirL ns s o ∈ keysL fs)
abbrev atD (d : Nat) (ps : List (List Int)) : List (List Int × Nat) := ps.map fun p => (p, d)
def missL (fs : List (List Int × Nat)) (miss : List (List Int)) : List (List Int) := miss.filter fun s => decide (s ∉ keysL fs)
def roundsL (ns : List Int) : Nat → List (List Int × Nat) → List (List Int) → List (List Int) → Nat → List (List Int × Nat)
  | 0, fs, _, _, _ => fs
  | f + 1, fs, miss, newest, d => if newest = [] then fs else
    roundsL ns f (fs ++ atD (d + 1) (newL ns fs miss newest)) (missL (fs ++ atD (d + 1) (newL ns fs miss newest)) miss) (newL ns fs miss newest) (d + 1)
def countsL (ns : List Int) (tss : List (List Int)) : List (List Int × Nat) := roundsL ns ((allS ns).length + 2) (atD 0 tss) (missL (atD 0 tss) (allS ns)) tss 0
theorem crossS_nodup {hss : List (List Int)} (n : Int) (h : hss.Nodup) : (crossS hss n).Nodup := by
  unfold crossS
  unfold List.Nodup at h ⊢
  rw [List.pairwise_flatMap]
  constructor
  · intro hs _
    rw [List.pairwise_map]
    refine List.Pairwise.imp (fun {a b} z e => z ?_) List.nodup_range
    have := (List.append_inj' e rfl).2
    exact Int.ofNat.inj (List.cons.inj this).1
  · refine h.imp fun {a b} z x hx y hy e => z ?_
    obtain ⟨i, _, rfl⟩ := List.mem_map.mp hx
    obtain ⟨j, _, rfl⟩ := List.mem_map.mp hy
    exact (List.append_inj' e rfl).1
theorem allS_nodup (ns : List Int) : (allS ns).Nodup := by
  unfold allS
  have : ∀ (ns : List Int) (hss : List (List Int)), hss.Nodup → (ns.foldl crossS hss).Nodup := fun ns => by
    induction ns with
    | nil => exact fun _ h => h
    | cons n ns ih => exact fun hss h => ih _ (crossS_nodup n h)
  exact this ns _ (by simp)
theorem filter_two {α : Type} {c d : α → Bool} : ∀ {l : List α}, (∀ x ∈ l, c x = true → d x = false) → (l.filter c).length + (l.filter d).length ≤ l.length
  | [], _ => by simp
  | x :: l, h => by
    have ih := filter_two (l := l) fun y hy => h y (List.mem_cons_of_mem _ hy)
    rw [List.filter_cons, List.filter_cons]
    cases hc : c x
    · cases d x <;> simp <;> omega
    · rw [h x List.mem_cons_self hc]
      simp
      omega
theorem newL_sub {ns : List Int} {fs : List (List Int × Nat)} {miss newest : List (List Int)} {p : List Int} (h : p ∈ newL ns fs miss newest) : p ∈ miss := (List.mem_filter.mp h).1
theorem keys_app (fs gs : List (List Int × Nat)) : keysL (fs ++ gs) = keysL fs ++ keysL gs := List.map_append
theorem mem_missL {fs : List (List Int × Nat)} {miss : List (List Int)} {p : List Int} : p ∈ missL fs miss ↔ p ∈ miss ∧ p ∉ keysL fs := by
  unfold missL
  rw [List.mem_filter, decide_eq_true_iff]

/-- a dict of numbers by seats -/
abbrev entK (p : List Int) : List L2.Key := p.map Sum.inl
abbrev entV (q : List Int × Nat) : List L2.Key × V := (entK q.1, V.int (q.2 : Int))
theorem entK_kV (p : List Int) : (entK p).map kV = p.map V.int := by rw [List.map_map]; rfl
theorem entK_inj {p q : List Int} (h : entK p = entK q) : p = q := by
  induction p generalizing q with
  | nil =>
    cases q with
    | nil => rfl
    | cons => cases h
  | cons a p ih =>
    cases q with
    | nil => cases h
    | cons b q =>
      obtain ⟨h1, h2⟩ := List.cons.inj h
      rw [Sum.inl.inj h1, ih h2]
def CntAt (H : Hp) (d : Addr) (fs : List (List Int × Nat)) : Prop := H d = some (.dT (fs.map entV))
theorem CntAt.mono {H H2 : Hp} {d : Addr} {fs : List (List Int × Nat)} (e : Ex H H2) (h : CntAt H d fs) : CntAt H2 d fs := e _ _ h
theorem val_ent (p : List Int) : ∀ fs : List (List Int × Nat), valV (fs.map entV) (entK p) = (dep fs p).map fun d : Nat => V.int (d : Int)
  | [] => rfl
  | f :: fs => by
    rw [List.map_cons]
    by_cases c : f.1 = p
    · rw [valV_pos (show entK f.1 = entK p by rw [c])]
      unfold dep
      rw [List.find?_cons, decide_eq_true c]
      rfl
    · rw [valV_neg (fun z => c (entK_inj z)), val_ent p fs]
      unfold dep
      rw [List.find?_cons, decide_eq_false c]
theorem cnt_get {H : Hp} {d r : Addr} {fs : List (List Int × Nat)} {p : List Int} (h : CntAt H d fs) (hr : H r = some (.tup (p.map V.int))) : DGet H d (.ref r) ((dep fs p).map fun d : Nat => V.int (d : Int)) := by
  rw [← val_ent]
  exact DGet.t h (by rw [entK_kV]; exact hr)
theorem tup_dict {q D : Addr} {H : Hp} {kvs : List (List L2.Key × V)} {ys : List V} {o : HO} (hD : H D = some (.dT kvs)) (h : H q = some (.tup ys)) : upd H D o q = some (.tup ys) := by
  rw [upd_ne (ne_of h hD (by intro z; cases z))]
  exact h
section
variable {P : Program} {w : World} {K : PySem.W.Frag} {mg : Str → Option Value} {base : Heap}
end

section
variable {P : Program} {w : World} {K : PySem.W.Frag} {mg : Str → Option Value} {base : Heap}
def sp_Table_count (C : Addr) : Sp := fun vs H Q _ => ∃ (a : Addr) (ns : List Int), vs = [.ref a] ∧ TabAt C H a ns ∧ SzOk ns ∧ prodL ns ≤ 10 ^ 9 ∧ Q (.int (prodL ns)) H
theorem ok_Table_count (T : TX K mg) : FnOk P w K mg base CX0 1 T.f_Table_count T.fd_Table_count ["self"] (sp_Table_count T.C_Table) := by
  refine T.F_Table_count.ok sc_Table_count (fun vs H Q E h => ?_) (fun cdv A outer s H vs Q E hr h => ?_)
  · obtain ⟨a, ns, rfl, _⟩ := h
    rfl
  · obtain ⟨a, ns, rfl, ⟨dx, t, h1, h2⟩, ok, hB, k⟩ := h
    refine ⟨_, (pss_cons (ps_set (i := 1) sc_Table_count.nd rfl (Or.inl rfl) pe_int) (pss_cons (ps_for PassesOwn.never rfl (pi_tup (pe_fld (pv 0) rfl)) (pg_name (i := 2) sc_Table_count.nd rfl (Or.inl rfl)) (pss_one (ps_set (i := 1) sc_Table_count.nd rfl (Or.inl rfl) (pe_op op_mulI (pv 1) (pv 2))))) (pss_one (ps_ret (pv 1))))), ?_⟩
    refine ⟨_, rfl, a, _, dx, _, _, rfl, h1, T.cl_Table, T.n_Table_rings, rfl, t, rfl, ⟨_, SqT.of h2⟩, ?_⟩
    refine for_it (walk_tup (xs := ns.map V.int)) (fun i σ H2 => ∃ y : Option V, σ = [some (.ref a), some (.int (prodL (ns.take i))), y] ∧ H2 = H) ⟨none, rfl, rfl⟩ (fun i σ H2 _ ⟨_, _, e⟩ => by rw [e]; exact SqT.of h2) ?_ ?_
    · rintro i x σ H2 H3 hi ⟨y, rfl, rfl⟩ ⟨rfl, hx⟩
      obtain ⟨n, hn, rfl⟩ := map_get hx
      have b1 : 1 ≤ prodL (ns.take i) := prodL_pos fun m hm => ok.one m (List.mem_of_mem_take hm)
      have b2 : prodL (ns.take i) ≤ 10 ^ 9 := Int.le_trans (prodL_take i ok.one) hB
      refine ⟨_, rfl, _, rfl, _, _, rfl, rfl, mul_ok (.inl ⟨by omega, by omega⟩), some (.int n), ?_, rfl⟩
      rw [take_more hn, prodS_snoc]
      rfl
    · rintro σ H2 ⟨y, rfl, rfl⟩
      rw [List.length_map, List.take_length]
      exact ⟨_, rfl, k⟩
def sp_require_small (C : Addr) : Sp := fun vs H Q _ => ∃ (a : Addr) (ns : List Int), vs = [.ref a] ∧ TabAt C H a ns ∧ SzOk ns ∧ prodL ns ≤ 300 ∧ Q .non H
theorem ok_require_small (T : TX K mg) : FnOk P w K mg base CX0 2 T.f_require_small T.fd_require_small ["table"] (sp_require_small T.C_Table) := by
  refine T.F_require_small.ok sc_require_small (fun vs H Q E h => ?_) (fun cdv A outer s H vs Q E hr h => ?_)
  · obtain ⟨a, ns, rfl, _⟩ := h
    rfl
  · obtain ⟨a, ns, rfl, tab, ok, hB, k⟩ := h
    obtain ⟨dx, t, h1, h2⟩ := id tab
    refine ⟨_, (pss_one (ps_if (pt_cmpR op_gt (pe_meth0 (pv 0) T.cl_Table T.me_Table_count (ok_Table_count T) hr T.b_Table_count .nil pass0) (pe_glob (v := .int 300) rfl T.c_SMALL ⟨_, rfl⟩) (nomark _)) pss_never pss_nil)), ?_⟩
    refine ⟨_, rfl, a, dx, _, rfl, h1, rfl, a, ns, rfl, tab, ok, Int.le_trans hB (by decide), ?_⟩
    refine ⟨_, _, rfl, rfl, _, rfl, itf (decide_eq_false (by show ¬ (300 : Int) < prodL ns; omega)) k⟩
end

/-! ### comprehensions of new tuples -/
theorem paired_mono {α : Type} {P Q : V → α → Prop} (h : ∀ v a, P v a → Q v a) : ∀ {xs : List V} {as : List α}, Paired P xs as → Paired Q xs as
  | _, _, .nil => .nil
  | _, _, .cons q t => .cons (h _ _ q) (paired_mono h t)
theorem paired_snoc {α : Type} {P : V → α → Prop} {v : V} {a : α} (h : P v a) : ∀ {xs : List V} {as : List α}, Paired P xs as → Paired P (xs ++ [v]) (as ++ [a])
  | _, _, .nil => .cons h .nil
  | _, _, .cons q t => .cons q (paired_snoc h t)
theorem lc_new {α : Type} (Pd : Hp → V → α → Prop) (mono : ∀ (H H2 : Hp) (v : V) (a : α), (∀ c xs, H c = some (.tup xs) → H2 c = some (.tup xs)) → Pd H v a → Pd H2 v a)
    {J : It} {n : Nat} {G : Hp → Prop} {Y : Nat → Hp → V → Hp → Prop} (w : Walk J n G Y) {g : TG} {te : TE} {vs : List Nat} {σ : L2.St} {H1 : Hp} {D : Addr} {Qd : Hp → Prop} (as : List α) (hn : as.length = n) (hl : n ≤ 10000000) (hD : H1 D = none)
    (hG : ∀ H, Ex H1 H → G H)
    (hs : ∀ i x a H H2 (R : VK), as[i]? = some a → Ex H1 H → Y i H x H2 → (∀ v H5, Ex H H5 → Pd H5 v a → R v H5) → g x (wipe σ vs) H2 fun σ2 H3 => wipe σ2 vs = wipe σ vs ∧ te σ2 H3 R)
    (hg : ∀ x σ2 H2 (R R2 : L2.St → Hp → Prop), (∀ σ3 H3, R σ3 H3 → R2 σ3 H3) → g x σ2 H2 R → g x σ2 H2 R2)
    (hd : ∀ H xs, Ex H1 H → H D = some (.lst xs) → Paired (Pd H) xs as → Qd H) :
    ∃ W : Nat → Nat → Hp → Prop, (∃ m, W 0 m (upd H1 D (.lst []))) ∧ ∀ i m H, W i m H →
      (J.stop i H ∧ Qd H) ∨ (J.go i H ∧ ∃ Nx : Hp → Prop, (∀ H2, Nx H2 → ∃ m2, m2 < m ∧ W (i + 1) m2 H2) ∧ ∀ x H2, J.yld i H x H2 → g x (wipe σ vs) H2 fun σ2 H3 => wipe σ2 vs = wipe σ vs ∧ tYes σ2 H3 fun b H4 =>
        if b = true then te σ2 H4 fun y H5 => ∃ acc, H5 D = some (.lst acc) ∧ acc.length < sizeLine ∧ Nx (upd H5 D (.lst (acc ++ [y]))) else Nx H4) := by
  refine lc_it w (fun i H => Ex H1 H ∧ ∃ xs, H D = some (.lst xs) ∧ Paired (Pd H) xs (as.take i)) ⟨exn hD, [], upd_same, .nil⟩ (fun i H _ p => hG H p.1) (fun i x H H2 hi p y => ?_) (fun H p => ?_)
  · obtain ⟨a, ha⟩ : ∃ a, as[i]? = some a := ⟨_, List.getElem?_eq_getElem (by omega)⟩
    refine hg _ _ _ _ _ (fun σ3 H3 q => ⟨q.1, q.2⟩) (hs i x a H H2 (fun y H5 => ∃ acc, H5 D = some (.lst acc) ∧ acc.length < sizeLine ∧ Ex H1 (upd H5 D (.lst (acc ++ [y]))) ∧ ∃ xs, upd H5 D (.lst (acc ++ [y])) D = some (.lst xs) ∧ Paired (Pd (upd H5 D (.lst (acc ++ [y])))) xs (as.take (i + 1))) ha p.1 y fun v H5 e hv => ?_)
    obtain ⟨p1, xs, p2, p3⟩ := p
    have tp : ∀ c zs, H5 c = some (.tup zs) → upd H5 D (.lst (xs ++ [v])) c = some (.tup zs) := fun c zs z => by
      rw [upd_ne (ne_of z (e _ _ p2) (by intro q; cases q))]
      exact z
    refine ⟨xs, e _ _ p2, ?_, ex_upd (ext p1 e) hD, xs ++ [v], upd_same, ?_⟩
    · rw [Paired.length p3, List.length_take]
      exact Nat.lt_of_le_of_lt (Nat.le_trans (Nat.min_le_right _ _) (by rw [hn]; exact hl)) (by decide)
    · rw [take_more ha]
      refine paired_snoc (mono _ _ _ _ tp hv) (paired_mono (fun v a q => mono _ _ _ _ tp (mono _ _ _ _ (fun c zs z => e _ _ z) q)) p3)
  · obtain ⟨p1, xs, p2, p3⟩ := p
    rw [List.take_of_length_le (by omega)] at p3
    exact hd H xs p1 p2 p3
def PdRow (H : Hp) (x : V) (hs : List Int) : Prop := ∃ r, x = V.ref r ∧ H r = some (.tup (hs.map V.int))
theorem pdrow_mono (H H2 : Hp) (v : V) (a : List Int) (e : ∀ c xs, H c = some (.tup xs) → H2 c = some (.tup xs)) (h : PdRow H v a) : PdRow H2 v a := by
  obtain ⟨r, h1, h2⟩ := h
  exact ⟨r, h1, e _ _ h2⟩

/-- a comprehension of new objects with a test -/
theorem lc_newF {α : Type} (Pd : Hp → V → α → Prop) (mono : ∀ (H H2 : Hp) (v : V) (a : α), (∀ c xs, H c = some (.tup xs) → H2 c = some (.tup xs)) → Pd H v a → Pd H2 v a)
    {J : It} {n : Nat} {G : Hp → Prop} {Y : Nat → Hp → V → Hp → Prop} (w : Walk J n G Y) {g : TG} {tt : TT} {te : TE} {vs : List Nat} {σ : L2.St} {H1 : Hp} {D : Addr} {Qd : Hp → Prop} (as : List α) (c : α → Bool) (hn : as.length = n) (hl : n ≤ 10000000) (hD : H1 D = none)
    (hG : ∀ H, Ex H1 H → G H)
    (hs : ∀ i x a H H2 (R : VK) (S : Hp → Prop), as[i]? = some a → Ex H1 H → Y i H x H2 → (∀ v H5, Ex H H5 → c a = true → Pd H5 v a → R v H5) → (∀ H4, Ex H H4 → c a = false → S H4) → g x (wipe σ vs) H2 fun σ2 H3 => wipe σ2 vs = wipe σ vs ∧ tt σ2 H3 fun b H4 => if b = true then te σ2 H4 R else S H4)
    (hd : ∀ H xs, Ex H1 H → H D = some (.lst xs) → Paired (Pd H) xs (as.filter c) → Qd H) :
    ∃ W : Nat → Nat → Hp → Prop, (∃ m, W 0 m (upd H1 D (.lst []))) ∧ ∀ i m H, W i m H →
      (J.stop i H ∧ Qd H) ∨ (J.go i H ∧ ∃ Nx : Hp → Prop, (∀ H2, Nx H2 → ∃ m2, m2 < m ∧ W (i + 1) m2 H2) ∧ ∀ x H2, J.yld i H x H2 → g x (wipe σ vs) H2 fun σ2 H3 => wipe σ2 vs = wipe σ vs ∧ tt σ2 H3 fun b H4 =>
        if b = true then te σ2 H4 fun y H5 => ∃ acc, H5 D = some (.lst acc) ∧ acc.length < sizeLine ∧ Nx (upd H5 D (.lst (acc ++ [y]))) else Nx H4) := by
  refine lc_it w (fun i H => Ex H1 H ∧ ∃ xs, H D = some (.lst xs) ∧ Paired (Pd H) xs ((as.take i).filter c)) ⟨exn hD, [], upd_same, .nil⟩ (fun i H _ p => hG H p.1) (fun i x H H2 hi p y => ?_) (fun H p => ?_)
  · obtain ⟨a, ha⟩ : ∃ a, as[i]? = some a := ⟨as[i]'(by omega), List.getElem?_eq_getElem (by omega)⟩
    obtain ⟨p1, xs, p2, p3⟩ := p
    refine hs i x a H H2 _ (fun H3 => Ex H1 H3 ∧ ∃ xs, H3 D = some (.lst xs) ∧ Paired (Pd H3) xs ((as.take (i + 1)).filter c)) ha p1 y (fun v H5 e hc hv => ?_) (fun H4 e hc => ?_)
    · have tp : ∀ c zs, H5 c = some (.tup zs) → upd H5 D (.lst (xs ++ [v])) c = some (.tup zs) := fun c zs z => by
        rw [upd_ne (ne_of z (e _ _ p2) (by intro q; cases q))]
        exact z
      refine ⟨xs, e _ _ p2, ?_, ex_upd (ext p1 e) hD, xs ++ [v], upd_same, ?_⟩
      · rw [Paired.length p3]
        refine Nat.lt_of_le_of_lt (Nat.le_trans (List.length_filter_le _ _) ?_) (show 10000000 < sizeLine by decide)
        rw [List.length_take]
        omega
      · rw [take_more ha, List.filter_append, show [a].filter c = [a] by simp [hc]]
        exact paired_snoc (mono _ _ _ _ tp hv) (paired_mono (fun v a q => mono _ _ _ _ tp (mono _ _ _ _ (fun c zs z => e _ _ z) q)) p3)
    · refine ⟨ext p1 e, xs, e _ _ p2, ?_⟩
      rw [take_more ha, List.filter_append, show [a].filter c = [] by simp [hc], List.append_nil]
      exact paired_mono (fun v a q => mono _ _ _ _ (fun c zs z => e _ _ z) q) p3
  · obtain ⟨p1, xs, p2, p3⟩ := p
    rw [List.take_of_length_le (by omega)] at p3
    exact hd H xs p1 p2 p3
/-- .. of new objects of any kind, beside the list itself -/
theorem lc_newG {α : Type} {D : Addr} (Pd : Hp → V → α → Prop) (mono : ∀ (H H2 : Hp) (v : V) (a : α) (ys : List V), H D = some (.lst ys) → (∀ c o, c ≠ D → H c = some o → H2 c = some o) → Pd H v a → Pd H2 v a)
    {J : It} {n : Nat} {G : Hp → Prop} {Y : Nat → Hp → V → Hp → Prop} (w : Walk J n G Y) {g : TG} {tt : TT} {te : TE} {vs : List Nat} {σ : L2.St} {H1 : Hp} {Qd : Hp → Prop} (as : List α) (c : α → Bool) (hn : as.length = n) (hl : n ≤ 10000000) (hD : H1 D = none)
    (hG : ∀ H, Ex H1 H → G H)
    (hs : ∀ i x a H H2 (R : VK) (S : Hp → Prop), as[i]? = some a → Ex H1 H → (∃ ys, H D = some (.lst ys)) → Y i H x H2 → (∀ v H5, Ex H H5 → c a = true → Pd H5 v a → R v H5) → (∀ H4, Ex H H4 → c a = false → S H4) → g x (wipe σ vs) H2 fun σ2 H3 => wipe σ2 vs = wipe σ vs ∧ tt σ2 H3 fun b H4 => if b = true then te σ2 H4 R else S H4)
    (hd : ∀ H xs, Ex H1 H → H D = some (.lst xs) → Paired (Pd H) xs (as.filter c) → Qd H) :
    ∃ W : Nat → Nat → Hp → Prop, (∃ m, W 0 m (upd H1 D (.lst []))) ∧ ∀ i m H, W i m H →
      (J.stop i H ∧ Qd H) ∨ (J.go i H ∧ ∃ Nx : Hp → Prop, (∀ H2, Nx H2 → ∃ m2, m2 < m ∧ W (i + 1) m2 H2) ∧ ∀ x H2, J.yld i H x H2 → g x (wipe σ vs) H2 fun σ2 H3 => wipe σ2 vs = wipe σ vs ∧ tt σ2 H3 fun b H4 =>
        if b = true then te σ2 H4 fun y H5 => ∃ acc, H5 D = some (.lst acc) ∧ acc.length < sizeLine ∧ Nx (upd H5 D (.lst (acc ++ [y]))) else Nx H4) := by
  refine lc_it w (fun i H => Ex H1 H ∧ ∃ xs, H D = some (.lst xs) ∧ Paired (Pd H) xs ((as.take i).filter c)) ⟨exn hD, [], upd_same, .nil⟩ (fun i H _ p => hG H p.1) (fun i x H H2 hi p y => ?_) (fun H p => ?_)
  · obtain ⟨a, ha⟩ : ∃ a, as[i]? = some a := ⟨as[i]'(by omega), List.getElem?_eq_getElem (by omega)⟩
    obtain ⟨p1, xs, p2, p3⟩ := p
    refine hs i x a H H2 _ (fun H3 => Ex H1 H3 ∧ ∃ xs, H3 D = some (.lst xs) ∧ Paired (Pd H3) xs ((as.take (i + 1)).filter c)) ha p1 ⟨xs, p2⟩ y (fun v H5 e hc hv => ?_) (fun H4 e hc => ?_)
    · have tp : ∀ c o, c ≠ D → H5 c = some o → upd H5 D (.lst (xs ++ [v])) c = some o := fun c o n z => by
        rw [upd_ne n]
        exact z
      refine ⟨xs, e _ _ p2, ?_, ex_upd (ext p1 e) hD, xs ++ [v], upd_same, ?_⟩
      · rw [Paired.length p3]
        refine Nat.lt_of_le_of_lt (Nat.le_trans (List.length_filter_le _ _) ?_) (show 10000000 < sizeLine by decide)
        rw [List.length_take]
        omega
      · rw [take_more ha, List.filter_append, show [a].filter c = [a] by simp [hc]]
        exact paired_snoc (mono _ _ _ _ _ (e _ _ p2) tp hv) (paired_mono (fun v a q => mono _ _ _ _ _ (e _ _ p2) tp (mono _ _ _ _ _ p2 (fun c o _ z => e _ _ z) q)) p3)
    · refine ⟨ext p1 e, xs, e _ _ p2, ?_⟩
      rw [take_more ha, List.filter_append, show [a].filter c = [] by simp [hc], List.append_nil]
      exact paired_mono (fun v a q => mono _ _ _ _ _ p2 (fun c o _ z => e _ _ z) q) p3
  · obtain ⟨p1, xs, p2, p3⟩ := p
    rw [List.take_of_length_le (by omega)] at p3
    exact hd H xs p1 p2 p3
/-- a new list of tuples of ints -/
def PdRows (D : Addr) (H : Hp) (v : V) (row : List (List Int)) : Prop := ∃ a, v = V.ref a ∧ a ≠ D ∧ RowsAt H a row
theorem pdrows_mono {D : Addr} (H H2 : Hp) (v : V) (row : List (List Int)) (ys : List V) (hD : H D = some (.lst ys)) (e : ∀ c o, c ≠ D → H c = some o → H2 c = some o) (h : PdRows D H v row) : PdRows D H2 v row := by
  obtain ⟨a, h1, h2, xs, h3, h4⟩ := h
  exact ⟨a, h1, h2, xs, e _ _ h2 h3, paired_mono (fun v hs ⟨r, q1, q2⟩ => ⟨r, q1, e _ _ (ne_of q2 hD (by intro z; cases z)) q2⟩) h4⟩

-- minmax
/-! ### max(t), a tuple of ints -/
section
def rMaxT (K : PySem.W.Frag) : List V → Hp → VK → Prop := fun vs H Q => ∃ (a : Addr) (ns : List Int), vs = [V.ref a] ∧ SqT K H a (ns.map V.int) ∧ 0 < ns.length ∧ ∀ m, m ∈ ns → (∀ y, y ∈ ns → y ≤ m) → Q (.int m) H
theorem max_fold : ∀ (ns : List Int) (n : Int), ns.foldl max n ∈ n :: ns ∧ ∀ y ∈ n :: ns, y ≤ ns.foldl max n
  | [], n => ⟨List.mem_cons_self, fun y hy => by
    rw [List.mem_singleton.mp hy]
    exact Int.le_refl _⟩
  | m :: ns, n => by
    obtain ⟨h1, h2⟩ := max_fold ns (max n m)
    rw [List.foldl_cons]
    refine ⟨?_, fun y hy => ?_⟩
    · rcases List.mem_cons.mp h1 with h | h
      · rw [h]
        by_cases c : n ≤ m
        · rw [show max n m = m by omega]
          exact List.mem_cons_of_mem _ List.mem_cons_self
        · rw [show max n m = n by omega]
          exact List.mem_cons_self
      · exact List.mem_cons_of_mem _ (List.mem_cons_of_mem _ h)
    · have h0 := h2 (max n m) List.mem_cons_self
      rcases List.mem_cons.mp hy with rfl | hy
      · omega
      · rcases List.mem_cons.mp hy with rfl | hy
        · omega
        · exact h2 y (List.mem_cons_of_mem _ hy)
theorem cr_maxTI {X : Cx} (hc : X.calm = true) (hu : X.A.units + 65 < cLine) : CallR X (.builtin "max") (rMaxT X.K) := by
  intro pins s σ H vs us Q I r h
  obtain ⟨a, ns, rfl, hs, hne, q⟩ := h
  obtain ⟨its, rv, hl, hz⟩ := I.tuple hs
  rw [Vals.ref1 r]
  cases ns with
  | nil => simp at hne
  | cons n ns =>
    have hr := rv.ints.reads s.heap
    refine PySem.W.max_tuple_data (x := .int n) (xs := ns.map .int) (I.ok.hd hc) hl hr (PySem.W.alikeAll_datum (α := Int) (n :: ns)) ?_ fun i v h' tk bs hi rr hk => ?_
    · have : PyData.depthAll (.int n :: ns.map .int) = 0 := by
        clear hs hne q rv hr
        have key : ∀ l : List Int, PyData.depthAll (l.map .int) = 0 := fun l => by
          induction l with
          | nil => rfl
          | cons m l ih =>
            rw [List.map_cons]
            simp only [PyData.depthAll, PyData.depth, ih]
            rfl
        exact key (n :: ns)
      rw [this]
      omega
    · rw [PySem.W.maxD_ints] at rr
      obtain ⟨h1, h2⟩ := max_fold ns n
      cases rr with
      | int _ t => exact ⟨.int _, H, I.kept hk, ⟨_, rfl⟩, q _ h1 h2⟩
end

theorem mul_le_prod {ns : List Int} (h : ∀ n ∈ ns, 1 ≤ n) {i : Nat} {n : Int} (hn : ns[i]? = some n) : n ≤ prodL ns := by
  have o1 : ∀ m ∈ ns.take i, 1 ≤ m := fun m hm => h m (List.mem_of_mem_take hm)
  have a1 : prodL (ns.take (i + 1)) ≤ prodL ns := prodL_take (i + 1) h
  have n1 := h n (List.mem_of_getElem? hn)
  rw [take_more hn, prodS_snoc] at a1
  have a2 := prodL_pos o1
  have a3 : 1 * n ≤ prodL (ns.take i) * n := Int.mul_le_mul_of_nonneg_right a2 (by omega)
  omega

theorem mul_le_of_mem {ns : List Int} (h : ∀ n ∈ ns, 1 ≤ n) {n : Int} (hn : n ∈ ns) : n ≤ prodL ns := by
  obtain ⟨i, hi⟩ := List.mem_iff_getElem?.mp hn
  exact mul_le_prod h hi

def oddN (n : Nat) : Nat := if h : 0 < n ∧ n % 2 = 0 then oddN (n / 2) else n
termination_by n
decreasing_by omega
theorem odd_eq (n : Nat) : oddN n = if 0 < n ∧ n % 2 = 0 then oddN (n / 2) else n := by
  rw [oddN]
  split <;> rfl
theorem odd_ok : ∀ (m n : Nat), n ≤ m → 0 < n → (∃ k, n = 2 ^ k * oddN n) ∧ oddN n % 2 = 1 ∧ 0 < oddN n ∧ oddN n ≤ n
  | 0, n, h, p => by omega
  | m + 1, n, h, p => by
    rw [odd_eq]
    by_cases e : 0 < n ∧ n % 2 = 0
    · rw [if_pos e]
      obtain ⟨⟨k, hk⟩, a, b, c⟩ := odd_ok m (n / 2) (by omega) (by omega)
      refine ⟨⟨k + 1, ?_⟩, a, b, by omega⟩
      rw [Nat.pow_succ, Nat.mul_comm (2 ^ k), Nat.mul_assoc, ← hk]
      omega
    · rw [if_neg e]
      exact ⟨⟨0, by simp⟩, by omega, p, Nat.le_refl _⟩
def oddI (n : Int) : Int := (oddN n.toNat : Nat)
theorem oddI_ok {n : Int} (h : 1 ≤ n) : (∃ k : Nat, n = 2 ^ k * oddI n) ∧ oddI n % 2 = 1 ∧ 0 < oddI n ∧ oddI n ≤ n := by
  obtain ⟨⟨k, hk⟩, a, b, c⟩ := odd_ok n.toNat n.toNat (Nat.le_refl _) (by omega)
  refine ⟨⟨k, ?_⟩, by unfold oddI; omega, by unfold oddI; omega, by unfold oddI; omega⟩
  have : (n.toNat : Int) = ((2 ^ k * oddN n.toNat : Nat) : Int) := congrArg Nat.cast hk
  rw [Int.natCast_mul, Int.natCast_pow] at this
  unfold oddI
  rw [← show ((2 : Nat) : Int) = 2 from rfl, ← this]
  omega
theorem odd_pow2 {o x : Int} (h : o % 2 = 1) : ∀ k : Nat, o ∣ 2 ^ k * x → o ∣ x
  | 0, d => by simpa using d
  | k + 1, d => by
    refine odd_pow2 h k ?_
    rw [Int.pow_succ, Int.mul_comm ((2 : Int) ^ k), Int.mul_assoc] at d
    obtain ⟨c, hc⟩ := d
    refine ⟨2 ^ k * x - c * (o / 2), ?_⟩
    have e : o = 2 * (o / 2) + 1 := by omega
    generalize o / 2 = q at *
    subst e
    grind
theorem odd_dvd {n : Int} (h : 1 ≤ n) : oddI n ∣ n := by
  obtain ⟨⟨k, hk⟩, _⟩ := oddI_ok h
  conv => rhs; rw [hk]
  exact Int.dvd_mul_left _ _
theorem sorted_same : ∀ {xs ys : List Int}, xs.Pairwise (· < ·) → ys.Pairwise (· < ·) → (∀ k, k ∈ xs ↔ k ∈ ys) → xs = ys
  | [], [], _, _, _ => rfl
  | [], y :: ys, _, _, h => absurd ((h y).mpr List.mem_cons_self) (by simp)
  | x :: xs, [], _, _, h => absurd ((h x).mp List.mem_cons_self) (by simp)
  | x :: xs, y :: ys, hx, hy, h => by
    have hx2 := List.pairwise_cons.mp hx
    have hy2 := List.pairwise_cons.mp hy
    have e : x = y := by
      rcases List.mem_cons.mp ((h x).mp List.mem_cons_self) with z | z
      · exact z
      · rcases List.mem_cons.mp ((h y).mpr List.mem_cons_self) with u | u
        · exact u.symm
        · have := hy2.1 x z
          have := hx2.1 y u
          omega
    subst e
    rw [sorted_same hx2.2 hy2.2 fun k => ?_]
    constructor
    · intro hk
      rcases List.mem_cons.mp ((h k).mp (List.mem_cons_of_mem _ hk)) with z | z
      · have := hx2.1 k hk
        omega
      · exact z
    · intro hk
      rcases List.mem_cons.mp ((h k).mpr (List.mem_cons_of_mem _ hk)) with z | z
      · have := hy2.1 k hk
        omega
      · exact z

/-! ### witnesses that explain a game: plain -/
def stepE (e n : Int) : Int := e * oddI n / gcdI e (oddI n)
def expoL (ns : List Int) : Int := ns.foldl stepE 1
structure ExpOk (ns : List Int) (e : Int) : Prop where
  one : 1 ≤ e
  odd : e % 2 = 1
  all : ∀ n ∈ ns, oddI n ∣ e
  dvd : e ∣ prodL ns
theorem odd_of_dvd {a b : Int} (h : a ∣ b) (hb : b % 2 = 1) : a % 2 = 1 := by
  obtain ⟨c, rfl⟩ := h
  have e1 := Int.mul_ediv_add_emod a 2
  have e2 := Int.mul_ediv_add_emod c 2
  rcases Int.emod_two_eq a with h | h
  · rw [Int.mul_emod, h] at hb
    simp at hb
  · exact h
theorem stepE_ok {ns : List Int} {e n : Int} (h : ExpOk ns e) (n1 : 1 ≤ n) (one : ∀ m ∈ ns, 1 ≤ m) : ExpOk (ns ++ [n]) (stepE e n) := by
  obtain ⟨_, o1, o2, o3⟩ := oddI_ok n1
  have e1 := h.one
  have g0 : 0 < gcdI e (oddI n) := by
    have : 0 < Int.gcd e (oddI n) := Int.gcd_pos_of_ne_zero_left _ (by omega)
    show (0 : Int) < ((Int.gcd e (oddI n) : Nat) : Int)
    omega
  have gl : gcdI e (oddI n) ∣ e := Int.gcd_dvd_left ..
  have gr : gcdI e (oddI n) ∣ oddI n := Int.gcd_dvd_right ..
  have s1 : stepE e n = e * (oddI n / gcdI e (oddI n)) := Int.mul_ediv_assoc _ gr
  have s2 : stepE e n = e / gcdI e (oddI n) * oddI n := by
    unfold stepE
    rw [Int.mul_comm, Int.mul_ediv_assoc _ gl, Int.mul_comm]
  have q1 : 1 ≤ oddI n / gcdI e (oddI n) := by
    obtain ⟨c, hc⟩ := gr
    have : oddI n / gcdI e (oddI n) = c := by
      conv => lhs; lhs; rw [hc]
      exact Int.mul_ediv_cancel_left _ (by omega)
    rw [this]
    refine Classical.byContradiction fun no => ?_
    have : gcdI e (oddI n) * c ≤ gcdI e (oddI n) * 0 := Int.mul_le_mul_of_nonneg_left (by omega) (by omega)
    omega
  refine ⟨?_, ?_, fun m hm => ?_, ?_⟩
  · rw [s1]
    have := Int.mul_le_mul e1 q1 (by decide) (by omega)
    omega
  · rw [s1, Int.mul_emod, h.odd, odd_of_dvd (Int.ediv_dvd_of_dvd gr) o1]
    rfl
  · rcases List.mem_append.mp hm with hm | hm
    · rw [s1]
      exact Int.dvd_mul_of_dvd_left (h.all m hm)
    · rw [List.mem_singleton.mp hm, s2]
      exact Int.dvd_mul_left _ _
  · rw [prodS_snoc, s1]
    exact Int.mul_dvd_mul h.dvd (Int.dvd_trans (Int.ediv_dvd_of_dvd gr) (odd_dvd n1))
theorem expo_ok : ∀ {ns : List Int}, (∀ n ∈ ns, 1 ≤ n) → ExpOk ns (expoL ns) := by
  have key : ∀ (ms ds : List Int) (e : Int), ExpOk ds e → (∀ n ∈ ds, 1 ≤ n) → (∀ n ∈ ms, 1 ≤ n) → ExpOk (ds ++ ms) (ms.foldl stepE e) := by
    intro ms
    induction ms with
    | nil =>
      intro ds e h _ _
      rw [List.append_nil]
      exact h
    | cons n ms ih =>
      intro ds e h o1 o2
      have n1 := o2 n List.mem_cons_self
      have := ih (ds ++ [n]) (stepE e n) (stepE_ok h n1 o1) (fun m hm => by
        rcases List.mem_append.mp hm with hm | hm
        · exact o1 m hm
        · rw [List.mem_singleton.mp hm]
          exact n1) fun m hm => o2 m (List.mem_cons_of_mem _ hm)
      rw [List.append_assoc] at this
      exact this
  intro ns h
  exact key ns [] 1 ⟨by decide, by decide, fun _ h => (nomatch h), Int.one_dvd _⟩ (fun _ h => nomatch h) h
/-- the weights of a ring -/
def wsC (m n : Int) : List Int := ((List.range m.toNat).filter fun (w : Nat) => decide ((w : Int) * n % m = 0)).map fun (w : Nat) => (w : Int)
def crossW (hss : List (List Int)) (ws : List Int) : List (List Int) := hss.flatMap fun hs => ws.map fun w => hs ++ [w]
def rowsW (ns : List Int) (m : Int) : List (List Int) := ns.foldl (fun hss n => crossW hss (wsC m n)) [[]]
theorem mem_wsC {m n w : Int} : w ∈ wsC m n ↔ 0 ≤ w ∧ w < m ∧ w * n % m = 0 := by
  unfold wsC
  simp only [List.mem_map, List.mem_filter, List.mem_range, decide_eq_true_eq]
  constructor
  · rintro ⟨k, ⟨h1, h2⟩, rfl⟩
    exact ⟨by omega, by omega, h2⟩
  · rintro ⟨h1, h2, h3⟩
    exact ⟨w.toNat, ⟨by omega, by rw [Int.toNat_of_nonneg h1]; exact h3⟩, Int.toNat_of_nonneg h1⟩
theorem wsC_sorted (m n : Int) : (wsC m n).Pairwise (· < ·) := by
  unfold wsC
  rw [List.pairwise_map]
  exact (List.pairwise_lt_range.filter _).imp fun {a b} h => by omega
theorem dvd_co {a b w : Int} (d : a ∣ w * b) (co : Int.gcd a b = 1) : a ∣ w := by
  have h := Int.natAbs_dvd_natAbs.mpr d
  rw [Int.natAbs_mul] at h
  exact Int.natAbs_dvd_natAbs.mp (Nat.Coprime.dvd_of_dvd_mul_right (show Nat.Coprime a.natAbs b.natAbs from co) h)
/-- a weight fits a ring if it is a multiple of m / gcd -/
theorem fit_step {m n w : Int} (m1 : 1 ≤ m) : w * n % m = 0 ↔ (m / gcdI m n) ∣ w := by
  have g0 : 0 < Int.gcd m n := Int.gcd_pos_of_ne_zero_left _ (by omega)
  have gl : gcdI m n ∣ m := Int.gcd_dvd_left ..
  have gr : gcdI m n ∣ n := Int.gcd_dvd_right ..
  have gp : (0 : Int) < gcdI m n := by
    show (0 : Int) < ((Int.gcd m n : Nat) : Int)
    omega
  have co : Int.gcd (m / gcdI m n) (n / gcdI m n) = 1 := Int.gcd_ediv_gcd_ediv_gcd g0
  obtain ⟨a, ha⟩ := gl
  obtain ⟨b, hb⟩ := gr
  have ea : m / gcdI m n = a := by
    conv => lhs; lhs; rw [ha]
    exact Int.mul_ediv_cancel_left _ (by omega)
  have eb : n / gcdI m n = b := by
    conv => lhs; lhs; rw [hb]
    exact Int.mul_ediv_cancel_left _ (by omega)
  rw [ea, eb] at co
  rw [ea]
  generalize gcdI m n = g at *
  constructor
  · intro h
    have d := Int.dvd_of_emod_eq_zero h
    rw [ha, hb, show w * (g * b) = g * (w * b) by grind] at d
    have d2 : a ∣ w * b := Int.dvd_of_mul_dvd_mul_left (by omega) d
    exact dvd_co d2 co
  · rintro ⟨c, rfl⟩
    rw [hb, show a * c * (g * b) = g * a * (c * b) by grind, ← ha]
    exact Int.emod_eq_zero_of_dvd (Int.dvd_mul_right _ _)

theorem bez : ∀ (b a : Nat), ∃ x y : Int, (a : Int) * x + (b : Int) * y = ((Nat.gcd a b : Nat) : Int) := by
  intro b
  induction b using Nat.strongRecOn with
  | ind b ih =>
    intro a
    by_cases h : b = 0
    · subst h
      exact ⟨1, 0, by simp⟩
    · obtain ⟨x, y, e⟩ := ih (a % b) (Nat.mod_lt _ (by omega)) b
      refine ⟨y, x - (a / b : Nat) * y, ?_⟩
      rw [Nat.gcd_comm a b, Nat.gcd_rec b a, Nat.gcd_comm (a % b) b, ← e]
      have d : (a : Int) = (b : Int) * (a / b : Nat) + (a % b : Nat) := by
        have := Nat.div_add_mod a b
        rw [← Int.natCast_mul, ← Int.natCast_add, this]
      generalize ((a / b : Nat) : Int) = q at *
      generalize ((a % b : Nat) : Int) = r at *
      rw [d]
      grind

/-- weights that fit the rings modulo p -/
structure FitW (ns : List Int) (p : Int) (ws : List Int) : Prop where
  len : ws.length = ns.length
  w0 : ∀ x ∈ ws, 0 ≤ x ∧ x < p
  fit : ∀ (i : Nat) (x n : Int), ws[i]? = some x → ns[i]? = some n → x * n % p = 0

/-- the program's range of weights is the law's filter -/
theorem step_list {m n : Int} (m1 : 1 ≤ m) : ((List.range (Int.gcd m n)).map fun (i : Nat) => (0 : Int) + (i : Int) * (m / gcdI m n)) = wsC m n := by
  have g0 : 0 < Int.gcd m n := Int.gcd_pos_of_ne_zero_left _ (by omega)
  have gl : gcdI m n ∣ m := Int.gcd_dvd_left ..
  have hm : gcdI m n * (m / gcdI m n) = m := Int.mul_ediv_cancel' gl
  have s0 : 0 < m / gcdI m n := by
    refine Classical.byContradiction fun no => ?_
    have : gcdI m n * (m / gcdI m n) ≤ gcdI m n * 0 := Int.mul_le_mul_of_nonneg_left (by omega) (by show (0 : Int) ≤ ((Int.gcd m n : Nat) : Int); omega)
    omega
  refine sorted_same ?_ (wsC_sorted m n) fun w => ?_
  · rw [List.pairwise_map]
    refine List.pairwise_lt_range.imp fun {a b} h => ?_
    have : (a : Int) * (m / gcdI m n) < (b : Int) * (m / gcdI m n) := Int.mul_lt_mul_of_pos_right (by omega) s0
    omega
  · rw [mem_wsC, fit_step m1]
    simp only [List.mem_map, List.mem_range]
    generalize m / gcdI m n = s at *
    constructor
    · rintro ⟨i, hi, rfl⟩
      have h0 : 0 ≤ (i : Int) * s := Int.mul_nonneg (by omega) (by omega)
      have h1 : (i : Int) * s < ((Int.gcd m n : Nat) : Int) * s := Int.mul_lt_mul_of_pos_right (by omega) s0
      rw [show ((Int.gcd m n : Nat) : Int) * s = m from hm] at h1
      exact ⟨by omega, by omega, by rw [Int.zero_add]; exact Int.dvd_mul_left _ _⟩
    · rintro ⟨w0, w1, c, rfl⟩
      have c0 : 0 ≤ c := by
        refine Classical.byContradiction fun no => ?_
        have : s * c ≤ s * (-1) := Int.mul_le_mul_of_nonneg_left (by omega) (by omega)
        omega
      refine ⟨c.toNat, ?_, by rw [Int.toNat_of_nonneg c0, Int.zero_add, Int.mul_comm]⟩
      refine Classical.byContradiction fun no => ?_
      have : s * ((Int.gcd m n : Nat) : Int) ≤ s * c := Int.mul_le_mul_of_nonneg_left (by omega) (by omega)
      rw [show s * ((Int.gcd m n : Nat) : Int) = m by rw [Int.mul_comm]; exact hm] at this
      omega
/-! canonical rows -/
def gcdW (m : Int) (ws : List Int) : Int := ws.foldl (fun g w => gcdI g w) m
def unitsL (lo m : Int) : List Int := ((List.range (m - lo).toNat).map fun (i : Nat) => lo + (i : Int)).filter fun u => decide (gcdI u m = 1)
def mulM (u m : Int) (ws : List Int) : List Int := ws.map fun w => u * w % m
def canonB (m : Int) (ws : List Int) : Bool := decide (gcdW m ws = 1) && (unitsL 2 m).all fun u => decide (ws ≤ mulM u m ws)
theorem gcdW_nn : ∀ (ws : List Int) (m : Int), 0 ≤ m → 0 ≤ gcdW m ws
  | [], m, h => h
  | w :: ws, m, _ => gcdW_nn ws (gcdI m w) (by show (0 : Int) ≤ ((Int.gcd m w : Nat) : Int); omega)
/-- a number that all w * e have as a multiple divides gcd * e -/
theorem gcdW_dvd {d e : Int} : ∀ (ws : List Int) (g : Int), 0 ≤ g → d ∣ g * e → (∀ w ∈ ws, d ∣ w * e) → d ∣ gcdW g ws * e
  | [], g, _, h, _ => h
  | w :: ws, g, g0, h, hw => by
    refine gcdW_dvd ws (gcdI g w) (by show (0 : Int) ≤ ((Int.gcd g w : Nat) : Int); omega) ?_ fun x hx => hw x (List.mem_cons_of_mem _ hx)
    obtain ⟨a, b, hab⟩ := bez w.natAbs g.natAbs
    have eg : (g.natAbs : Int) = g := by omega
    have hg : gcdI g w = g * a + (w.natAbs : Int) * b := by
      show ((Int.gcd g w : Nat) : Int) = _
      rw [show Int.gcd g w = Nat.gcd g.natAbs w.natAbs from rfl, ← hab, eg]
    rw [hg]
    have hw1 := hw w List.mem_cons_self
    have hw2 : d ∣ (w.natAbs : Int) * e := by
      rcases Int.natAbs_eq w with z | z
      · rw [← z]
        exact hw1
      · have : (w.natAbs : Int) = -w := by omega
        rw [this, Int.neg_mul]
        exact Int.dvd_neg.mpr hw1
    have e1 : (g * a + (w.natAbs : Int) * b) * e = g * e * a + (w.natAbs : Int) * e * b := by grind
    rw [e1]
    exact Int.dvd_add (Int.dvd_mul_of_dvd_left h) (Int.dvd_mul_of_dvd_left hw2)
theorem mem_rows {m : Int} : ∀ (ns : List Int) (hss : List (List Int)) (qs : List (Int)), qs ∈ ns.foldl (fun hss n => crossW hss (wsC m n)) hss → ∃ hs ws, hs ∈ hss ∧ qs = hs ++ ws ∧ ws.length = ns.length ∧ ∀ (i : Nat) (w n : Int), ws[i]? = some w → ns[i]? = some n → w ∈ wsC m n
  | [], hss, qs, h => ⟨qs, [], h, by simp, rfl, fun i w n h => by simp at h⟩
  | n :: ns, hss, qs, h => by
    obtain ⟨hs, ws, h1, rfl, h3, h4⟩ := mem_rows ns _ qs h
    obtain ⟨hs0, h5, h6⟩ := List.mem_flatMap.mp h1
    obtain ⟨w, hw, rfl⟩ := List.mem_map.mp h6
    refine ⟨hs0, w :: ws, h5, by simp, by simp [h3], fun i x k hx hk => ?_⟩
    cases i with
    | zero =>
      simp only [List.getElem?_cons_zero, Option.some.injEq] at hx hk
      subst hx hk
      exact hw
    | succ i => exact h4 i x k (by simpa using hx) (by simpa using hk)
theorem rows_fit {ns ws : List Int} {m : Int} (h : ws ∈ rowsW ns m) : FitW ns m ws := by
  obtain ⟨hs, vs, h1, rfl, h3, h4⟩ := mem_rows ns [[]] ws h
  obtain rfl := List.mem_singleton.mp h1
  rw [List.nil_append]
  refine ⟨h3, fun x hx => ?_, fun i x n hx hn => (mem_wsC.mp (h4 i x n hx hn)).2.2⟩
  obtain ⟨i, hi⟩ := List.getElem?_of_mem hx
  have li : i < ns.length := by rw [← h3]; exact (List.getElem?_eq_some_iff.mp hi).1
  have := mem_wsC.mp (h4 i x _ hi (List.getElem?_eq_getElem li))
  exact ⟨this.1, this.2.1⟩
/-- the modulus of a canonical row divides the greatest odd order -/
theorem canon_dvd {ns ws : List Int} {m e : Int} (one : ∀ n ∈ ns, 1 ≤ n) (E : ExpOk ns e) (m1 : 1 ≤ m) (mo : m % 2 = 1) (h : ws ∈ rowsW ns m) (g : gcdW m ws = 1) : e % m = 0 := by
  have F := rows_fit h
  have d := gcdW_dvd (d := m) (e := e) ws m (by omega) (Int.dvd_mul_right _ _) fun w hw => by
    obtain ⟨i, hi⟩ := List.getElem?_of_mem hw
    have li : i < ns.length := by rw [← F.len]; exact (List.getElem?_eq_some_iff.mp hi).1
    have hn := List.getElem?_eq_getElem li
    have f := Int.dvd_of_emod_eq_zero (F.fit i w _ hi hn)
    have n1 := one _ (List.mem_of_getElem? hn)
    obtain ⟨⟨k, hk⟩, _⟩ := oddI_ok n1
    rw [hk, show w * (2 ^ k * oddI ns[i]) = 2 ^ k * (w * oddI ns[i]) by grind] at f
    have f2 := odd_pow2 mo k f
    exact Int.dvd_trans f2 (Int.mul_dvd_mul (Int.dvd_refl _) (E.all _ (List.mem_of_getElem? hn)))
  rw [g, Int.one_mul] at d
  exact Int.emod_eq_zero_of_dvd d
/-! explained games -/
def WitAt (H : Hp) (wt : Addr) (m : Int) (ws : List Int) (r : Int) : Prop := ∃ wa, H wt = some (.tup [.int m, .ref wa, .int r]) ∧ H wa = some (.tup (ws.map V.int))
abbrev W3 : Type := Int × List Int × Int
def explM (ns : List Int) (m r : Int) (ws : List Int) : List Int → List (List Int × Bool) → Bool
  | _, [] => true
  | p, c :: ms => (decide (wsum ws (shiftL ns p c.1 1) % m = r) == c.2) && explM ns m r ws (shiftL ns p c.1 (sgD c.2)) ms
def explB (ns p : List Int) (ms : List (List Int × Bool)) (w : W3) : Bool := decide (wsum w.2.1 p % w.1 ≠ w.2.2) && explM ns w.1 w.2.2 w.2.1 p ms
def resL (m : Int) (ws : List Int) : List W3 := (List.range m.toNat).map fun (r : Nat) => (m, ws, (r : Int))
def witsM (ns p : List Int) (ms : List (List Int × Bool)) (m : Int) : List W3 := (((rowsW ns m).filter (canonB m)).flatMap (resL m)).filter (explB ns p ms)
def oddsTo (k : Nat) : List Int := (List.range k).map fun (i : Nat) => 3 + (i : Int) * 2
def consL (ns p : List Int) (ms : List (List Int × Bool)) : List W3 := ((oddsTo ((expoL ns - 1) / 2).toNat).filter fun m => decide (expoL ns % m = 0)).flatMap (witsM ns p ms)
def dueL (ns p : List Int) (ms : List (List Int × Bool)) : List W3 := (oddsTo 22).flatMap (witsM ns p ms)
theorem wits_nil {ns p : List Int} {ms : List (List Int × Bool)} {m : Int} (one : ∀ n ∈ ns, 1 ≤ n) (m1 : 1 ≤ m) (mo : m % 2 = 1) (h : expoL ns % m ≠ 0) : witsM ns p ms m = [] := by
  have e : (rowsW ns m).filter (canonB m) = [] := by
    rw [List.filter_eq_nil_iff]
    intro ws hw hc
    unfold canonB at hc
    rw [Bool.and_eq_true, decide_eq_true_iff] at hc
    exact h (canon_dvd one (expo_ok one) m1 mo hw hc.1)
  unfold witsM
  rw [e]
  rfl
theorem flat_filter {α β : Type} {f : α → List β} {c : α → Bool} : ∀ {l : List α}, (∀ a ∈ l, c a = false → f a = []) → (l.filter c).flatMap f = l.flatMap f
  | [], _ => rfl
  | a :: l, h => by
    have ih := flat_filter fun b hb => h b (List.mem_cons_of_mem _ hb)
    cases e : c a with
    | true => rw [List.filter_cons_of_pos e, List.flatMap_cons, List.flatMap_cons, ih]
    | false => rw [List.filter_cons_of_neg (by simp [e]), List.flatMap_cons, h a List.mem_cons_self e, List.nil_append, ih]
theorem cons_due {ns p : List Int} {ms : List (List Int × Bool)} (one : ∀ n ∈ ns, 1 ≤ n) (pr : prodL ns ≤ 45) : consL ns p ms = dueL ns p ms := by
  have E := expo_ok one
  have e1 := E.one
  have e45 : expoL ns ≤ 45 := Int.le_trans (Int.le_of_dvd (by have := prodL_pos one; omega) E.dvd) pr
  have nil : ∀ i : Nat, expoL ns % (3 + (i : Int) * 2) ≠ 0 → witsM ns p ms (3 + (i : Int) * 2) = [] := fun i h => wits_nil one (by omega) (by omega) h
  unfold consL dueL
  rw [flat_filter fun m hm hc => by
    obtain ⟨i, _, rfl⟩ := List.mem_map.mp hm
    exact nil i (by simpa using hc)]
  have key : ∀ k : Nat, ((expoL ns - 1) / 2).toNat ≤ k → (oddsTo ((expoL ns - 1) / 2).toNat).flatMap (witsM ns p ms) = (oddsTo k).flatMap (witsM ns p ms) := by
    intro k
    induction k with
    | zero =>
      intro h
      rw [Nat.le_zero.mp h]
    | succ k ih =>
      intro h
      by_cases c : ((expoL ns - 1) / 2).toNat = k + 1
      · rw [c]
      · rw [ih (by omega)]
        unfold oddsTo
        rw [List.range_succ, List.map_append, List.flatMap_append]
        have : expoL ns % (3 + (k : Int) * 2) ≠ 0 := by
          rw [Int.emod_eq_of_lt (by omega) (by omega)]
          omega
        simp only [List.map_cons, List.map_nil, List.flatMap_cons, List.flatMap_nil, List.append_nil]
        rw [nil k this, List.append_nil]
  exact key 22 (by omega)

/-! one ring of 299 -/
def largeL : List W3 := ([13, 23, 299] : List Int).flatMap fun m => ((List.range (m - 1).toNat).map fun (r : Nat) => (m, [(1 : Int)], (1 : Int) + (r : Int)))
theorem expo_299 : expoL [299] = 299 := by
  have o : oddI 299 = 299 := by
    unfold oddI
    rw [show (299 : Int).toNat = 299 from rfl, odd_eq, if_neg (by decide)]
    rfl
  show stepE 1 299 = 299
  unfold stepE
  rw [o]
  rfl
theorem cons_299 : consL [299] [0] [] = largeL := by
  unfold consL
  rw [expo_299]
  decide +kernel

theorem rgc_div {g s : Int} (g1 : 1 ≤ g) (s1 : 1 ≤ s) (h : g * s ≤ 1000000) : RgC 0 (g * s) s g.toNat := by
  have e : Builtin.Range.rangeSize 0 (g * s) s = g := by
    unfold Builtin.Range.rangeSize
    have gs : 0 < g * s := by
      have := Int.mul_le_mul g1 s1 (by decide) (by omega)
      omega
    rw [if_pos (by omega), if_pos gs, show g * s - 0 - 1 = (s - 1) + (g - 1) * s by grind, Int.add_mul_ediv_right _ _ (by omega), Int.ediv_eq_zero_of_lt (by omega) (by omega)]
    omega
  have gs0 : 0 ≤ g * s := Int.mul_nonneg (by omega) (by omega)
  have sl : s ≤ g * s := by
    have : 1 * s ≤ g * s := Int.mul_le_mul_of_nonneg_right g1 (by omega)
    omega
  have gl : g ≤ g * s := by
    have : g * 1 ≤ g * s := Int.mul_le_mul_of_nonneg_left s1 (by omega)
    omega
  refine ⟨by omega, by omega, ?_, by rw [e]; omega⟩
  unfold Builtin.Range.small
  rw [e]
  simp only [Builtin.Range.rangeFitsLong, Bool.and_eq_true, Bool.or_eq_true, decide_eq_true_eq, beq_iff_eq]
  generalize g * s = m at *
  rw [if_pos (show s > 0 by omega)]
  refine ⟨by omega, .inr ?_⟩
  rw [Bool.and_eq_true, decide_eq_true_iff, decide_eq_true_iff]
  omega
theorem crossW_snoc (hss : List (List Int)) (hs ws : List Int) : crossW (hss ++ [hs]) ws = crossW hss ws ++ ws.map fun w => hs ++ [w] := by
  unfold crossW
  rw [List.flatMap_append]
  simp
theorem crossW_len (ws : List Int) : ∀ hss : List (List Int), (crossW hss ws).length = hss.length * ws.length
  | [] => by simp [crossW]
  | hs :: hss => by
    have ih := crossW_len ws hss
    unfold crossW at ih ⊢
    rw [List.flatMap_cons, List.length_append, ih, List.length_map, List.length_cons, Nat.succ_mul]
    omega
theorem rowsW_snoc (ns : List Int) (n m : Int) : rowsW (ns ++ [n]) m = crossW (rowsW ns m) (wsC m n) := by
  unfold rowsW
  rw [List.foldl_append]
  rfl
theorem wsC_len {m n : Int} (m1 : 1 ≤ m) : (wsC m n).length = Int.gcd m n := by
  rw [← step_list m1, List.length_map, List.length_range]
theorem rowsW_len {m : Int} (m1 : 1 ≤ m) : ∀ ns : List Int, (∀ n ∈ ns, 1 ≤ n) → ((rowsW ns m).length : Int) ≤ prodL ns := by
  have key : ∀ (ns : List Int), (∀ n ∈ ns, 1 ≤ n) → ∀ hss : List (List Int), ((ns.foldl (fun hss n => crossW hss (wsC m n)) hss).length : Int) ≤ hss.length * prodL ns := by
    intro ns
    induction ns with
    | nil =>
      intro _ hss
      show (hss.length : Int) ≤ hss.length * 1
      omega
    | cons n ns ih =>
      intro o hss
      have n1 := o n List.mem_cons_self
      have h := ih (fun x hx => o x (List.mem_cons_of_mem _ hx)) (crossW hss (wsC m n))
      have gl : ((Int.gcd m n : Nat) : Int) ≤ n := Int.le_of_dvd (by omega) (Int.gcd_dvd_right ..)
      rw [crossW_len, wsC_len m1, Int.natCast_mul] at h
      rw [List.foldl_cons, prodL_cons]
      have p1 := prodL_pos fun x hx => o x (List.mem_cons_of_mem _ hx)
      refine Int.le_trans h ?_
      rw [Int.mul_assoc]
      exact Int.mul_le_mul_of_nonneg_left (Int.mul_le_mul_of_nonneg_right gl (by omega)) (by omega)
  intro ns o
  have := key ns o [[]]
  unfold rowsW
  simpa using this
theorem rowsW_four {ns ws : List Int} {m : Int} (h : ws ∈ rowsW ns m) : ws.length = ns.length := (rows_fit h).len

-- tupleorder
theorem lex_le : ∀ (i : Nat) (xs ys : List Int) (ns ms : List Int), xs.length = ys.length → (∀ j, ns.getD (i + j) 0 = xs.getD j 0) → (∀ j, ms.getD (i + j) 0 = ys.getD j 0) → Ob.lexAt (fun j => decide (ns.getD j 0 = ms.getD j 0)) (fun j => decide (ns.getD j 0 ≤ ms.getD j 0)) true i xs.length = decide (xs ≤ ys)
  | i, [], [], ns, ms, _, _, _ => by
    show true = _
    exact (decide_eq_true (List.le_refl _)).symm
  | i, x :: xs, y :: ys, ns, ms, l, hx, hy => by
    rw [List.length_cons, Ob.lexAt_succ]
    have h0 := hx 0
    have h1 := hy 0
    simp only [Nat.add_zero, List.getD_cons_zero] at h0 h1
    have ih := lex_le (i + 1) xs ys ns ms (Nat.succ.inj l) (fun j => by rw [Nat.add_assoc, Nat.add_comm 1 j, hx (j + 1), List.getD_cons_succ]) (fun j => by rw [Nat.add_assoc, Nat.add_comm 1 j, hy (j + 1), List.getD_cons_succ])
    rw [h0, h1, ih]
    by_cases e : x = y
    · subst e
      rw [if_pos (by simp)]
      refine decide_eq_decide.mpr ?_
      rw [← List.not_lt, ← List.not_lt, List.cons_lt_cons_iff]
      simp
    · rw [if_neg (by simpa using e)]
      refine decide_eq_decide.mpr ?_
      rw [← List.not_lt, List.cons_lt_cons_iff]
      constructor
      · rintro h (h2 | ⟨h2, _⟩)
        · omega
        · exact e h2.symm
      · intro h
        refine Classical.byContradiction fun z => h (.inl (by omega))
theorem lexT (ns ms : List Int) (l : ns.length = ms.length) : Ob.lexAt (fun j => decide (ns.getD j 0 = ms.getD j 0)) (fun j => decide (ns.getD j 0 ≤ ms.getD j 0)) (decide (ns.length ≤ ms.length)) 0 (min ns.length ms.length) = decide (ns ≤ ms) := by
  rw [decide_eq_true (show ns.length ≤ ms.length by omega), show min ns.length ms.length = ns.length by omega]
  exact lex_le 0 ns ms ns ms l (fun j => by rw [Nat.zero_add]) (fun j => by rw [Nat.zero_add])

theorem seat_lt : ∀ {ns q : List Int}, (∀ n ∈ ns, n ≤ 300) → SeatOk ns q → ∀ x ∈ q, 0 ≤ x ∧ x < 300
  | [], [], _, _ => fun x h => (nomatch h)
  | [], _ :: _, _, h => (h : False).elim
  | _ :: _, [], _, h => (h : False).elim
  | n :: ns, y :: q, b, h => fun x hx => by
    obtain ⟨h1, h2⟩ : (0 ≤ y ∧ y < n) ∧ SeatOk ns q := h
    rcases List.mem_cons.mp hx with rfl | hx
    · have := b n List.mem_cons_self
      omega
    · exact seat_lt (fun m hm => b m (List.mem_cons_of_mem _ hm)) h2 x hx

section
variable {P : Program} {w : World} {K : PySem.W.Frag} {mg : Str → Option Value} {base : Heap}
def sp_common_exponent : Sp := fun vs H Q _ => ∃ (a : Addr) (ns : List Int), vs = [.ref a] ∧ H a = some (.tup (ns.map V.int)) ∧ SzOk ns ∧ prodL ns ≤ 300 ∧ Q (.int (expoL ns)) H
theorem ok_common_exponent (T : TX K mg) : FnOk P w K mg base CX0 2 T.f_common_exponent T.fd_common_exponent ["sizes"] sp_common_exponent := by
  refine T.F_common_exponent.ok sc_common_exponent (fun vs H Q E h => ?_) (fun cdv A outer s H vs Q E hr h => ?_)
  · obtain ⟨a, ns, rfl, _⟩ := h
    rfl
  · obtain ⟨a, ns, rfl, ha, ok, pr, k⟩ := h
    refine ⟨_, (pss_cons (ps_set (i := 1) sc_common_exponent.nd rfl (Or.inl rfl) pe_int) (pss_cons (ps_for PassesOwn.never rfl (pi_tup (pv 0)) (pg_name (i := 2) sc_common_exponent.nd rfl (Or.inl rfl)) (pss_cons (ps_set (i := 3) sc_common_exponent.nd rfl (Or.inl rfl) (pe_op op_fdivW (pv 2) (pe_op op_and (pv 2) (pe_un un_neg (pv 2))))) (pss_one (ps_set (i := 1) sc_common_exponent.nd rfl (Or.inl rfl) (pe_op op_fdivW (pe_op op_mulI (pv 1) (pv 3)) (pe_call (ok_greatest_common_divisor T) hr rfl T.m_greatest_common_divisor T.F_greatest_common_divisor.kp T.b_greatest_common_divisor .nil pass0 (pa_cons (pv 1) (pa_cons (pv 3) pa_nil)))))))) (pss_one (ps_ret (pv 1))))), ?_⟩
    refine ⟨_, rfl, a, rfl, ⟨_, SqT.of ha⟩, ?_⟩
    refine for_it (walk_tup (xs := ns.map V.int)) (fun i σ Hx => (∃ y2 y3 : Option V, σ = [some (.ref a), some (.int (expoL (ns.take i))), y2, y3]) ∧ Hx = H) ⟨⟨_, _, rfl⟩, rfl⟩ (fun i σ Hx _ q => SqT.of (q.2 ▸ ha)) ?_ ?_
    · rintro i x σ _ Hx hi ⟨⟨y2, y3, rfl⟩, rfl⟩ ⟨rfl, hx⟩
      obtain ⟨n, hn, rfl⟩ := map_get hx
      have n1 := ok.one n (List.mem_of_getElem? hn)
      have nl := mul_le_of_mem ok.one (List.mem_of_getElem? hn)
      obtain ⟨⟨j, hj⟩, o1, o2, o3⟩ := oddI_ok n1
      have ea : oddI n = 2 * (oddI n / 2) + 1 := by omega
      have eb : Builtin.bitAnd n (-n) = 2 ^ j := by
        have := PySem.W.kbt_low j (oddI n / 2)
        rw [← ea, ← hj] at this
        exact this
      have p0 : (0 : Int) < 2 ^ j := Int.pow_pos (by decide)
      have pl : (2 : Int) ^ j ≤ n := by
        have := Int.mul_le_mul_of_nonneg_left (show 1 ≤ oddI n by omega) (show 0 ≤ (2 : Int) ^ j by omega)
        omega
      have e2 : n / Builtin.bitAnd n (-n) = oddI n := by
        rw [eb]
        conv => lhs; lhs; rw [hj]
        exact Int.mul_ediv_cancel_left _ (by omega)
      have E1 := expo_ok (ns := ns.take i) fun m hm => ok.one m (List.mem_of_mem_take hm)
      have e1 := E1.one
      have eP : expoL (ns.take i) ≤ 300 := by
        have h1 := Int.le_of_dvd (by have := prodL_pos (ns := ns.take i) fun m hm => ok.one m (List.mem_of_mem_take hm); omega) E1.dvd
        have h2 := prodL_take i ok.one
        omega
      have st : expoL (ns.take (i + 1)) = stepE (expoL (ns.take i)) n := by
        rw [take_more hn]
        unfold expoL
        rw [List.foldl_append]
        rfl
      dsimp only [gName]
      have pj : (2 : Int) ^ j ≤ 300 := by omega
      refine ⟨_, rfl, _, rfl, _, rfl, _, rfl, _, _, rfl, rfl, _, _, rfl, rfl, ?_, ?_⟩
      · rw [eb]
        exact wide_div (b := 9) (by omega) (show ((2 : Int) ^ j).natAbs < 2 ^ 9 by show _ < 512; omega) (by decide) (by decide)
      dsimp only [gName]
      rw [e2]
      have g1 : 1 ≤ Int.gcd (expoL (ns.take i)) (oddI n) := Int.gcd_pos_of_ne_zero_left _ (by omega)
      have g2 : ((Int.gcd (expoL (ns.take i)) (oddI n) : Nat) : Int) ≤ oddI n := Int.le_of_dvd (by omega) (Int.gcd_dvd_right ..)
      refine ⟨_, rfl, _, rfl, _, _, rfl, rfl, ?_, _, rfl, _, rfl, _, _, rfl, by omega, by omega, _, _, rfl, rfl, ?_, ⟨_, _, by rw [st]; rfl⟩, rfl⟩
      · exact (wide_mul (a := 40) (b := 40) (show (expoL (ns.take i)).natAbs < 2 ^ 40 by show _ < 1099511627776; omega) (show (oddI n).natAbs < 2 ^ 40 by show _ < 1099511627776; omega) (by decide) (by decide) (by decide)).ok
      · refine wide_div (b := 9) ?_ (show (gcdI (expoL (ns.take i)) (oddI n)).natAbs < 2 ^ 9 by show Int.gcd (expoL (ns.take i)) (oddI n) < 512; omega) (by decide) (by decide)
        show (0 : Int) < ((Int.gcd (expoL (ns.take i)) (oddI n) : Nat) : Int)
        omega
    rintro σ Hx ⟨⟨y2, y3, rfl⟩, rfl⟩
    have e : ns.take (ns.map V.int).length = ns := by rw [List.length_map, List.take_length]
    rw [e]
    exact ⟨_, rfl, k⟩
def sp_weight_rows : Sp := fun vs H Q _ => ∃ (a : Addr) (ns : List Int) (m : Int), vs = [.ref a, .int m] ∧ H a = some (.tup (ns.map V.int)) ∧ SzOk ns ∧ prodL ns ≤ 300 ∧ 1 ≤ m ∧ m ≤ 300 ∧ ∀ q H2, Ex H H2 → H q = none → RowsAt H2 q (rowsW ns m) → Q (.ref q) H2
theorem ok_weight_rows (T : TX K mg) : FnOk P w K mg base CX0 2 T.f_weight_rows T.fd_weight_rows ["sizes", "modulus"] sp_weight_rows := by
  refine T.F_weight_rows.ok sc_weight_rows (fun vs H Q E h => ?_) (fun cdv A outer s H vs Q E hr h => ?_)
  · obtain ⟨a, ns, m, rfl, _⟩ := h
    rfl
  · obtain ⟨a, ns, m, rfl, ha, ok, pr, m1, m3, k⟩ := h
    refine ⟨_, (pss_cons (ps_set (i := 2) sc_weight_rows.nd rfl (Or.inl rfl) (pe_lst (pa_cons (pe_tup pa_nil) pa_nil))) (pss_cons (ps_for PassesOwn.never rfl (pi_tup (pv 0)) (pg_name (i := 3) sc_weight_rows.nd rfl (Or.inl rfl)) (pss_cons (ps_set (i := 4) sc_weight_rows.nd rfl (Or.inr rfl) (pe_op op_fdivW (pv 1) (pe_call (ok_greatest_common_divisor T) hr rfl T.m_greatest_common_divisor T.F_greatest_common_divisor.kp T.b_greatest_common_divisor .nil pass0 (pa_cons (pv 1) (pa_cons (pv 3) pa_nil))))) (pss_one (ps_setLc2 (own := [("start", 5), ("weight", 6)]) (g := (gName 5)) (g1 := (gName 6)) (vs1 := [6]) (i := 2) rfl sc_weight_rows.nd rfl rfl (sw_true rfl rfl rfl (by decide +kernel)) (pi_list (pv 2)) (blkOk_by (N := N_weight_rows) (sc := defScope s_weight_rows) (by decide +kernel)) (by decide) (fun _ _ _ _ _ => (pg_name (i := 5) sc_weight_rows.nd rfl (Or.inl rfl))) (fun _ _ _ _ _ => pts_nil) (fun _ _ _ _ _ => (pi_range3 rfl T.z_range (pa_cons pe_int (pa_cons (pv 1) (pa_cons (pv 4) pa_nil))))) (fun _ _ _ _ _ => (pg_name (i := 6) sc_weight_rows.nd rfl (Or.inl rfl))) (fun _ _ _ _ _ => pts_nil) (fun _ _ _ _ _ => (pe_op (r := rCatA K) op_catA (pv 5) (pe_tup (pa_cons (pv 6) pa_nil)))))))) (pss_one (ps_ret (pv 2))))), ?_⟩
    have l4 := ok.le
    refine ⟨by show 0 ≤ sizeLine; decide, fun u hu => ⟨by show 1 ≤ sizeLine; decide, fun f hf => ?_⟩⟩
    have e2 : Ex H (upd (upd H u (.tup [])) f (.lst [.ref u])) := ext (exn hu) (exn hf)
    have f0 : H f = none := Evl.fresh_back (exn hu) hf
    refine ⟨_, rfl, a, rfl, ⟨_, SqT.of (e2 _ _ ha)⟩, ?_⟩
    refine for_it (walk_tup (xs := ns.map V.int)) (fun i σ H2 => ∃ (f : Addr) (y1 y2 y3 y4 : Option V), σ = [some (.ref a), some (.int m), some (.ref f), y1, y2, y3, y4] ∧ Ex H H2 ∧ H f = none ∧ RowsAt H2 f (rowsW (ns.take i) m)) ⟨_, _, _, _, _, rfl, e2, f0, _, upd_same, .cons ⟨u, rfl, by rw [upd_ne (ne_of_none upd_same hf)]; exact upd_same⟩ .nil⟩ (fun i σ Hx _ ⟨_, _, _, _, _, _, e, _⟩ => SqT.of (e _ _ ha)) ?_ ?_
    · rintro i x σ _ H4 hi ⟨f, y1, y2, y3, y4, rfl, e4, f0, ra⟩ ⟨rfl, hx⟩
      obtain ⟨n, hn, rfl⟩ := map_get hx
      have n1 := ok.one n (List.mem_of_getElem? hn)
      have o1 : ∀ k ∈ ns.take i, 1 ≤ k := fun k hk => ok.one k (List.mem_of_mem_take hk)
      have len : ((rowsW (ns.take i) m).length : Int) ≤ 300 := by
        have h1 := rowsW_len m1 (ns.take i) o1
        have h2 := prodL_take i ok.one
        omega
      have rows : ∀ hs ∈ rowsW (ns.take i) m, hs.length ≤ 4 := fun hs hh => by
        rw [rowsW_four hh, List.length_take]
        omega
      have nx : rowsW (ns.take (i + 1)) m = crossW (rowsW (ns.take i) m) (wsC m n) := by rw [take_more hn, rowsW_snoc]
      obtain ⟨xs, ra5, rr⟩ := ra
      generalize hh : rowsW (ns.take i) m = hss at rr len rows nx
      have g1 : 1 ≤ Int.gcd m n := Int.gcd_pos_of_ne_zero_left _ (by omega)
      have gm : ((Int.gcd m n : Nat) : Int) ≤ m := Int.le_of_dvd (by omega) (Int.gcd_dvd_left ..)
      have hmul : gcdI m n * (m / gcdI m n) = m := Int.mul_ediv_cancel' (Int.gcd_dvd_left ..)
      have sl := step_list (n := n) m1
      have lw := wsC_len (n := n) m1
      dsimp only [gName]
      refine ⟨_, rfl, _, rfl, _, rfl, m, n, rfl, by omega, by omega, _, _, rfl, rfl, ?_, ?_⟩
      · refine wide_div (b := 9) ?_ (show (gcdI m n).natAbs < 2 ^ 9 by show Int.gcd m n < 512; omega) (by decide) (by decide)
        show (0 : Int) < ((Int.gcd m n : Nat) : Int)
        omega
      dsimp only [gName]
      have s1 : 1 ≤ m / gcdI m n := by
        refine Classical.byContradiction fun no => ?_
        have : gcdI m n * (m / gcdI m n) ≤ gcdI m n * 0 := Int.mul_le_mul_of_nonneg_left (by omega) (by show (0 : Int) ≤ ((Int.gcd m n : Nat) : Int); omega)
        omega
      generalize hs : m / gcdI m n = s at *
      refine ⟨_, rfl, f, rfl, ⟨_, SqL.of ra5⟩, fun D hD => ?_⟩
      refine lc2_it (walk_list (xs := xs)) (fun j Hx => Ex H4 Hx ∧ RowsAt Hx D (crossW (hss.take j) (wsC m n))) ⟨exn hD, _, upd_same, .nil⟩ (fun j Hx _ q => SqL.of (q.1 _ _ ra5)) ?_ ?_
      · rintro j x _ H5 hj ⟨e5, rb⟩ ⟨rfl, hx⟩
        obtain ⟨ps, r, hhs, rfl, hr4⟩ := rr.get hx
        refine ⟨rfl, ?_⟩
        have rg : RgC 0 m s (Int.gcd m n) := by
          have := rgc_div (g := gcdI m n) (s := s) (by show (1 : Int) ≤ ((Int.gcd m n : Nat) : Int); omega) s1 (by rw [hmul]; omega)
          rw [hmul] at this
          exact this
        have lps := rows ps (List.mem_of_getElem? hhs)
        refine ⟨_, rfl, _, rfl, 0, m, s, Int.gcd m n, rfl, rg, ?_⟩
        refine in_it walk_rangeC (fun l Hx => Ex H4 Hx ∧ RowsAt Hx D (crossW (hss.take j) (wsC m n) ++ (List.range l).map fun (i : Nat) => ps ++ [(0 : Int) + (i : Int) * s])) ⟨e5, ?_⟩ (fun _ _ _ _ => True.intro) ?_ ?_
        · rw [List.range_zero, List.map_nil, List.append_nil]
          exact rb
        · rintro l x _ H7 hl ⟨e7, rc⟩ ⟨rfl, rfl⟩
          refine ⟨rfl, ?_⟩
          refine ⟨_, rfl, _, rfl, by show 1 ≤ sizeLine; decide, fun u hu => ?_⟩
          refine cat_row (exn hu _ _ (e7 _ _ hr4)) upd_same (Nat.le_trans lps (by decide)) fun v H8 e8 hv => ?_
          have e8' : Ex H7 H8 := ext (exn hu) e8
          obtain ⟨acc, b1, b2, b3⟩ := rows_push (rc.mono e8') hv
          refine ⟨acc, b1, ?_, ex_upd (ext e7 e8') hD, ?_⟩
          · rw [b2, List.length_append, crossW_len, List.length_map, List.length_range, List.length_take, lw]
            have : min j hss.length * Int.gcd m n ≤ 300 * 300 := Nat.mul_le_mul (by omega) (by omega)
            have hl' : l < Int.gcd m n := hl
            exact Nat.lt_of_le_of_lt (show _ ≤ 90300 by omega) (by decide)
          · rw [List.range_succ, List.map_append, ← List.append_assoc]
            exact b3
        · rintro Hz ⟨ez, rz⟩
          refine ⟨ez, ?_⟩
          have em : ((wsC m n).map fun w => ps ++ [w]) = (List.range (Int.gcd m n)).map fun (i : Nat) => ps ++ [(0 : Int) + (i : Int) * s] := by
            rw [← sl, List.map_map]
            rfl
          rw [take_more hhs, crossW_snoc, em]
          exact rz
      · rintro Hz ⟨ez, rz⟩
        rw [List.take_of_length_le (by have := Paired.length rr; omega)] at rz
        refine ⟨D, _, _, _, _, rfl, ext e4 ez, Evl.fresh_back e4 hD, ?_⟩
        rw [nx]
        exact rz
    · rintro σ H2 ⟨f, y1, y2, y3, y4, rfl, e, f0, ra⟩
      rw [List.take_of_length_le (by simp)] at ra
      exact ⟨_, rfl, k f H2 e f0 ra⟩
def sp_units_of : Sp := fun vs H Q _ => ∃ (m : Int), vs = [.int m] ∧ 1 ≤ m ∧ m ≤ 300 ∧ ∀ q H2, Ex H H2 → H2 q = some (.lst ((unitsL 2 m).map V.int)) → Q (.ref q) H2
theorem ok_units_of (T : TX K mg) : FnOk P w K mg base CX0 2 T.f_units_of T.fd_units_of ["modulus"] sp_units_of := by
  refine T.F_units_of.ok sc_units_of (fun vs H Q E h => ?_) (fun cdv A outer s H vs Q E hr h => ?_)
  · obtain ⟨m, rfl, _⟩ := h
    rfl
  · obtain ⟨m, rfl, m1, m3, k⟩ := h
    refine ⟨_, (pss_one (ps_ret (pe_lc (own := [("unit", 1)]) (g := (gName 1)) rfl sc_units_of.nd (pi_range2 rfl T.z_range (pa_cons pe_int (pa_cons (pv 0) pa_nil))) (blkOk_by (N := N_units_of) (sc := defScope s_units_of) (by decide +kernel)) (fun _ _ _ _ _ => (pg_name (i := 1) sc_units_of.nd rfl (Or.inl rfl))) (fun _ _ _ _ _ => (pts_one (pt_cmpR op_eq (pe_call (ok_greatest_common_divisor T) hr rfl T.m_greatest_common_divisor T.F_greatest_common_divisor.kp T.b_greatest_common_divisor .nil pass0 (pa_cons (pv 1) (pa_cons (pv 0) pa_nil))) pe_int (nomark _)))) (fun _ _ _ _ _ => (pv 1))))), ?_⟩
    refine ⟨_, rfl, 2, m, rfl, by omega, fun D hD => ?_⟩
    refine lc_filt walk_range ((List.range (m - 2).toNat).map fun (i : Nat) => (2 : Int) + (i : Int)) (fun u => decide (gcdI u m = 1)) V.int (by simp) (by omega) hD (fun _ _ => True.intro) ?_ ?_
    · rintro i x u Ha Hb R S hu ea ⟨e0, e1⟩ kR kS
      subst e0 e1
      rw [List.getElem?_map] at hu
      obtain ⟨j, hj, rfl⟩ := Option.map_eq_some_iff.mp hu
      obtain ⟨_, ej⟩ := List.getElem?_eq_some_iff.mp hj
      rw [List.getElem_range] at ej
      subst ej
      refine ⟨rfl, _, rfl, _, rfl, _, _, rfl, by omega, by omega, rfl, _, rfl, ?_⟩
      by_cases c : gcdI (2 + (i : Int)) m = 1
      · exact itt (decide_eq_true (congrArg V.int c)) ⟨_, rfl, kR _ _ exr (decide_eq_true c) rfl⟩
      · exact itf (decide_eq_false fun z => c (V.int.inj z)) (kS _ exr (decide_eq_false c))
    · intro H2 e2 hD2
      exact k D H2 e2 hD2
def sp_is_canonical : Sp := fun vs H Q _ => ∃ (m : Int) (u a : Addr) (ws : List Int), vs = [.int m, .ref u, .ref a] ∧ 1 ≤ m ∧ m ≤ 300 ∧ H u = some (.lst ((unitsL 2 m).map V.int)) ∧ H a = some (.tup (ws.map V.int)) ∧ ws.length ≤ 4 ∧ (∀ x ∈ ws, 0 ≤ x ∧ x < m) ∧ ∀ H2, Ex H H2 → Q (.bl (canonB m ws)) H2
theorem ok_is_canonical (T : TX K mg) : FnOk P w K mg base CX0 2 T.f_is_canonical T.fd_is_canonical ["modulus", "units", "weights"] sp_is_canonical := by
  refine T.F_is_canonical.ok sc_is_canonical (fun vs H Q E h => ?_) (fun cdv A outer s H vs Q E hr h => ?_)
  · obtain ⟨m, u, a, ws, rfl, _⟩ := h
    rfl
  · obtain ⟨m, u, a, ws, rfl, m1, m3, hu, ha, l4, wb, k⟩ := h
    refine ⟨_, (pss_cons (ps_set (i := 3) sc_is_canonical.nd rfl (Or.inl rfl) (pv 0)) (pss_cons (ps_for PassesOwn.never rfl (pi_tup (pv 2)) (pg_name (i := 4) sc_is_canonical.nd rfl (Or.inl rfl)) (pss_one (ps_set (i := 3) sc_is_canonical.nd rfl (Or.inl rfl) (pe_call (ok_greatest_common_divisor T) hr rfl T.m_greatest_common_divisor T.F_greatest_common_divisor.kp T.b_greatest_common_divisor .nil pass0 (pa_cons (pv 3) (pa_cons (pv 4) pa_nil)))))) (pss_one (ps_ret (pe_and (pe_cmpR op_eq (pv 3) pe_int (nomark _)) (pe_one (pe_callB (cr_all rfl) (by rfl) T.z_all (by decide +kernel) (pa_cons (pe_lc (own := [("unit", 5)]) (g := (gName 5)) rfl sc_is_canonical.nd (pi_list (pv 1)) (blkOk_by (N := N_is_canonical) (sc := defScope s_is_canonical) (by decide +kernel)) (fun _ _ _ _ _ => (pg_name (i := 5) sc_is_canonical.nd rfl (Or.inr rfl))) (fun _ _ _ _ _ => pts_nil) (fun _ _ _ _ _ => (pe_cmpR (r := rLeT K) (op_leT hr.units0) (pv 2) (pe_callTy (r := rTupleQ K) call_tuple_of (by rfl) T.z_tuple (by decide +kernel) (pa_cons (pe_lc (wi := iTup K _) (own := [("weight", 4)]) (g := (gName 4)) rfl sc_is_canonical.nd (pi_tup (pv 2)) (blkOk_by (N := N_is_canonical) rfl) (fun _ _ _ _ _ => (pg_name (i := 4) sc_is_canonical.nd rfl (Or.inl rfl))) (fun _ _ _ _ _ => pts_nil) (fun _ _ _ _ _ => (pe_op op_mod (pe_op op_mulI (pv 5) (pv 4)) (pv 0)))) pa_nil)) (nomark _)))) pa_nil)))))))), ?_⟩
    refine ⟨_, rfl, _, rfl, ?_⟩
    refine ⟨a, rfl, ⟨_, SqT.of ha⟩, ?_⟩
    refine for_it (walk_tup (xs := ws.map V.int)) (fun i σ Hx => (∃ y4 y5 : Option V, σ = [some (.int m), some (.ref u), some (.ref a), some (.int (gcdW m (ws.take i))), y4, y5]) ∧ Hx = H) ⟨⟨_, _, rfl⟩, rfl⟩ (fun i σ Hx _ q => SqT.of (q.2 ▸ ha)) ?_ ?_
    · rintro i x σ _ Hx hi ⟨⟨y4, y5, rfl⟩, rfl⟩ ⟨rfl, hx⟩
      obtain ⟨n, hn, rfl⟩ := map_get hx
      have g0 := gcdW_nn (ws.take i) m (by omega)
      have n0 := (wb n (List.mem_of_getElem? hn)).1
      have st : gcdW m (ws.take (i + 1)) = gcdI (gcdW m (ws.take i)) n := by
        rw [take_more hn]
        unfold gcdW
        rw [List.foldl_append]
        rfl
      dsimp only [gName]
      exact ⟨_, rfl, _, rfl, _, _, rfl, g0, n0, ⟨_, _, by rw [st]; rfl⟩, rfl⟩
    rintro σ Hx ⟨⟨y4, y5, rfl⟩, rfl⟩
    rw [show ws.take (ws.map V.int).length = ws by rw [List.length_map, List.take_length]]
    have g0 := gcdW_nn ws m (by omega)
    have lun : (unitsL 2 m).length ≤ 300 := by
      refine Nat.le_trans (List.length_filter_le _ _) ?_
      rw [List.length_map, List.length_range]
      omega
    have ub : ∀ x ∈ unitsL 2 m, 0 ≤ x ∧ x < 300 := fun x hx => by
      obtain ⟨i, hi, rfl⟩ := List.mem_map.mp (List.mem_filter.mp hx).1
      have := List.mem_range.mp hi
      omega
    dsimp only
    refine ⟨_, rfl, rfl, _, rfl, ?_⟩
    by_cases g : gcdW m ws = 1
    rotate_left
    · refine itf (by rw [dec_int]; simpa using g) ?_
      have := k Hx exr
      unfold canonB at this
      rw [decide_eq_false g, Bool.false_and] at this
      exact this
    refine itt (by rw [dec_int]; simpa using g) ?_
    have ec : canonB m ws = ((unitsL 2 m).map fun x => decide (ws ≤ mulM x m ws)).all id := by
      unfold canonB
      rw [decide_eq_true g, Bool.true_and, List.all_map]
      rfl
    refine ⟨_, rfl, u, rfl, ⟨_, SqL.of hu⟩, fun D hD => ?_⟩
    refine lc_vals (walk_list (xs := (unitsL 2 m).map V.int)) (((unitsL 2 m).map fun x => decide (ws ≤ mulM x m ws)).map V.bl) (by simp) (by rw [List.length_map]; omega) hD (fun _ e => SqL.of (e _ _ hu)) ?_ gmono_name ?_
    · rintro i x Ha Hb R hi ea ⟨e0, hx⟩ kk
      subst e0
      obtain ⟨z, hz, rfl⟩ := map_get hx
      have zb := ub z (List.mem_of_getElem? hz)
      have hab := ea _ _ ha
      refine ⟨rfl, ?_⟩
      refine ⟨_, rfl, _, rfl, a, rfl, ⟨_, SqT.of hab⟩, fun D2 hD2 => ?_⟩
      refine lc_vals (walk_tup (xs := ws.map V.int)) ((mulM z m ws).map V.int) (by unfold mulM; simp) (by rw [List.length_map]; omega) hD2 (fun _ e => SqT.of (e _ _ hab)) ?_ gmono_name ?_
      · rintro j y Hc Hd R2 hj ec2 ⟨e1, hy⟩ kk2
        subst e1
        obtain ⟨v, hv, rfl⟩ := map_get hy
        have vb := wb v (List.mem_of_getElem? hv)
        refine ⟨rfl, ?_⟩
        refine ⟨_, rfl, _, rfl, _, _, rfl, rfl, ?_, _, rfl, _, _, rfl, rfl, by omega, kk2 _ _ exr ?_⟩
        · exact (wide_mul (a := 40) (b := 40) (show z.natAbs < 2 ^ 40 by show _ < 1099511627776; omega) (show v.natAbs < 2 ^ 40 by show _ < 1099511627776; omega) (by decide) (by decide) (by decide)).ok
        unfold mulM
        rw [List.getElem?_map, List.getElem?_map, hv]
        rfl
      intro He ee hDe
      refine ⟨D2, _, rfl, .inl ⟨SqL.of hDe, ?_⟩⟩
      (intro t2 nt2; generalize hGt2 : upd _ t2 _ = Hf; have eHf := exG hGt2 nt2; have ht2 := atG hGt2; clear hGt2)
      refine ⟨a, t2, ws, mulM z m ws, rfl, rfl, SqT.of ((ext ea (ext ee eHf)) _ _ ha), SqT.of ht2, ?_⟩
      rw [lexT _ _ (by unfold mulM; rw [List.length_map])]
      refine kk _ _ (ext ee eHf) ?_
      rw [List.getElem?_map, List.getElem?_map, hz]
      rfl
    intro H2 e2 hD2
    refine ⟨D, _, rfl, SqL.of hD2, ?_⟩
    rw [← ec]
    exact k H2 e2
def sp_explains (C : Addr) : Sp := fun vs H Q _ => ∃ (a v t : Addr) (q : Bool × Addr) (ns p : List Int) (ms : List (List Int × Bool)) (w3 : W3), vs = [.ref a, .ref v, .ref q.2, .ref t] ∧ TabAt C H a ns ∧ SzOk ns ∧ prodL ns ≤ 300 ∧ RowsAt H v (walkL ns p ms) ∧ SeatOk ns p ∧ MovQ H q ms ∧ ms.length ≤ 1000 ∧ (∀ c ∈ ms, c.1.length = ns.length) ∧ WitAt H t w3.1 w3.2.1 w3.2.2 ∧ 1 ≤ w3.1 ∧ w3.1 ≤ 300 ∧ FitW ns w3.1 w3.2.1 ∧ ∀ H2, Ex H H2 → Q (.bl (explB ns p ms w3)) H2
theorem ok_explains (T : TX K mg) : FnOk P w K mg base CX0 6 T.f_explains T.fd_explains ["table", "visited", "moves", "witness"] (sp_explains T.C_Table) := by
  refine T.F_explains.ok sc_explains (fun vs H Q E h => ?_) (fun cdv A outer s H vs Q E hr h => ?_)
  · obtain ⟨a, v, t, q, ns, p, ms, w3, rfl, _⟩ := h
    rfl
  · obtain ⟨a, v, t, q, ns, p, ms, ⟨m, ws, r⟩, rfl, tab, ok, pr, hv, skp, hq, lms, cl, ⟨wa, ht, hwa⟩, m1, m3, F, k⟩ := h
    refine ⟨_, (pss_cons (ps_asg (pv 3) (pg_tup rfl (pgs_cons (pg_name (i := 4) sc_explains.nd rfl (Or.inl rfl)) (pgs_cons (pg_name (i := 5) sc_explains.nd rfl (Or.inl rfl)) (pgs_cons (pg_name (i := 6) sc_explains.nd rfl (Or.inl rfl)) pgs_nil))))) (pss_cons (ps_if (pt_cmpR op_eq (pe_call (ok_weighted T) (hr.mono (by decide)) rfl T.m_weighted T.F_weighted.kp T.b_weighted .nil pass0 (pa_cons (pv 4) (pa_cons (pv 5) (pa_cons (pe_ix ix_list (pv 1) pe_int (fun _ _ => rfl)) pa_nil)))) (pv 6) (nomark _)) (pss_one (ps_ret pe_bl)) pss_nil) (pss_cons (ps_for PassesOwn.never rfl (CE.pi_e rfl T.z_enumerate (pa_cons (pv 2) pa_nil)) (pg_tup rfl (pgs_cons (pg_name (i := 7) sc_explains.nd rfl (Or.inl rfl)) (pgs_cons (pg_tup rfl (pgs_cons (pg_name (i := 8) sc_explains.nd rfl (Or.inl rfl)) (pgs_cons (pg_name (i := 9) sc_explains.nd rfl (Or.inl rfl)) pgs_nil))) pgs_nil))) (pss_cons (ps_set (i := 10) sc_explains.nd rfl (Or.inl rfl) (pe_ix ix_tup (pe_meth (pv 0) T.cl_Table T.me_Table_moves (ok_Table_moves T) hr T.b_Table_moves .nil pass0 (pa_cons (pe_ix ix_list (pv 1) (pv 7) (fun _ _ => rfl)) (pa_cons (pv 8) pa_nil))) pe_int (fun _ _ => rfl))) (pss_one (ps_if (pt_cmpR op_ne (pe_cmpR op_eq (pe_call (ok_weighted T) (hr.mono (by decide)) rfl T.m_weighted T.F_weighted.kp T.b_weighted .nil pass0 (pa_cons (pv 4) (pa_cons (pv 5) (pa_cons (pv 10) pa_nil)))) (pv 6) (nomark _)) (pe_cmpR op_eq (pv 9) pe_str (nomark _)) (nomark _)) (pss_one (ps_ret pe_bl)) pss_nil)))) (pss_one (ps_ret pe_bl))))), ?_⟩
    have l4 := ok.le
    refine ⟨_, rfl, t, _, rfl, SqT.of ht, rfl, _, _, rfl, _, _, rfl, _, _, rfl, rfl, ?_⟩
    obtain ⟨xs, hx0, rx⟩ := id hv
    obtain ⟨us, hqs, rm⟩ := id hq
    have lx : xs.length = ms.length + 1 := rx.len.trans (walk_len _ _ _)
    have lu : us.length = ms.length := rm.len
    have wb : ∀ x ∈ ws, x.natAbs < 2 ^ 5000 := fun x hx => by
      have := F.w0 x hx
      exact Nat.lt_of_lt_of_le (show x.natAbs < 2 ^ 9 by show _ < 512; dsimp only at m3; omega) (Nat.pow_le_pow_right (by decide) (by decide))
    have pb : ∀ z : List Int, SeatOk ns z → ∀ x ∈ z, x.natAbs < 2 ^ 5000 := fun z sz x hx => by
      have := seat_lt (fun n hn => by have := mul_le_of_mem ok.one hn; omega) sz x hx
      exact Nat.lt_of_lt_of_le (show x.natAbs < 2 ^ 9 by show _ < 512; omega) (Nat.pow_le_pow_right (by decide) (by decide))
    have wget : ∀ i, i ≤ ms.length → (walkL ns p ms)[i]? = some (posL ns p (ms.take i)) := fun i hi => by
      unfold walkL
      rw [List.getElem?_map, List.getElem?_range (by omega)]
      rfl
    have vget : ∀ i, i ≤ ms.length → ∃ r0, xs[i]? = some (.ref r0) ∧ H r0 = some (.tup ((posL ns p (ms.take i)).map V.int)) := fun i hi => by
      obtain ⟨v0, h0⟩ : ∃ v0, xs[i]? = some v0 := ⟨_, List.getElem?_eq_getElem (by omega)⟩
      obtain ⟨z, r0, hz, rfl, h1⟩ := rx.get h0
      rw [wget i hi] at hz
      obtain rfl := Option.some.inj hz
      exact ⟨r0, h0, h1⟩
    obtain ⟨r0, g0, g1⟩ := vget 0 (by omega)
    dsimp only
    refine ⟨_, rfl, _, rfl, _, rfl, v, _, _, _, rfl, rfl, SqL.of hx0, L2.atI_nat (j := 0) g0, m, wa, r0, ws, p, rfl, by dsimp only at m1; omega, hwa, g1, by rw [F.len, skp.len], by rw [skp.len]; exact l4, wb, pb p skp, fun H1 e1 => ?_⟩
    refine ⟨_, rfl, rfl, _, rfl, ?_⟩
    by_cases c0 : wsum ws p % m = r
    · refine itt (by show decide (V.int (wsum ws p % m) = V.int r) = true; rw [c0]; simp) ?_
      have := k H1 e1
      unfold explB at this
      rw [show (decide (wsum ws p % m ≠ r)) = false from decide_eq_false fun z => z c0, Bool.false_and] at this
      exact this
    refine itf (by show decide (V.int (wsum ws p % m) = V.int r) = false; rw [dec_int]; simpa using c0) ?_
    have ee : explB ns p ms (m, ws, r) = explM ns m r ws p ms := by
      unfold explB
      rw [decide_eq_true (show wsum ws p % m ≠ r from c0), Bool.true_and]
    rw [ee] at k
    dsimp only [tNext]
    refine ⟨_, rfl, q, rfl, ⟨_, (hqs.mono e1).sq⟩, ?_⟩
    refine for_it (CE.walk_e (xs := us)) (fun i σ Hx => (∃ y7 y8 y9 y10 : Option V, σ = [some (.ref a), some (.ref v), some (.ref q.2), some (.ref t), some (.int m), some (.ref wa), some (.int r), y7, y8, y9, y10]) ∧ Ex H Hx ∧ explM ns m r ws p ms = explM ns m r ws (posL ns p (ms.take i)) (ms.drop i)) ⟨⟨_, _, _, _, rfl⟩, e1, rfl⟩ (fun i σ Hx _ z => (hqs.mono z.2.1).sq) ?_ ?_
    · rintro i x σ H3 H4 hi ⟨⟨y7, y8, y9, y10, rfl⟩, e3, em⟩ ⟨Ta, x1, x2, rfl, hT, rfl, hx1, hx2⟩
      cases hx1
      obtain ⟨c, hci, mr, cr, rfl, hmr, hcr⟩ := paired_get rm hx2
      have il : i < ms.length := (List.getElem?_eq_some_iff.mp hci).1
      have e4 : Ex H (upd H3 Ta (.tup [.int (i : Nat), .ref mr])) := ext e3 (exn hT)
      have lc := cl c (List.mem_of_getElem? hci)
      obtain ⟨ri, gi, hi2⟩ := vget i (by omega)
      have skq : SeatOk ns (posL ns p (ms.take i)) := pos_ok ok.one skp fun d hd => cl d (List.mem_of_mem_take hd)
      have ed : ms.drop i = c :: ms.drop (i + 1) := by
        rw [List.drop_eq_getElem_cons il]
        congr 1
        have := List.getElem?_eq_getElem il
        rw [hci] at this
        exact (Option.some.inj this).symm
      have nx : posL ns p (ms.take (i + 1)) = shiftL ns (posL ns p (ms.take i)) c.1 (sgD c.2) := by
        rw [take_more hci, pos_snoc]
      refine ⟨Ta, _, rfl, SqT.of upd_same, rfl, _, _, rfl, _, _, rfl, mr, _, rfl, SqT.of (e4 _ _ hmr), rfl, _, _, rfl, _, _, rfl, rfl, rfl, ?_⟩
      dsimp only [gName]
      obtain ⟨dt, tt, gt1, gt2⟩ := id (tab.mono e4)
      refine ⟨_, rfl, a, dt, _, rfl, gt1, rfl, _, rfl, _, rfl, v, _, _, _, rfl, rfl, SqL.of (e4 _ _ hx0), L2.atI_nat gi, _, rfl, a, ri, cr, ns, posL ns p (ms.take i), c.1, rfl, tab.mono e4, ok, e4 _ _ hi2, e4 _ _ hcr, skq, lc, fun H5 qq f b e5 nqq nf nb hqq hf hb => ?_⟩
      refine ⟨qq, _, _, _, rfl, rfl, SqT.of hqq, rfl, ?_⟩
      have e6 : Ex H H5 := ext e4 e5
      have skf : SeatOk ns (shiftL ns (posL ns p (ms.take i)) c.1 1) := shift_seat ok.one skq.len lc
      dsimp only [gName]
      refine ⟨_, rfl, _, rfl, _, rfl, m, wa, f, ws, shiftL ns (posL ns p (ms.take i)) c.1 1, rfl, by dsimp only at m1; omega, e6 _ _ hwa, hf, by rw [F.len, skf.len], by rw [skf.len]; exact l4, wb, pb _ skf, fun H6 e7 => ?_⟩
      have e8 := ext e6 e7
      refine ⟨_, rfl, rfl, _, rfl, rfl, rfl, _, rfl, ?_⟩
      have est : explM ns m r ws p ms = ((decide (wsum ws (shiftL ns (posL ns p (ms.take i)) c.1 1) % m = r) == c.2) && explM ns m r ws (posL ns p (ms.take (i + 1))) (ms.drop (i + 1))) := by
        rw [em, ed, nx]
        rfl
      have etest : (!decide (V.bl (decide (V.int (wsum ws (shiftL ns (posL ns p (ms.take i)) c.1 1) % m) = V.int r)) = V.bl (decide (V.str (dirS c.2) = V.str "backward")))) = !(decide (wsum ws (shiftL ns (posL ns p (ms.take i)) c.1 1) % m = r) == c.2) := by
        rw [show decide (V.int (wsum ws (shiftL ns (posL ns p (ms.take i)) c.1 1) % m) = V.int r) = decide (wsum ws (shiftL ns (posL ns p (ms.take i)) c.1 1) % m = r) from decide_eq_decide.mpr ⟨V.int.inj, congrArg V.int⟩]
        generalize decide (wsum ws (shiftL ns (posL ns p (ms.take i)) c.1 1) % m = r) = z
        cases z <;> cases c.2 <;> decide +kernel
      cases hz : (decide (wsum ws (shiftL ns (posL ns p (ms.take i)) c.1 1) % m = r) == c.2) with
      | true =>
        rw [hz, Bool.true_and] at est
        exact itf (etest.trans (by rw [hz]; rfl)) ⟨⟨_, _, _, _, rfl⟩, e8, est⟩
      | false =>
        rw [hz, Bool.false_and] at est
        have := k H6 e8
        rw [est] at this
        exact itt (etest.trans (by rw [hz]; rfl)) this
    rintro σ H3 ⟨⟨y7, y8, y9, y10, rfl⟩, e3, em⟩
    have := k H3 e3
    rw [em, List.drop_of_length_le (by omega)] at this
    exact this
end

def PdW (H : Hp) (v : V) (w3 : W3) : Prop := ∃ t, v = .ref t ∧ WitAt H t w3.1 w3.2.1 w3.2.2
theorem pdw_mono (H H2 : Hp) (v : V) (w3 : W3) (e : ∀ c xs, H c = some (.tup xs) → H2 c = some (.tup xs)) (h : PdW H v w3) : PdW H2 v w3 := by
  obtain ⟨t, rfl, wa, h1, h2⟩ := h
  exact ⟨t, rfl, wa, e _ _ h1, e _ _ h2⟩
theorem rgc_odd {n : Int} (n0 : 0 ≤ n) (h : n ≤ 300) : RgC 3 (n + 1) 2 ((n - 1) / 2).toNat := by
  have key : ∀ m : Fin 301, (Builtin.Range.small 3 ((m.val : Int) + 1) 2 && decide (Builtin.Range.rangeSize 3 ((m.val : Int) + 1) 2 = ((((m.val : Int) - 1) / 2).toNat : Int))) = true := by decide +kernel
  obtain ⟨k, rfl⟩ := Int.eq_ofNat_of_zero_le n0
  have q := key ⟨k, by omega⟩
  rw [Bool.and_eq_true, decide_eq_true_eq] at q
  exact ⟨by decide, by decide, q.1, q.2⟩
/-- a list of witnesses -/
def WsAt (H : Hp) (D : Addr) (L : List W3) : Prop := ∃ xs, H D = some (.lst xs) ∧ Paired (PdW H) xs L
theorem pdw_ex {H H2 : Hp} {v : V} {w3 : W3} (e : Ex H H2) (h : PdW H v w3) : PdW H2 v w3 := pdw_mono H H2 v w3 (fun _ _ z => e _ _ z) h
theorem WsAt.mono {H H2 : Hp} {D : Addr} {L : List W3} (e : Ex H H2) (h : WsAt H D L) : WsAt H2 D L := by
  obtain ⟨xs, h1, h2⟩ := h
  exact ⟨xs, e _ _ h1, paired_mono (fun _ _ q => pdw_ex e q) h2⟩
theorem wits_push {H : Hp} {D : Addr} {L : List W3} {v : V} {w3 : W3} (h : WsAt H D L) (hv : PdW H v w3) : ∃ acc, H D = some (.lst acc) ∧ acc.length = L.length ∧ WsAt (upd H D (.lst (acc ++ [v]))) D (L ++ [w3]) := by
  obtain ⟨xs, h1, h2⟩ := h
  have tp : ∀ c ys, H c = some (.tup ys) → upd H D (.lst (xs ++ [v])) c = some (.tup ys) := fun c ys z => by
    rw [upd_ne (ne_of z h1 (by intro z; cases z))]
    exact z
  exact ⟨xs, h1, Paired.length h2, _, upd_same, paired_snoc (pdw_mono _ _ _ _ tp hv) (paired_mono (fun _ _ q => pdw_mono _ _ _ _ tp q) h2)⟩
theorem paired_filt {α : Type} {R : V → α → Prop} (c : α → Bool) : ∀ {xs : List V} {as : List α}, Paired R xs as → Paired R (((xs.zip as).filter fun z => c z.2).map fun z => z.1) (as.filter c)
  | _, _, .nil => .nil
  | _, _, .cons (a := x) (b := a) q t => by
    have ih := paired_filt c t
    rw [List.zip_cons_cons]
    cases e : c a with
    | false =>
      rw [List.filter_cons_of_neg (by simp [e]), List.filter_cons_of_neg (by simp [e])]
      exact ih
    | true =>
      rw [List.filter_cons_of_pos (by simp [e]), List.filter_cons_of_pos (by simp [e])]
      exact .cons q ih
theorem paired_join {α : Type} {R : V → α → Prop} : ∀ {xs ys : List V} {as bs : List α}, Paired R xs as → Paired R ys bs → Paired R (xs ++ ys) (as ++ bs)
  | _, _, _, _, .nil, h => h
  | _, _, _, _, .cons q t, h => .cons q (paired_join t h)
theorem resL_len (m : Int) (ws : List Int) : (resL m ws).length = m.toNat := by
  unfold resL
  rw [List.length_map, List.length_range]
theorem flat_res_len {m : Int} : ∀ l : List (List Int), (l.flatMap (resL m)).length = l.length * m.toNat
  | [] => by simp
  | a :: l => by
    rw [List.flatMap_cons, List.length_append, flat_res_len l, resL_len, List.length_cons, Nat.succ_mul]
    omega
theorem wits_len {ns p : List Int} {ms : List (List Int × Bool)} {m : Int} (one : ∀ n ∈ ns, 1 ≤ n) (pr : prodL ns ≤ 300) (m1 : 1 ≤ m) (m3 : m ≤ 300) : (witsM ns p ms m).length ≤ 90000 := by
  unfold witsM
  refine Nat.le_trans (List.length_filter_le _ _) ?_
  rw [flat_res_len]
  have h1 := rowsW_len m1 ns one
  have h2 : ((rowsW ns m).filter (canonB m)).length ≤ (rowsW ns m).length := List.length_filter_le _ _
  exact Nat.mul_le_mul (show _ ≤ 300 by omega) (show _ ≤ 300 by omega)
theorem flat_le {α β : Type} {f : α → List β} {c : Nat} : ∀ {l : List α}, (∀ a ∈ l, (f a).length ≤ c) → (l.flatMap f).length ≤ l.length * c
  | [], _ => by simp
  | a :: l, h => by
    have ih := flat_le fun b hb => h b (List.mem_cons_of_mem _ hb)
    have h1 := h a List.mem_cons_self
    rw [List.flatMap_cons, List.length_append, List.length_cons, Nat.succ_mul]
    omega

section
variable {P : Program} {w : World} {K : PySem.W.Frag} {mg : Str → Option Value} {base : Heap}
def sp_consistent_witnesses (C : Addr) : Sp := fun vs H Q _ => ∃ (a s : Addr) (q : Bool × Addr) (ns p : List Int) (ms : List (List Int × Bool)), vs = [.ref a, .ref s, .ref q.2] ∧ TabAt C H a ns ∧ SzOk ns ∧ prodL ns ≤ 300 ∧ H s = some (.tup (p.map V.int)) ∧ SeatOk ns p ∧ MovQ H q ms ∧ ms.length ≤ 1000 ∧ (∀ c ∈ ms, c.1.length = ns.length) ∧
  ∀ (f : Addr) (zs : List V) H2, Ex H H2 → H f = none → H2 f = some (.lst zs) → Paired (PdW H2) zs (consL ns p ms) → Q (.ref f) H2
theorem ok_consistent_witnesses (T : TX K mg) : FnOk P w K mg base CX0 8 T.f_consistent_witnesses T.fd_consistent_witnesses ["table", "seat", "moves"] (sp_consistent_witnesses T.C_Table) := by
  refine T.F_consistent_witnesses.ok sc_consistent_witnesses (fun vs H Q E h => ?_) (fun cdv A outer s H vs Q E hr h => ?_)
  · obtain ⟨a, s, q, ns, p, ms, rfl, _⟩ := h
    rfl
  · obtain ⟨a, s, q, ns, p, ms, rfl, tab, ok, pr, hs, skp, hq, lms, cl, k⟩ := h
    refine ⟨_, (pss_cons (ps_expr (pe_call (ok_require_table T) (hr.mono (by decide)) rfl T.m_require_table T.F_require_table.kp T.b_require_table .nil pass0 (pa_cons (pv 0) pa_nil))) (pss_cons (ps_expr (pe_call (ok_require_seat T) (hr.mono (by decide)) rfl T.m_require_seat T.F_require_seat.kp T.b_require_seat .nil pass0 (pa_cons (pv 0) (pa_cons (pv 1) pa_nil)))) (pss_cons (ps_expr (pe_call (ok_require_moves T) (hr.mono (by decide)) rfl T.m_require_moves T.F_require_moves.kp T.b_require_moves .nil pass0 (pa_cons (pv 0) (pa_cons (pv 2) pa_nil)))) (pss_cons (ps_expr (pe_call (ok_require_small T) (hr.mono (by decide)) rfl T.m_require_small T.F_require_small.kp T.b_require_small .nil pass0 (pa_cons (pv 0) pa_nil))) (pss_cons (ps_set (i := 3) sc_consistent_witnesses.nd rfl (Or.inr rfl) (pe_call (ok_visited_seats T) hr rfl T.m_visited_seats T.F_visited_seats.kp T.b_visited_seats .nil pass0 (pa_cons (pv 0) (pa_cons (pv 1) (pa_cons (pv 2) pa_nil))))) (pss_cons (ps_set (i := 4) sc_consistent_witnesses.nd rfl (Or.inl rfl) (pe_call (ok_common_exponent T) (hr.mono (by decide)) rfl T.m_common_exponent T.F_common_exponent.kp T.b_common_exponent .nil pass0 (pa_cons (pe_meth0 (pv 0) T.cl_Table T.me_Table_sizes (ok_Table_sizes T) (hr.mono (by decide)) T.b_Table_sizes .nil pass0) pa_nil))) (pss_cons (ps_set (i := 5) sc_consistent_witnesses.nd rfl (Or.inl rfl) (pe_lst pa_nil)) (pss_cons (ps_for PassesOwn.never rfl (pi_range3 rfl T.z_range (pa_cons pe_int (pa_cons (pe_op op_add (pv 4) pe_int) (pa_cons pe_int pa_nil)))) (pg_name (i := 6) sc_consistent_witnesses.nd rfl (Or.inr rfl)) (pss_one (ps_if (pt_cmpR op_eq (pe_op op_mod (pv 4) (pv 6)) pe_int (nomark _)) (pss_cons (ps_set (i := 7) sc_consistent_witnesses.nd rfl (Or.inr rfl) (pe_call (ok_units_of T) (hr.mono (by decide)) rfl T.m_units_of T.F_units_of.kp T.b_units_of .nil pass0 (pa_cons (pv 6) pa_nil))) (pss_cons (ps_setLc (own := [("weights", 10)]) (g := (gName 10)) (i := 8) rfl sc_consistent_witnesses.nd rfl rfl (sw_true rfl rfl rfl (by decide +kernel)) (pi_list (pe_call (ok_weight_rows T) (hr.mono (by decide)) rfl T.m_weight_rows T.F_weight_rows.kp T.b_weight_rows .nil pass0 (pa_cons (pe_meth0 (pv 0) T.cl_Table T.me_Table_sizes (ok_Table_sizes T) (hr.mono (by decide)) T.b_Table_sizes .nil pass0) (pa_cons (pv 6) pa_nil)))) (blkOk_by (N := N_consistent_witnesses) (sc := defScope s_consistent_witnesses) (by decide +kernel)) (fun _ _ _ _ _ => (pg_name (i := 10) sc_consistent_witnesses.nd rfl (Or.inl rfl))) (fun _ _ _ _ _ => (pts_one (pt_val (pe_call (ok_is_canonical T) (hr.mono (by decide)) rfl T.m_is_canonical T.F_is_canonical.kp T.b_is_canonical .nil pass0 (pa_cons (pv 6) (pa_cons (pv 7) (pa_cons (pv 10) pa_nil))))))) (fun _ _ _ _ _ => (pv 10))) (pss_cons (ps_setLc2 (own := [("weights", 10), ("residue", 11)]) (g := (gName 10)) (g1 := (gName 11)) (vs1 := [11]) (i := 9) rfl sc_consistent_witnesses.nd rfl rfl (sw_true rfl rfl rfl (by decide +kernel)) (pi_list (pv 8)) (blkOk_by (N := N_consistent_witnesses) (sc := defScope s_consistent_witnesses) (by decide +kernel)) (by decide) (fun _ _ _ _ _ => (pg_name (i := 10) sc_consistent_witnesses.nd rfl (Or.inl rfl))) (fun _ _ _ _ _ => pts_nil) (fun _ _ _ _ _ => (pi_range1 rfl T.z_range (pa_cons (pv 6) pa_nil))) (fun _ _ _ _ _ => (pg_name (i := 11) sc_consistent_witnesses.nd rfl (Or.inl rfl))) (fun _ _ _ _ _ => pts_nil) (fun _ _ _ _ _ => (pe_tup (pa_cons (pv 6) (pa_cons (pv 10) (pa_cons (pv 11) pa_nil)))))) (pss_one (ps_expr (pe_bm PySem.F.plainAttrs_list PySem.F.slot_list_extend PySem.F.type_list_extend mt_extend (pv 5) (pa_cons (pe_lc (own := [("witness", 12)]) (g := (gName 12)) rfl sc_consistent_witnesses.nd (pi_list (pv 9)) (blkOk_by (N := N_consistent_witnesses) (sc := defScope s_consistent_witnesses) (by decide +kernel)) (fun _ _ _ _ _ => (pg_name (i := 12) sc_consistent_witnesses.nd rfl (Or.inl rfl))) (fun _ _ _ _ _ => (pts_one (pt_val (pe_call (ok_explains T) (hr.mono (by decide)) rfl T.m_explains T.F_explains.kp T.b_explains .nil pass0 (pa_cons (pv 0) (pa_cons (pv 3) (pa_cons (pv 2) (pa_cons (pv 12) pa_nil)))))))) (fun _ _ _ _ _ => (pv 12))) pa_nil))))))) pss_nil))) (pss_one (ps_ret (pv 5))))))))))), ?_⟩
    have l4 := ok.le
    refine ⟨_, rfl, a, ns, rfl, tab, ?_⟩
    refine ⟨_, rfl, _, rfl, a, _, ns, _, rfl, tab, l4, TupA.ints hs (by have := skp.len; omega), isSeat_ok skp, fun H1 e1 => ?_⟩
    refine ⟨_, rfl, _, rfl, a, q, ns, ms, rfl, tab.mono e1, l4, hq.mono e1, cl, fun H2 e2 => ?_⟩
    have E2 := ext e1 e2
    refine ⟨_, rfl, a, ns, rfl, tab.mono E2, ok, pr, ?_⟩
    refine ⟨_, rfl, _, rfl, _, rfl, a, s, q, ns, p, ms, rfl, tab.mono E2, ok, E2 _ _ hs, skp, hq.mono E2, by omega, cl, fun v H3 e3 nv rv => ?_⟩
    have E3 := ext E2 e3
    obtain ⟨dx, t, h1, h2⟩ := id (tab.mono E3)
    dsimp only [gName]
    refine ⟨_, rfl, a, dx, _, rfl, h1, rfl, a, dx, t, rfl, h1, t, ns, rfl, h2, ok, pr, ?_⟩
    dsimp only [gName]
    refine ⟨slen rfl, ?_⟩
    (intro fl nfl; generalize hGfl : upd _ fl _ = H4; have eH4 := exG hGfl nfl; have hfl := atG hGfl; clear hGfl)
    have E4 := ext E3 eH4
    have nfl0 : H fl = none := Evl.fresh_back E3 nfl
    have X := expo_ok ok.one
    have x1 := X.one
    have x3 : expoL ns ≤ 300 := Int.le_trans (Int.le_of_dvd (by have := prodL_pos ok.one; omega) X.dvd) pr
    generalize hx : expoL ns = e at x1 x3
    refine ⟨_, rfl, _, _, rfl, rfl, 3, e + 1, 2, _, rfl, rgc_odd (by omega) x3, ?_⟩
    let G : Nat → List W3 := fun i => ((oddsTo i).filter fun m => decide (e % m = 0)).flatMap (witsM ns p ms)
    have G_succ : ∀ i, G (i + 1) = G i ++ if e % (3 + (i : Int) * 2) = 0 then witsM ns p ms (3 + (i : Int) * 2) else [] := fun i => by
      show ((oddsTo (i + 1)).filter _).flatMap _ = ((oddsTo i).filter _).flatMap _ ++ _
      unfold oddsTo
      rw [List.range_succ, List.map_append, List.filter_append, List.flatMap_append]
      by_cases c : e % (3 + (i : Int) * 2) = 0
      · rw [if_pos c, List.map_singleton, List.filter_cons_of_pos (by simpa using c), List.filter_nil]
        simp
      · rw [if_neg c, List.map_singleton, List.filter_cons_of_neg (by simpa using c), List.filter_nil]
        simp
    have G_len : ∀ i, i ≤ 150 → (G i).length ≤ 150 * 90000 := fun i hi => by
      refine Nat.le_trans (flat_le (c := 90000) fun m hm => ?_) (Nat.mul_le_mul_right _ ?_)
      · obtain ⟨h1, h2⟩ := List.mem_filter.mp hm
        obtain ⟨j, hj, rfl⟩ := List.mem_map.mp h1
        have := List.mem_range.mp hj
        exact wits_len ok.one pr (by omega) (by have := Int.le_of_dvd (by omega) (Int.dvd_of_emod_eq_zero (of_decide_eq_true h2)); omega)
      · refine Nat.le_trans (List.length_filter_le _ _) ?_
        unfold oddsTo
        rw [List.length_map, List.length_range]
        exact hi
    refine for_it walk_rangeC (fun i σ Hx => (∃ y6 y7 y8 y9 y10 y11 y12 : Option V, σ = [some (.ref a), some (.ref s), some (.ref q.2), some (.ref v), some (.int e), some (.ref fl), y6, y7, y8, y9, y10, y11, y12]) ∧ Ex H3 Hx ∧ WsAt Hx fl (G i)) ⟨⟨_, _, _, _, _, _, _, rfl⟩, eH4, [], hfl, .nil⟩ (fun _ _ _ _ _ => True.intro) ?_ ?_
    · rintro i x σ _ Hx hi ⟨⟨y6, y7, y8, y9, y10, y11, y12, rfl⟩, ex, W⟩ ⟨rfl, rfl⟩
      have hi' : i < ((e - 1) / 2).toNat := hi
      have gs := G_succ i
      have gl := G_len i (by omega)
      generalize G i = L0 at W gs gl
      have m1 : 3 ≤ 3 + (i : Int) * 2 := by omega
      have m2 : 3 + (i : Int) * 2 ≤ 300 := by omega
      dsimp only [gName]
      generalize hm : 3 + (i : Int) * 2 = m at m1 m2 gs
      refine ⟨_, rfl, _, rfl, _, _, rfl, rfl, by omega, rfl, _, rfl, ?_⟩
      by_cases c : e % m = 0
      rotate_left
      · refine itf (by rw [dec_int]; simpa using c) ⟨⟨_, _, _, _, _, _, _, rfl⟩, ex, ?_⟩
        rw [gs, if_neg c, List.append_nil]
        exact W
      rw [if_pos c] at gs
      refine itt (by rw [dec_int]; simpa using c) ?_
      refine ⟨_, rfl, m, rfl, by omega, m2, fun u H5 e5 hu => ?_⟩
      dsimp only [gName]
      have ex5 := ext ex e5
      have E5 := ext E3 ex5
      have h15 := ex5 _ _ h1
      have h25 := ex5 _ _ h2
      have tab5 := tab.mono E5
      refine ⟨_, rfl, a, dx, _, rfl, h15, rfl, a, dx, t, rfl, h15, _, rfl, t, ns, m, rfl, h25, ok, pr, by omega, m2, fun rw H6 e6 nrw ⟨xs, hxs, rr⟩ => ?_⟩
      have lxs := rr.len
      have lrw := rowsW_len (m := m) (by omega) ns ok.one
      refine ⟨rw, rfl, ⟨_, SqL.of hxs⟩, fun D hD => ?_⟩
      refine lc_filt (walk_list (xs := xs)) (xs.zip (rowsW ns m)) (fun z => canonB m z.2) (fun z => z.1) (by rw [List.length_zip]; omega) (by omega) hD (fun _ ea => SqL.of (ea _ _ hxs)) ?_ ?_
      · rintro j x z Ha Hb R S hz ea ⟨e0, hx⟩ kR kS
        subst e0
        obtain ⟨hz1, hz2⟩ := List.getElem?_zip_eq_some.mp hz
        obtain ⟨ws, r, hw, rfl, hr2⟩ := rr.get hx
        have ez : z = (V.ref r, ws) := by
          rw [hx] at hz1
          rw [hw] at hz2
          exact Prod.ext (Option.some.inj hz1).symm (Option.some.inj hz2).symm
        subst ez
        have F := rows_fit (List.mem_of_getElem? hw)
        refine ⟨rfl, _, rfl, _, rfl, _, rfl, m, u, r, ws, rfl, by omega, m2, ea _ _ (e6 _ _ hu), ea _ _ hr2, by rw [F.len]; exact l4, F.w0, fun H7 e7 => ?_⟩
        cases hc : canonB m ws with
        | true => exact ⟨_, rfl, ⟨_, rfl, kR _ _ e7 hc rfl⟩⟩
        | false => exact ⟨_, rfl, kS _ e7 hc⟩
      intro H7 e7 hD7
      have rcan : RowsR H7 (((xs.zip (rowsW ns m)).filter fun z => canonB m z.2).map fun z => z.1) ((rowsW ns m).filter (canonB m)) := (RowsR.filt (canonB m) rr).mono e7
      generalize ((xs.zip (rowsW ns m)).filter fun z => canonB m z.2).map (fun z => z.1) = cv at hD7 rcan
      have fcan : ∀ ws ∈ (rowsW ns m).filter (canonB m), FitW ns m ws := fun ws hw => rows_fit (List.mem_filter.mp hw).1
      have lcan : ((rowsW ns m).filter (canonB m)).length ≤ 300 := by
        have : ((rowsW ns m).filter (canonB m)).length ≤ (rowsW ns m).length := List.length_filter_le _ _
        omega
      have ew : witsM ns p ms m = (((rowsW ns m).filter (canonB m)).flatMap (resL m)).filter (explB ns p ms) := rfl
      generalize (rowsW ns m).filter (canonB m) = cr at rcan fcan lcan ew
      have lcv := rcan.len
      have ex7 := ext ex5 (ext e6 e7)
      have W7 := W.mono (ext e5 (ext e6 e7))
      dsimp only [gName]
      refine ⟨_, rfl, D, rfl, ⟨_, SqL.of hD7⟩, fun D2 hD2 => ?_⟩
      refine lc2_it (walk_list (xs := cv)) (fun j Hy => Ex H7 Hy ∧ WsAt Hy D2 ((cr.take j).flatMap (resL m))) ⟨exn hD2, _, upd_same, .nil⟩ (fun j Hy _ q => SqL.of (q.1 _ _ hD7)) ?_ ?_
      · rintro j x _ H8 hj ⟨e8, wb⟩ ⟨rfl, hx⟩
        obtain ⟨ws, r, hws, rfl, hr4⟩ := rcan.get hx
        refine ⟨rfl, ?_⟩
        refine ⟨_, rfl, m, rfl, by omega, by omega, ?_⟩
        refine in_it walk_range (fun l Hy => Ex H7 Hy ∧ WsAt Hy D2 ((cr.take j).flatMap (resL m) ++ (List.range l).map fun (r : Nat) => (m, ws, (r : Int)))) ⟨e8, ?_⟩ (fun _ _ _ _ => True.intro) ?_ ?_
        · rw [List.range_zero, List.map_nil, List.append_nil]
          exact wb
        · rintro l x _ H9 hl ⟨e9, wc⟩ ⟨rfl, rfl⟩
          refine ⟨rfl, ?_⟩
          refine ⟨_, rfl, _, rfl, _, rfl, slen rfl, ?_⟩
          (intro tw ntw; generalize hGtw : upd _ tw _ = Ha; have eHa := exG hGtw ntw; have htw := atG hGtw; clear hGtw)
          have hr4a := eHa _ _ (e9 _ _ hr4)
          obtain ⟨acc, b1, b2, b3⟩ := wits_push (w3 := (m, ws, (l : Int))) (wc.mono eHa) ⟨tw, rfl, r, by rw [htw]; show some (HO.tup [V.int m, V.ref r, V.int ((0 : Int) + (l : Int))]) = some (HO.tup [V.int m, V.ref r, V.int (l : Int)]); rw [Int.zero_add], hr4a⟩
          have hl' : l < m.toNat := hl
          refine ⟨acc, b1, ?_, ex_upd (ext e9 eHa) hD2, ?_⟩
          · rw [b2, List.length_append, flat_res_len, List.length_map, List.length_range, List.length_take]
            have : min j cr.length * m.toNat ≤ 300 * 300 := Nat.mul_le_mul (by omega) (by omega)
            exact Nat.lt_of_le_of_lt (show _ ≤ 90300 by omega) (by decide)
          · rw [List.range_succ, List.map_append, ← List.append_assoc]
            exact b3
        · rintro Hz ⟨ez, rz⟩
          refine ⟨ez, ?_⟩
          rw [take_more hws, List.flatMap_append, List.flatMap_singleton]
          exact rz
      rintro H8 ⟨e8, wb⟩
      rw [List.take_of_length_le (by omega)] at wb
      obtain ⟨zs, hz, pz⟩ := wb
      have lz := Paired.length pz
      have lfl : (cr.flatMap (resL m)).length ≤ 90000 := by
        rw [flat_res_len]
        exact Nat.mul_le_mul (show _ ≤ 300 by omega) (show _ ≤ 300 by omega)
      have okw : ∀ w3 ∈ cr.flatMap (resL m), w3.1 = m ∧ FitW ns m w3.2.1 := fun w3 hw => by
        obtain ⟨ws, h1, h2⟩ := List.mem_flatMap.mp hw
        obtain ⟨r, _, rfl⟩ := List.mem_map.mp h2
        exact ⟨rfl, fcan ws h1⟩
      generalize cr.flatMap (resL m) = L1 at pz lz lfl okw ew
      have ex8 := ext ex7 e8
      have W8 := W7.mono e8
      have E8 := ext E3 ex8
      dsimp only [gName]
      obtain ⟨z0, hfl8, pz0⟩ := W8
      refine ⟨_, rfl, .inl ⟨rfl, _, SqL.of hfl8⟩, _, rfl, D2, rfl, ⟨_, SqL.of hz⟩, fun D3 hD3 => ?_⟩
      refine lc_filt (walk_list (xs := zs)) (zs.zip L1) (fun z => explB ns p ms z.2) (fun z => z.1) (by rw [List.length_zip]; omega) (by omega) hD3 (fun _ ea => SqL.of (ea _ _ hz)) ?_ ?_
      · rintro j x z Ha Hb R S hz2 ea ⟨e0, hx⟩ kR kS
        subst e0
        obtain ⟨hz1, hz3⟩ := List.getElem?_zip_eq_some.mp hz2
        obtain ⟨w3, hw, tw, rfl, hwit⟩ := paired_get pz hx
        have ez : z = (V.ref tw, w3) := by
          rw [hx] at hz1
          rw [hw] at hz3
          exact Prod.ext (Option.some.inj hz1).symm (Option.some.inj hz3).symm
        subst ez
        obtain ⟨wm, wf⟩ := okw w3 (List.mem_of_getElem? hw)
        obtain ⟨wa, w1, w2⟩ := hwit
        have Ea := ext E8 ea
        refine ⟨rfl, _, rfl, _, rfl, _, rfl, _, rfl, a, v, tw, q, ns, p, ms, w3, rfl, tab.mono Ea, ok, pr, rv.mono (ext ex8 ea), skp, hq.mono Ea, lms, cl, ⟨wa, ea _ _ w1, ea _ _ w2⟩, by omega, by omega, by rw [wm]; exact wf, fun H9 e9 => ?_⟩
        cases hc : explB ns p ms w3 with
        | true => exact ⟨_, rfl, ⟨_, rfl, kR _ _ e9 hc rfl⟩⟩
        | false => exact ⟨_, rfl, kS _ e9 hc⟩
      intro H9 e9 hD9
      have pf := paired_mono (fun _ _ q => pdw_ex e9 q) (paired_filt (explB ns p ms) pz)
      generalize ((zs.zip L1).filter fun z => explB ns p ms z.2).map (fun z => z.1) = fv at hD9 pf
      rw [← ew] at pf
      have hf9 := e9 _ _ hfl8
      have lf : fv.length ≤ 90000 := by
        rw [Paired.length pf]
        exact wits_len ok.one pr (by omega) m2
      refine ⟨fl, D3, _, _, rfl, rfl, hf9, hD9, ?_, ?_⟩
      · rw [Paired.length pz0]
        have : sizeLine = 16777216 := by decide
        omega
      have tp : ∀ c ys, H9 c = some (.tup ys) → upd H9 fl (.lst (z0 ++ fv)) c = some (.tup ys) := fun c ys z => by
        rw [upd_ne (ne_of z hf9 (by intro z; cases z))]
        exact z
      refine ⟨⟨_, _, _, _, _, _, _, rfl⟩, ex_upd (ext ex8 e9) nfl, _, upd_same, ?_⟩
      rw [gs]
      exact paired_join (paired_mono (fun _ _ q => pdw_mono _ _ _ _ tp (pdw_ex e9 q)) pz0) (paired_mono (fun _ _ q => pdw_mono _ _ _ _ tp q) pf)
    rintro σ Hx ⟨⟨y6, y7, y8, y9, y10, y11, y12, rfl⟩, ex, zs, hz, pz⟩
    refine ⟨_, rfl, k fl zs Hx (ext E3 ex) nfl0 hz ?_⟩
    unfold consL
    rw [hx]
    exact pz
end

theorem ltT_is (a b : List Int) : PySem.W.dataLt (iT a) (iT b) = decide (a < b) := by
  show PySem.W.dataLt (.tuple (a.map .int)) (.tuple (b.map .int)) = _
  rw [PySem.W.dataLt_tuple]
  exact PySem.W.dataLt_ints a b
theorem leT_is (a b : List Int) : leT a b = decide (a ≤ b) := by
  show (!PySem.W.dataLt (iT b) (iT a)) = _
  rw [ltT_is]
  by_cases h : b < a
  · have h' : ¬ a ≤ b := fun r => List.not_lt.mpr r h
    simp [h, h']
  · have h' : a ≤ b := List.not_lt.mp h
    simp [h, h']
theorem leT_trans (a b c : List Int) (h1 : leT a b = true) (h2 : leT b c = true) : leT a c = true := by
  rw [leT_is] at *
  exact decide_eq_true (List.le_trans (of_decide_eq_true h1) (of_decide_eq_true h2))
theorem leT_total (a b : List Int) : (leT a b || leT b a) = true := by
  rw [leT_is, leT_is, Bool.or_eq_true, decide_eq_true_iff, decide_eq_true_iff]
  exact List.le_total a b
theorem leT_anti {a b : List Int} (h1 : leT a b = true) (h2 : leT b a = true) : a = b := by
  rw [leT_is] at *
  exact List.le_antisymm (of_decide_eq_true h1) (of_decide_eq_true h2)

-- minmax
/-! ### min(l), a list of tuples of ints -/
section
def rMinLT (K : PySem.W.Frag) : List V → Hp → VK → Prop := fun vs H Q => ∃ (a : Addr) (xs : List V) (tss : List (List Int)), vs = [V.ref a] ∧ H a = some (.lst xs) ∧ RowsR H xs tss ∧ tss ≠ [] ∧
  ∀ (i : Nat) (r : Addr) (ts : List Int), xs[i]? = some (.ref r) → tss[i]? = some ts → H r = some (.tup (ts.map V.int)) → (∀ t ∈ tss, ts ≤ t) → Q (.ref r) H
def minT (t : List Int) (ts : List (List Int)) : List Int := ts.foldl (fun a y => if y < a then y else a) t
theorem minD_rows : ∀ (ts : List (List Int)) (t : List Int), PySem.W.minD (iT t) (ts.map iT) = iT (minT t ts)
  | [], _ => rfl
  | y :: ts, t => by
    have ih := minD_rows ts
    unfold PySem.W.minD minT at ih ⊢
    rw [List.map_cons, List.foldl_cons, List.foldl_cons, ltT_is]
    by_cases h : y < t
    · rw [if_pos (decide_eq_true h), if_pos h]
      exact ih y
    · rw [if_neg (by simpa using h), if_neg h]
      exact ih t
theorem minT_le : ∀ (ts : List (List Int)) (t : List Int), ∀ y ∈ t :: ts, minT t ts ≤ y
  | [], t, y, h => by
    rw [List.mem_singleton.mp h]
    exact List.le_refl _
  | x :: ts, t, y, h => by
    have ih := minT_le ts (if x < t then x else t)
    have e : minT t (x :: ts) = minT (if x < t then x else t) ts := rfl
    rw [e]
    have h0 := ih _ List.mem_cons_self
    by_cases c : x < t
    · rw [if_pos c] at ih h0 ⊢
      rcases List.mem_cons.mp h with rfl | h
      · exact List.le_trans h0 (List.not_lt.mp fun z => List.lt_irrefl _ (List.lt_trans c z))
      · rcases List.mem_cons.mp h with rfl | h
        · exact h0
        · exact ih y (List.mem_cons_of_mem _ h)
    · rw [if_neg c] at ih h0 ⊢
      rcases List.mem_cons.mp h with rfl | h
      · exact h0
      · rcases List.mem_cons.mp h with rfl | h
        · exact List.le_trans h0 (List.not_lt.mp c)
        · exact ih y (List.mem_cons_of_mem _ h)
theorem dpall_rows {K : PySem.W.Frag} {H : Hp} : ∀ {xs : List V} {tss : List (List Int)}, RowsR H xs tss → DpAll K H xs (tss.map iT)
  | _, _, .nil => .nil
  | _, _, .cons ⟨r, e, h⟩ t => by
    subst e
    exact .cons (dp_ints h) (dpall_rows t)
theorem depth_iT (t : List Int) : (iT t).depth ≤ 1 := by
  have key : ∀ l : List Int, PyData.depthAll (l.map .int) = 0 := fun l => by
    induction l with
    | nil => rfl
    | cons m l ih =>
      rw [List.map_cons]
      simp only [PyData.depthAll, PyData.depth, ih]
      rfl
  show PyData.depth (.tuple (t.map .int)) ≤ 1
  simp only [PyData.depth, key]
  omega
theorem depth_iTs : ∀ ts : List (List Int), PyData.depthAll (ts.map iT) ≤ 1
  | [] => by simp [PyData.depthAll]
  | t :: ts => by
    have h1 := depth_iT t
    have h2 := depth_iTs ts
    rw [List.map_cons]
    simp only [PyData.depthAll]
    omega
theorem cr_minLT {X : Cx} (hc : X.calm = true) (hu : X.A.units + 65 < cLine) : CallR X (.builtin "min") (rMinLT X.K) := by
  intro pins s σ H vs us Q I r h
  obtain ⟨a, xs, tss, rfl, hs, rr, hne, q⟩ := h
  obtain ⟨its, rv, hl, hz⟩ := I.list (SqL.of hs)
  rw [Vals.ref1 r]
  cases tss with
  | nil => exact absurd rfl hne
  | cons t ts =>
    obtain ⟨as, hr⟩ := Dp.readsAll I _ _ _ (dpall_rows rr) rv
    refine PySem.W.min_list_data (x := iT t) (xs := ts.map iT) (I.ok.hd hc) hl.isList hr ⟨fun x hx y hy => ?_, fun x hx => ?_⟩ ?_ fun i v h' tk bs hi rd hk => ?_
    · obtain ⟨x', _, rfl⟩ := List.mem_map.mp (show x ∈ (t :: ts).map iT from hx)
      obtain ⟨y', _, rfl⟩ := List.mem_map.mp (show y ∈ (t :: ts).map iT from hy)
      exact alike_iT _ _
    · obtain ⟨x', _, rfl⟩ := List.mem_map.mp (show x ∈ (t :: ts).map iT from hx)
      intro z
      cases z
    · have := depth_iTs (t :: ts)
      rw [List.map_cons] at this
      omega
    · rw [minD_rows] at rd
      have li : i < xs.length := by
        have := rv.length
        have := (Array.getElem?_eq_some_iff.mp hi).1
        simp at this
        omega
      obtain ⟨x0, hx0⟩ : ∃ x0, xs[i]? = some x0 := ⟨_, List.getElem?_eq_getElem li⟩
      obtain ⟨u, hu1, ru⟩ := rv.get hx0
      have hi2 : its[i]? = some v := by simpa using hi
      obtain rfl : u = v := Option.some.inj (hu1.symm.trans hi2)
      obtain ⟨t0, r0, ht0, rfl, hr0⟩ := rr.get hx0
      cases ru
      obtain ⟨its2, rv2, ⟨o2, ho2, hc2, n2, hd2⟩, _⟩ := I.tuple (SqT.of hr0)
      have ints2 := rv2.ints
      cases rd with
      | tuple g1 g2 g3 g4 =>
        have g5 := hk _ _ ho2
        rw [g1] at g5
        obtain rfl := Option.some.inj g5
        rw [hd2] at g3
        injection g3 with g3 _
        obtain ⟨i4, _⟩ := readsAll_intsAre0 g4
        have e1 := PyProof.Rows.IntsAre.numsOf i4
        have e2 := PyProof.Rows.IntsAre.numsOf ints2
        rw [← g3] at e1
        have e3 : minT t ts = t0 := by
          rw [← e1, ← e2]
        exact ⟨.ref _, H, I.kept hk, rfl, q i _ t0 hx0 ht0 hr0 fun y hy => by rw [← e3]; exact minT_le ts t y hy⟩
end

section
variable {P : Program} {w : World} {K : PySem.W.Frag} {mg : Str → Option Value} {base : Heap}
def sp_law_value : Sp := fun vs H Q _ => ∃ (m : Int) (a b : Addr) (ws ps : List Int), vs = [.int m, .ref a, .ref b] ∧ 0 < m ∧ H a = some (.tup (ws.map V.int)) ∧ H b = some (.tup (ps.map V.int)) ∧ ws.length = ps.length ∧ ps.length ≤ 4 ∧ (∀ w ∈ ws, w.natAbs < 2 ^ 5000) ∧ (∀ p ∈ ps, p.natAbs < 2 ^ 5000) ∧ ∀ H2, Ex H H2 → Q (.int (wsum ws ps % m)) H2
theorem ok_law_value (T : TX K mg) : FnOk P w K mg base CX0 1 T.f_law_value T.fd_law_value ["_law_modulus", "_law_weights_here", "_law_spot"] sp_law_value := by
  refine T.F_law_value.ok sc_law_value (fun vs H Q E h => ?_) (fun cdv A outer s H vs Q E hr h => ?_)
  · obtain ⟨m, a, b, ws, ps, rfl, _⟩ := h
    rfl
  · obtain ⟨m, wa, b, ws, ps, rfl, m0, hwa, hb, l, l4, bw, bp, k⟩ := h
    refine ⟨_, (pss_one (ps_ret (pe_op op_mod (pe_callB (cr_sum rfl) (by rfl) T.z_sum (by decide +kernel) (pa_cons (pe_lc (own := [("_law_weight", 3), ("_law_place", 4)]) (g := (gTup K 2 (gCons (gName 3) (gCons (gName 4) gNil)))) rfl sc_law_value.nd (CZ.pi_z2 (fl := [true, true]) rfl (by rfl) T.z_zip (pa_cons (pv 1) (pa_cons (pv 2) pa_nil))) (blkOk_by (N := N_law_value) (sc := defScope s_law_value) (by decide +kernel)) (fun _ _ _ _ _ => (pg_tup rfl (pgs_cons (pg_name (i := 3) sc_law_value.nd rfl (Or.inl rfl)) (pgs_cons (pg_name (i := 4) sc_law_value.nd rfl (Or.inl rfl)) pgs_nil)))) (fun _ _ _ _ _ => pts_nil) (fun _ _ _ _ _ => (pe_op op_mulI (pv 3) (pv 4)))) pa_nil)) (pv 0)))), ?_⟩
    refine ⟨_, rfl, _, rfl, [wa, b], rfl, rfl, all2 (sqT hwa) (sqT hb), fun D hD => ?_⟩
    refine lc_vals (CZ.walk_rows (xss := [ws.map V.int, ps.map V.int]) (n := ps.length) (lens2 (by rw [List.length_map, l]) (by rw [List.length_map]))) ((List.zipWith (fun w x => w * x) ws ps).map V.int) (by rw [List.length_map, List.length_zipWith, l, Nat.min_self]) (by omega) hD (fun H3 e => .cons (sqT (e _ _ hwa)) (.cons (sqT (e _ _ hb)) .nil)) ?_ (gmono_tup (gmono_cons gmono_name (gmono_cons gmono_name gmono_nil))) ?_
    · intro j y H6 H7 R hj e yy kk
      obtain ⟨Tb, p, d, rfl, hTb, rfl, hp, hdd⟩ := yints2 yy
      refine ⟨Tb, _, rfl, SqT.of upd_same, rfl, _, _, rfl, _, _, rfl, rfl, ?_⟩
      refine ⟨rfl, _, rfl, _, rfl, _, _, rfl, rfl, (wide_mul (bw p (List.mem_of_getElem? hp)) (bp d (List.mem_of_getElem? hdd)) (by decide) (by decide) (by decide)).ok, ?_⟩
      refine kk _ _ (exn hTb) ?_
      rw [List.getElem?_map, List.getElem?_zipWith, hp, hdd]
      rfl
    · intro H3 e3 hD3
      exact ⟨D, _, rfl, SqL.of hD3, _, rfl, _, _, rfl, rfl, m0, k _ e3⟩
end

section
variable {P : Program} {w : World} {K : PySem.W.Frag} {mg : Str → Option Value} {base : Heap}
def sp_law_divisor : Sp := fun vs H Q _ => ∃ a b : Int, vs = [.int a, .int b] ∧ 0 ≤ a ∧ 0 ≤ b ∧ Q (.int (gcdI a b)) H
theorem ok_law_divisor (T : TX K mg) : FnOk P w K mg base CX0 1 T.f_law_divisor T.fd_law_divisor ["_law_first", "_law_second"] sp_law_divisor := by
  refine T.F_law_divisor.ok sc_law_divisor (fun vs H Q E h => ?_) (fun cdv A outer s H vs Q E hr h => ?_)
  · obtain ⟨a, b, rfl, _⟩ := h
    rfl
  · obtain ⟨a0, b0, rfl, h1, h2, k⟩ := h
    refine ⟨_, (pss_cons (ps_while PassesOwn.never (pt_cmpR op_ne (pv 1) pe_int (nomark _)) (pss_one (ps_par (i := 0) (j := 1) rfl sc_law_divisor.nd rfl rfl (by decide) rfl rfl (pa_cons (pv 1) (pa_cons (pe_op op_mod (pv 0) (pv 1)) pa_nil)) (by rfl)))) (pss_one (ps_ret (pe_callB call_abs (by rfl) T.z_abs (by decide +kernel) (pa_cons (pv 0) pa_nil))))), ?_⟩
    refine ⟨fun m σ H2 => ∃ a b : Int, σ = [some (.int a), some (.int b)] ∧ H2 = H ∧ 0 ≤ a ∧ 0 ≤ b ∧ Int.gcd a b = Int.gcd a0 b0 ∧ m = b.toNat, ⟨_, a0, b0, rfl, rfl, h1, h2, rfl, rfl⟩, ?_⟩
    rintro m σ _ ⟨a, b, rfl, rfl, ha, hb, hg, rfl⟩
    refine ⟨_, rfl, rfl, _, rfl, ?_⟩
    by_cases hz : b = 0
    · subst hz
      refine itf (by simp) ⟨_, rfl, a, rfl, ?_⟩
      rw [if_neg (by omega)]
      have e : (Int.gcd a 0 : Nat) = a.natAbs := by simp
      have e2 : gcdI a0 b0 = a := by
        show ((Int.gcd a0 b0 : Nat) : Int) = a
        rw [← hg, e]
        omega
      rw [e2] at k
      exact k
    · refine itt (by rw [dec_int]; simp [hz]) ⟨_, fun _ _ h => h, ?_⟩
      have q1 := Int.emod_lt_of_pos a (show 0 < b by omega)
      have q2 := Int.emod_nonneg a hz
      exact ⟨_, rfl, _, rfl, _, rfl, _, _, rfl, rfl, (by show 0 < b; omega), _, _, rfl, _, (by show (a % b).toNat < b.toNat; omega), _, _, rfl, rfl, hb, q2, by rw [gcd_turn hz, hg], rfl⟩
end

section
variable {P : Program} {w : World} {K : PySem.W.Frag} {mg : Str → Option Value} {base : Heap}
def sp_law_weights : Sp := fun vs H Q _ => ∃ (a : Addr) (ns : List Int) (m : Int), vs = [.ref a, .int m] ∧ H a = some (.tup (ns.map V.int)) ∧ SzOk ns ∧ prodL ns ≤ 300 ∧ 1 ≤ m ∧ m ≤ 300 ∧ ∀ q H2, Ex H H2 → H q = none → RowsAt H2 q (rowsW ns m) → Q (.ref q) H2
theorem ok_law_weights (T : TX K mg) : FnOk P w K mg base CX0 1 T.f_law_weights T.fd_law_weights ["_law_rings_here", "_law_modulus"] sp_law_weights := by
  refine T.F_law_weights.ok sc_law_weights (fun vs H Q E h => ?_) (fun cdv A outer s H vs Q E hr h => ?_)
  · obtain ⟨a, ns, m, rfl, _⟩ := h
    rfl
  · obtain ⟨l, ns, m, rfl, hl, ok, pr, m1, m3, k⟩ := h
    refine ⟨_, (pss_cons (ps_set (i := 2) sc_law_weights.nd rfl (Or.inl rfl) (pe_lst (pa_cons (pe_tup pa_nil) pa_nil))) (pss_cons (ps_for PassesOwn.never rfl (pi_tup (pv 0)) (pg_name (i := 3) sc_law_weights.nd rfl (Or.inr rfl)) (pss_cons (ps_setLc (own := [("_law_weight", 7)]) (g := (gName 7)) (i := 4) rfl sc_law_weights.nd rfl rfl (sw_true rfl rfl rfl (by decide +kernel)) (pi_range1 rfl T.z_range (pa_cons (pv 1) pa_nil)) (blkOk_by (N := N_law_weights) (sc := defScope s_law_weights) (by decide +kernel)) (fun _ _ _ _ _ => (pg_name (i := 7) sc_law_weights.nd rfl (Or.inl rfl))) (fun _ _ _ _ _ => (pts_one (pt_cmpR op_eq (pe_op op_mod (pe_op op_mulI (pv 7) (pv 3)) (pv 1)) pe_int (nomark _)))) (fun _ _ _ _ _ => (pv 7))) (pss_cons (ps_set (i := 5) sc_law_weights.nd rfl (Or.inl rfl) (pe_lst pa_nil)) (pss_cons (ps_for PassesOwn.never rfl (pi_list (pv 2)) (pg_name (i := 6) sc_law_weights.nd rfl (Or.inr rfl)) (pss_one (ps_expr (pe_bm PySem.F.plainAttrs_list PySem.F.slot_list_extend PySem.F.type_list_extend mt_extend (pv 5) (pa_cons (pe_lc (own := [("_law_weight", 7)]) (g := (gName 7)) rfl sc_law_weights.nd (pi_list (pv 4)) (blkOk_by (N := N_law_weights) (sc := defScope s_law_weights) (by decide +kernel)) (fun _ _ _ _ _ => (pg_name (i := 7) sc_law_weights.nd rfl (Or.inl rfl))) (fun _ _ _ _ _ => pts_nil) (fun _ _ _ _ _ => (pe_op (r := rCatA K) op_catA (pv 6) (pe_tup (pa_cons (pv 7) pa_nil))))) pa_nil))))) (pss_one (ps_set (i := 2) sc_law_weights.nd rfl (Or.inl rfl) (pv 5))))))) (pss_one (ps_ret (pv 2))))), ?_⟩
    have l4 := ok.le
    refine ⟨by show 0 ≤ sizeLine; decide, fun u hu => ⟨by show 1 ≤ sizeLine; decide, fun f hf => ?_⟩⟩
    have e2 : Ex H (upd (upd H u (.tup [])) f (.lst [.ref u])) := ext (exn hu) (exn hf)
    have f0 : H f = none := Evl.fresh_back (exn hu) hf
    refine ⟨_, rfl, l, rfl, ⟨_, SqT.of (e2 _ _ hl)⟩, ?_⟩
    refine for_it (walk_tup (xs := ns.map V.int)) (fun i σ H2 => ∃ (f : Addr) (y3 y4 y5 y6 y7 : Option V), σ = [some (.ref l), some (.int m), some (.ref f), y3, y4, y5, y6, y7] ∧ Ex H H2 ∧ H f = none ∧ RowsAt H2 f (rowsW (ns.take i) m)) ⟨_, _, _, _, _, _, rfl, e2, f0, _, upd_same, .cons ⟨u, rfl, by rw [upd_ne (ne_of_none upd_same hf)]; exact upd_same⟩ .nil⟩ (fun i σ H2 _ ⟨_, _, _, _, _, _, _, e, _⟩ => SqT.of (e _ _ hl)) ?_ ?_
    · rintro i x σ _ H2 hi ⟨f, y3, y4, y5, y6, y7, rfl, e3, f0, ra⟩ ⟨rfl, hx⟩
      obtain ⟨n, hn, rfl⟩ := map_get hx
      have n1 := ok.one n (List.mem_of_getElem? hn)
      have nb := mul_le_prod ok.one hn
      have o1 : ∀ k ∈ ns.take i, 1 ≤ k := fun k hk => ok.one k (List.mem_of_mem_take hk)
      have len : ((rowsW (ns.take i) m).length : Int) ≤ 300 := by
        have h1 := rowsW_len m1 (ns.take i) o1
        have h2 := prodL_take i ok.one
        omega
      have rows : ∀ hs ∈ rowsW (ns.take i) m, hs.length ≤ 4 := fun hs hh => by
        rw [rowsW_four hh, List.length_take]
        omega
      have nx : rowsW (ns.take (i + 1)) m = crossW (rowsW (ns.take i) m) (wsC m n) := by rw [take_more hn, rowsW_snoc]
      have lw := wsC_len (n := n) m1
      have gm : ((Int.gcd m n : Nat) : Int) ≤ m := Int.le_of_dvd (by omega) (Int.gcd_dvd_left ..)
      obtain ⟨xs, ra5, rr⟩ := id ra
      generalize hh : rowsW (ns.take i) m = hss at rr len rows nx
      dsimp only [gName]
      refine ⟨_, rfl, m, rfl, by omega, by omega, fun D hD => ?_⟩
      refine lc_filt walk_range ((List.range m.toNat).map fun (w : Nat) => (w : Int)) (fun w => decide (w * n % m = 0)) V.int (by simp) (by omega) hD (fun _ _ => True.intro) ?_ ?_
      · rintro j x w Ha Hb R S hw ea ⟨e0, e1⟩ kR kS
        subst e0 e1
        rw [List.getElem?_map] at hw
        obtain ⟨j', hj, rfl⟩ := Option.map_eq_some_iff.mp hw
        obtain ⟨_, ej⟩ := List.getElem?_eq_some_iff.mp hj
        rw [List.getElem_range] at ej
        subst ej
        have jl : j < m.toNat := by simpa using (List.getElem?_eq_some_iff.mp hj).1
        refine ⟨rfl, ?_⟩
        refine ⟨_, rfl, _, rfl, _, _, rfl, rfl, ?_, _, rfl, _, _, rfl, rfl, by omega, rfl, _, rfl, ?_⟩
        · exact (wide_mul (a := 40) (b := 40) (show ((0 : Int) + (j : Int)).natAbs < 2 ^ 40 by show _ < 1099511627776; omega) (show n.natAbs < 2 ^ 40 by show _ < 1099511627776; omega) (by decide) (by decide) (by decide)).ok
        by_cases c : (j : Int) * n % m = 0
        · exact itt (decide_eq_true (congrArg V.int (by rw [Int.zero_add]; exact c))) ⟨_, rfl, kR _ _ exr (decide_eq_true c) (congrArg V.int (Int.zero_add _))⟩
        · exact itf (decide_eq_false fun z => c (by have := V.int.inj z; rw [Int.zero_add] at this; exact this)) (kS _ exr (decide_eq_false c))
      intro H3 e4 hD3
      have hD4 : H3 D = some (.lst ((wsC m n).map V.int)) := by
        rw [hD3]
        unfold wsC
        rw [List.filter_map]
        rfl
      have nDf : H D = none := Evl.fresh_back e3 hD
      clear hD3
      have ra6 := e4 _ _ ra5
      dsimp only [gName]
      refine ⟨by show 0 ≤ sizeLine; decide, fun L hL => ?_⟩
      have e5 := exn (o := .lst []) hL
      have e25 := ext e4 e5
      refine ⟨_, rfl, f, rfl, ⟨_, SqL.of (e5 _ _ ra6)⟩, ?_⟩
      refine for_it (walk_list (xs := xs)) (fun j σ Hx => (∃ y6 y7 : Option V, σ = [some (.ref l), some (.int m), some (.ref f), some (.int n), some (.ref D), some (.ref L), y6, y7]) ∧ Ex H3 Hx ∧ RowsAt Hx L (crossW (hss.take j) (wsC m n))) ⟨⟨_, _, rfl⟩, e5, _, upd_same, .nil⟩ (fun j σ Hx _ q => SqL.of (q.2.1 _ _ ra6)) ?_ ?_
      · rintro j x σ _ H4 hj ⟨⟨y6, y7, rfl⟩, e6, rb⟩ ⟨rfl, hx⟩
        obtain ⟨hs, r, hhs, rfl, hr4⟩ := rr.get hx
        obtain ⟨ys, hy1, hy2⟩ := id rb
        have hsl := rows hs (List.mem_of_getElem? hhs)
        have hr5 := e6 _ _ (e4 _ _ hr4)
        refine ⟨_, rfl, .inl ⟨rfl, _, SqL.of hy1⟩, _, rfl, D, rfl, ⟨_, SqL.of (e6 _ _ hD4)⟩, fun D2 hD2 => ?_⟩
        refine lc_rows (walk_list (xs := (wsC m n).map V.int)) hs (wsC m n) (by simp) (by rw [List.length_map]; omega) hD2 (fun _ ea => SqL.of (ea _ _ (e6 _ _ hD4))) ?_ gmono_name ?_
        · rintro t x Ha Hb R ht ea ⟨e0, hx3⟩ kk
          subst e0
          obtain ⟨z, hz, rfl⟩ := map_get hx3
          refine ⟨rfl, _, rfl, _, rfl, by show 1 ≤ sizeLine; decide, fun v hv => ?_⟩
          exact cat_row (exn hv _ _ (ea _ _ hr5)) upd_same (by omega) fun z2 H6 e7 hz2 => kk z z2 H6 (ext (exn hv) e7) hz hz2
        · intro H5 e7 rc
          have neL : L ≠ D2 := ne_of_none hy1 hD2
          obtain ⟨as, bs, g1, g2, g3, g4, g5⟩ := rows_ext (rb.mono e7) rc neL
          refine ⟨L, D2, as, bs, rfl, rfl, g1, g2, ?_, ?_⟩
          · simp only [g3, g4, crossW_len, List.length_map, List.length_take, lw]
            have : min j hss.length * Int.gcd m n ≤ 300 * 300 := Nat.mul_le_mul (by omega) (by omega)
            exact Nat.le_trans (show _ ≤ 90300 by omega) (by decide)
          · refine ⟨⟨_, _, rfl⟩, ex_upd (ext e6 e7) hL, ?_⟩
            rw [take_more hhs, crossW_snoc]
            exact g5
      · rintro σ H4 ⟨⟨y6, y7, rfl⟩, e6, rb⟩
        rw [rr.len, List.take_length] at rb
        rw [nx]
        exact ⟨_, rfl, L, _, _, _, _, _, rfl, ext e3 (ext e4 e6), Evl.fresh_back (ext e3 e4) hL, rb⟩
    · rintro σ H2 ⟨f, y3, y4, y5, y6, y7, rfl, e, f0, ra⟩
      rw [List.take_of_length_le (by simp)] at ra
      exact ⟨_, rfl, k f H2 e f0 ra⟩
end

theorem unitsL_one {m : Int} (m2 : 2 ≤ m) : unitsL 1 m = 1 :: unitsL 2 m := by
  obtain ⟨k, rfl⟩ : ∃ k : Nat, m = (k : Int) + 2 := ⟨(m - 2).toNat, by omega⟩
  unfold unitsL
  rw [show ((k : Int) + 2 - 1).toNat = k + 1 by omega, show ((k : Int) + 2 - 2).toNat = k by omega, List.range_succ_eq_map, List.map_cons, List.map_map, List.filter_cons_of_pos]
  · congr 1
    have : ((fun (i : Nat) => (1 : Int) + (i : Int)) ∘ Nat.succ) = fun (i : Nat) => (2 : Int) + (i : Int) := by
      funext i
      show (1 : Int) + ((i + 1 : Nat) : Int) = 2 + (i : Int)
      omega
    rw [this]
  · show decide (gcdI (1 + ((0 : Nat) : Int)) _ = 1) = true
    refine decide_eq_true ?_
    show (((Int.gcd 1 _ : Nat)) : Int) = 1
    rw [Int.one_gcd]
    rfl
theorem mulM_one {m : Int} {ws : List Int} (h : ∀ x ∈ ws, 0 ≤ x ∧ x < m) : mulM 1 m ws = ws := by
  unfold mulM
  refine (List.map_congr_left fun x hx => ?_).trans (List.map_id' ws)
  rw [Int.one_mul, Int.emod_eq_of_lt (h x hx).1 (h x hx).2]
/-- the least of the multiples is the row itself -/
theorem least_row {m : Int} {ws t : List Int} (m2 : 2 ≤ m) (h : ∀ x ∈ ws, 0 ≤ x ∧ x < m) (ht : t ∈ (unitsL 1 m).map fun u => mulM u m ws) (hl : ∀ y ∈ (unitsL 1 m).map (fun u => mulM u m ws), t ≤ y) : decide (t = ws) = (unitsL 2 m).all fun u => decide (ws ≤ mulM u m ws) := by
  rw [unitsL_one m2, List.map_cons, mulM_one h] at ht hl
  rw [Bool.eq_iff_iff, decide_eq_true_iff, List.all_eq_true]
  constructor
  · intro e u hu
    rw [e] at hl
    exact decide_eq_true (hl _ (List.mem_cons_of_mem _ (List.mem_map_of_mem hu)))
  · intro a
    refine List.le_antisymm (hl ws List.mem_cons_self) ?_
    rcases List.mem_cons.mp ht with e | e
    · rw [e]
      exact List.le_refl _
    · obtain ⟨u, hu, rfl⟩ := List.mem_map.mp e
      exact of_decide_eq_true (a u hu)
section
variable {P : Program} {w : World} {K : PySem.W.Frag} {mg : Str → Option Value} {base : Heap}
def sp_law_is_canonical : Sp := fun vs H Q _ => ∃ (m : Int) (u a : Addr) (ws : List Int), vs = [.int m, .ref u, .ref a] ∧ 2 ≤ m ∧ m ≤ 300 ∧ H u = some (.lst ((unitsL 1 m).map V.int)) ∧ H a = some (.tup (ws.map V.int)) ∧ ws.length ≤ 4 ∧ (∀ x ∈ ws, 0 ≤ x ∧ x < m) ∧ ∀ H2, Ex H H2 → Q (.bl (canonB m ws)) H2
theorem ok_law_is_canonical (T : TX K mg) : FnOk P w K mg base CX0 2 T.f_law_is_canonical T.fd_law_is_canonical ["_law_modulus", "_law_units", "_law_weights_here"] sp_law_is_canonical := by
  refine T.F_law_is_canonical.ok sc_law_is_canonical (fun vs H Q E h => ?_) (fun cdv A outer s H vs Q E hr h => ?_)
  · obtain ⟨m, u, a, ws, rfl, _⟩ := h
    rfl
  · obtain ⟨m, u, a, ws, rfl, m1, m3, hu, ha, l4, wb, k⟩ := h
    refine ⟨_, (pss_cons (ps_set (i := 3) sc_law_is_canonical.nd rfl (Or.inl rfl) (pv 0)) (pss_cons (ps_for PassesOwn.never rfl (pi_tup (pv 2)) (pg_name (i := 4) sc_law_is_canonical.nd rfl (Or.inl rfl)) (pss_one (ps_set (i := 3) sc_law_is_canonical.nd rfl (Or.inl rfl) (pe_call (ok_law_divisor T) hr rfl T.m_law_divisor T.F_law_divisor.kp T.b_law_divisor .nil pass0 (pa_cons (pv 3) (pa_cons (pv 4) pa_nil)))))) (pss_cons (ps_if (pt_cmpR op_ne (pv 3) pe_int (nomark _)) (pss_one (ps_ret pe_bl)) pss_nil) (pss_one (ps_ret (pe_cmpR (r := rEqD K) (op_eqD hr.units) (pe_callB (cr_minLT rfl (u65 hr)) (by rfl) T.z_min (by decide +kernel) (pa_cons (pe_lc (own := [("_law_unit", 5)]) (g := (gName 5)) rfl sc_law_is_canonical.nd (pi_list (pv 1)) (blkOk_by (N := N_law_is_canonical) (sc := defScope s_law_is_canonical) (by decide +kernel)) (fun _ _ _ _ _ => (pg_name (i := 5) sc_law_is_canonical.nd rfl (Or.inr rfl))) (fun _ _ _ _ _ => pts_nil) (fun _ _ _ _ _ => (pe_callTy (r := rTupleQ K) call_tuple_of (by rfl) T.z_tuple (by decide +kernel) (pa_cons (pe_lc (wi := iTup K _) (own := [("_law_weight", 4)]) (g := (gName 4)) rfl sc_law_is_canonical.nd (pi_tup (pv 2)) (blkOk_by (N := N_law_is_canonical) rfl) (fun _ _ _ _ _ => (pg_name (i := 4) sc_law_is_canonical.nd rfl (Or.inl rfl))) (fun _ _ _ _ _ => pts_nil) (fun _ _ _ _ _ => (pe_op op_mod (pe_op op_mulI (pv 5) (pv 4)) (pv 0)))) pa_nil)))) pa_nil)) (pv 2) (nomark _))))))), ?_⟩
    refine ⟨_, rfl, _, rfl, ?_⟩
    refine ⟨a, rfl, ⟨_, SqT.of ha⟩, ?_⟩
    refine for_it (walk_tup (xs := ws.map V.int)) (fun i σ Hx => (∃ y4 y5 : Option V, σ = [some (.int m), some (.ref u), some (.ref a), some (.int (gcdW m (ws.take i))), y4, y5]) ∧ Hx = H) ⟨⟨_, _, rfl⟩, rfl⟩ (fun i σ Hx _ q => SqT.of (q.2 ▸ ha)) ?_ ?_
    · rintro i x σ _ Hx hi ⟨⟨y4, y5, rfl⟩, rfl⟩ ⟨rfl, hx⟩
      obtain ⟨n, hn, rfl⟩ := map_get hx
      have g0 := gcdW_nn (ws.take i) m (by omega)
      have n0 := (wb n (List.mem_of_getElem? hn)).1
      have st : gcdW m (ws.take (i + 1)) = gcdI (gcdW m (ws.take i)) n := by
        rw [take_more hn]
        unfold gcdW
        rw [List.foldl_append]
        rfl
      dsimp only [gName]
      exact ⟨_, rfl, _, rfl, _, _, rfl, g0, n0, ⟨_, _, by rw [st]; rfl⟩, rfl⟩
    rintro σ Hx ⟨⟨y4, y5, rfl⟩, rfl⟩
    rw [show ws.take (ws.map V.int).length = ws by rw [List.length_map, List.take_length]]
    have lun : (unitsL 1 m).length ≤ 300 := by
      refine Nat.le_trans (List.length_filter_le _ _) ?_
      rw [List.length_map, List.length_range]
      omega
    have ub : ∀ x ∈ unitsL 1 m, 0 ≤ x ∧ x < 300 := fun x hx => by
      obtain ⟨i, hi, rfl⟩ := List.mem_map.mp (List.mem_filter.mp hx).1
      have := List.mem_range.mp hi
      omega
    dsimp only
    refine ⟨_, rfl, rfl, _, rfl, ?_⟩
    by_cases g : gcdW m ws = 1
    rotate_left
    · refine itt (by rw [dec_int]; simpa using g) ?_
      have := k Hx exr
      unfold canonB at this
      rw [decide_eq_false g, Bool.false_and] at this
      exact this
    refine itf (by rw [dec_int]; simpa using g) ?_
    dsimp only [tNext]
    have ec : canonB m ws = (unitsL 2 m).all fun x => decide (ws ≤ mulM x m ws) := by
      unfold canonB
      rw [decide_eq_true g, Bool.true_and]
    refine ⟨_, rfl, u, rfl, ⟨_, SqL.of hu⟩, fun D hD => ?_⟩
    refine lc_new PdRow pdrow_mono (walk_list (xs := (unitsL 1 m).map V.int)) ((unitsL 1 m).map fun z => mulM z m ws) (by simp) (by rw [List.length_map]; omega) hD (fun _ e => SqL.of (e _ _ hu)) ?_ gmono_name ?_
    · rintro i x row Ha Hb R hrow ea ⟨e0, hx⟩ kk
      subst e0
      obtain ⟨z, hz, rfl⟩ := map_get hx
      rw [List.getElem?_map, hz] at hrow
      obtain rfl := Option.some.inj hrow
      have zb := ub z (List.mem_of_getElem? hz)
      have hab := ea _ _ ha
      refine ⟨rfl, ?_⟩
      refine ⟨_, rfl, a, rfl, ⟨_, SqT.of hab⟩, fun D2 hD2 => ?_⟩
      refine lc_vals (walk_tup (xs := ws.map V.int)) ((mulM z m ws).map V.int) (by unfold mulM; simp) (by rw [List.length_map]; omega) hD2 (fun _ e => SqT.of (e _ _ hab)) ?_ gmono_name ?_
      · rintro j y Hc Hd R2 hj ec2 ⟨e1, hy⟩ kk2
        subst e1
        obtain ⟨v, hv, rfl⟩ := map_get hy
        have vb := wb v (List.mem_of_getElem? hv)
        refine ⟨rfl, ?_⟩
        refine ⟨_, rfl, _, rfl, _, _, rfl, rfl, ?_, _, rfl, _, _, rfl, rfl, by omega, kk2 _ _ exr ?_⟩
        · exact (wide_mul (a := 40) (b := 40) (show z.natAbs < 2 ^ 40 by show _ < 1099511627776; omega) (show v.natAbs < 2 ^ 40 by show _ < 1099511627776; omega) (by decide) (by decide) (by decide)).ok
        unfold mulM
        rw [List.getElem?_map, List.getElem?_map, hv]
        rfl
      intro He ee hDe
      refine ⟨D2, _, rfl, .inl ⟨SqL.of hDe, ?_⟩⟩
      (intro t2 nt2; generalize hGt2 : upd _ t2 _ = Hf; have eHf := exG hGt2 nt2; have ht2 := atG hGt2; clear hGt2)
      exact kk _ _ (ext ee eHf) ⟨t2, rfl, ht2⟩
    intro H2 xs e2 hD2 prow
    refine ⟨D, xs, _, rfl, hD2, prow, by rw [unitsL_one m1]; simp, fun i r ts hxi hti hr2 hle => ?_⟩
    refine ⟨_, rfl, iT ts, iT ws, dp_ints hr2, dp_ints (e2 _ _ ha), (sh_ints (n := 59) _).ok, (sh_ints (n := 59) _).ok, ?_⟩
    rw [eqv_ints, least_row m1 wb (List.mem_of_getElem? hti) hle, ← ec]
    exact k H2 e2
end

section
variable {P : Program} {w : World} {K : PySem.W.Frag} {mg : Str → Option Value} {base : Heap}
def sp_law_explains : Sp := fun vs H Q _ => ∃ (l s pl t : Addr) (ns p : List Int) (us : List V) (ms : List (List Int × Bool)) (w3 : W3), vs = [.ref l, .ref s, .ref pl, .ref t] ∧ H l = some (.tup (ns.map V.int)) ∧ SzOk ns ∧ prodL ns ≤ 300 ∧ H s = some (.tup (p.map V.int)) ∧ SeatOk ns p ∧ H pl = some (.lst us) ∧ MovR H us ms ∧ (∀ c ∈ ms, c.1.length = ns.length) ∧ WitAt H t w3.1 w3.2.1 w3.2.2 ∧ 1 ≤ w3.1 ∧ w3.1 ≤ 300 ∧ FitW ns w3.1 w3.2.1 ∧ ∀ H2, Ex H H2 → Q (.bl (explB ns p ms w3)) H2
theorem ok_law_explains (T : TX K mg) : FnOk P w K mg base CX0 2 T.f_law_explains T.fd_law_explains ["_law_rings_here", "_law_start", "_law_played", "_law_witness_tried"] sp_law_explains := by
  refine T.F_law_explains.ok sc_law_explains (fun vs H Q E h => ?_) (fun cdv A outer s H vs Q E hr h => ?_)
  · obtain ⟨l, s, pl, t, ns, p, us, ms, w3, rfl, _⟩ := h
    rfl
  · obtain ⟨l, s, pl, t, ns, p, us, ms, ⟨m, ws, r⟩, rfl, hl, ok, pr, hs, skp, hpl, rm, cl, ⟨wa, ht, hwa⟩, m1, m3, F, k⟩ := h
    refine ⟨_, (pss_cons (ps_asg (pv 3) (pg_tup rfl (pgs_cons (pg_name (i := 4) sc_law_explains.nd rfl (Or.inl rfl)) (pgs_cons (pg_name (i := 5) sc_law_explains.nd rfl (Or.inl rfl)) (pgs_cons (pg_name (i := 6) sc_law_explains.nd rfl (Or.inl rfl)) pgs_nil))))) (pss_cons (ps_set (i := 7) sc_law_explains.nd rfl (Or.inl rfl) (pv 1)) (pss_cons (ps_if (pt_cmpR op_eq (pe_call (ok_law_value T) hr rfl T.m_law_value T.F_law_value.kp T.b_law_value .nil pass0 (pa_cons (pv 4) (pa_cons (pv 5) (pa_cons (pv 7) pa_nil)))) (pv 6) (nomark _)) (pss_one (ps_ret pe_bl)) pss_nil) (pss_cons (ps_for PassesOwn.never rfl (pi_list (pv 2)) (pg_tup rfl (pgs_cons (pg_name (i := 8) sc_law_explains.nd rfl (Or.inl rfl)) (pgs_cons (pg_name (i := 9) sc_law_explains.nd rfl (Or.inl rfl)) pgs_nil))) (pss_cons (ps_set (i := 10) sc_law_explains.nd rfl (Or.inl rfl) (pe_call (ok_law_step T) hr rfl T.m_law_step T.F_law_step.kp T.b_law_step .nil pass0 (pa_cons (pv 0) (pa_cons (pv 7) (pa_cons (pv 8) (pa_cons pe_int pa_nil)))))) (pss_cons (ps_if (pt_cmpR op_ne (pe_cmpR op_eq (pe_call (ok_law_value T) hr rfl T.m_law_value T.F_law_value.kp T.b_law_value .nil pass0 (pa_cons (pv 4) (pa_cons (pv 5) (pa_cons (pv 10) pa_nil)))) (pv 6) (nomark _)) (pe_cmpR op_eq (pv 9) pe_str (nomark _)) (nomark _)) (pss_one (ps_ret pe_bl)) pss_nil) (pss_one (ps_set (i := 7) sc_law_explains.nd rfl (Or.inl rfl) (pe_call (ok_law_step T) hr rfl T.m_law_step T.F_law_step.kp T.b_law_step .nil pass0 (pa_cons (pv 0) (pa_cons (pv 7) (pa_cons (pv 8) (pa_cons (pe_ix ix_list (pe_lst (pa_cons pe_int (pa_cons (pe_un un_neg pe_int) pa_nil))) (pe_callTy call_int1 (by rfl) T.z_int (by decide +kernel) (pa_cons (pe_cmpR op_eq (pv 9) pe_str (nomark _)) pa_nil)) (fun _ _ => rfl)) pa_nil)))))))))) (pss_one (ps_ret pe_bl)))))), ?_⟩
    have l4 := ok.le
    have wb : ∀ x ∈ ws, x.natAbs < 2 ^ 5000 := fun x hx => by
      have := F.w0 x hx
      exact Nat.lt_of_lt_of_le (show x.natAbs < 2 ^ 9 by show _ < 512; dsimp only at m3; omega) (Nat.pow_le_pow_right (by decide) (by decide))
    have pb : ∀ z : List Int, SeatOk ns z → ∀ x ∈ z, x.natAbs < 2 ^ 5000 := fun z sz x hx => by
      have := seat_lt (fun n hn => by have := mul_le_of_mem ok.one hn; omega) sz x hx
      exact Nat.lt_of_lt_of_le (show x.natAbs < 2 ^ 9 by show _ < 512; omega) (Nat.pow_le_pow_right (by decide) (by decide))
    have lu : us.length = ms.length := rm.len
    refine ⟨_, rfl, t, _, rfl, SqT.of ht, rfl, _, _, rfl, _, _, rfl, _, _, rfl, rfl, ?_⟩
    dsimp only
    refine ⟨_, rfl, _, rfl, _, rfl, _, rfl, m, wa, s, ws, p, rfl, by dsimp only at m1; omega, hwa, hs, by rw [F.len, skp.len], by rw [skp.len]; exact l4, wb, pb p skp, fun H1 e1 => ?_⟩
    refine ⟨_, rfl, rfl, _, rfl, ?_⟩
    by_cases c0 : wsum ws p % m = r
    · refine itt (by show decide (V.int (wsum ws p % m) = V.int r) = true; rw [c0]; simp) ?_
      have := k H1 e1
      unfold explB at this
      rw [show (decide (wsum ws p % m ≠ r)) = false from decide_eq_false fun z => z c0, Bool.false_and] at this
      exact this
    refine itf (by show decide (V.int (wsum ws p % m) = V.int r) = false; rw [dec_int]; simpa using c0) ?_
    have ee : explB ns p ms (m, ws, r) = explM ns m r ws p ms := by
      unfold explB
      rw [decide_eq_true (show wsum ws p % m ≠ r from c0), Bool.true_and]
    rw [ee] at k
    dsimp only [tNext]
    refine ⟨_, rfl, pl, rfl, ⟨_, SqL.of (e1 _ _ hpl)⟩, ?_⟩
    refine for_it (walk_list (xs := us)) (fun i σ Hx => (∃ (hr : Addr) (y8 y9 y10 : Option V), σ = [some (.ref l), some (.ref s), some (.ref pl), some (.ref t), some (.int m), some (.ref wa), some (.int r), some (.ref hr), y8, y9, y10] ∧ Hx hr = some (.tup ((posL ns p (ms.take i)).map V.int))) ∧ Ex H Hx ∧ explM ns m r ws p ms = explM ns m r ws (posL ns p (ms.take i)) (ms.drop i)) ⟨⟨s, _, _, _, rfl, e1 _ _ hs⟩, e1, rfl⟩ (fun i σ Hx _ z => SqL.of (z.2.1 _ _ hpl)) ?_ ?_
    · rintro i x σ _ H3 hi ⟨⟨hr0, y8, y9, y10, rfl, hhr⟩, e4, em⟩ ⟨rfl, hx⟩
      obtain ⟨c, hci, mr, cr, rfl, hmr, hcr⟩ := paired_get rm hx
      have il : i < ms.length := (List.getElem?_eq_some_iff.mp hci).1
      have lc := cl c (List.mem_of_getElem? hci)
      have skq : SeatOk ns (posL ns p (ms.take i)) := pos_ok ok.one skp fun d hd => cl d (List.mem_of_mem_take hd)
      have ed : ms.drop i = c :: ms.drop (i + 1) := by
        rw [List.drop_eq_getElem_cons il]
        congr 1
        have := List.getElem?_eq_getElem il
        rw [hci] at this
        exact (Option.some.inj this).symm
      have nx : posL ns p (ms.take (i + 1)) = shiftL ns (posL ns p (ms.take i)) c.1 (sgD c.2) := by
        rw [take_more hci, pos_snoc]
      refine ⟨mr, _, rfl, SqT.of (e4 _ _ hmr), rfl, _, _, rfl, _, _, rfl, rfl, ?_⟩
      dsimp only [gName]
      refine ⟨_, rfl, _, rfl, _, rfl, l, hr0, cr, 1, ns, posL ns p (ms.take i), c.1, rfl, e4 _ _ hl, ok, hhr, e4 _ _ hcr, skq.len, lc, .inl rfl, fun H5 f e5 nf hf => ?_⟩
      have e6 : Ex H H5 := ext e4 e5
      have skf : SeatOk ns (shiftL ns (posL ns p (ms.take i)) c.1 1) := shift_seat ok.one skq.len lc
      dsimp only [gName]
      refine ⟨_, rfl, _, rfl, _, rfl, m, wa, f, ws, shiftL ns (posL ns p (ms.take i)) c.1 1, rfl, by dsimp only at m1; omega, e6 _ _ hwa, hf, by rw [F.len, skf.len], by rw [skf.len]; exact l4, wb, pb _ skf, fun H6 e7 => ?_⟩
      have e8 := ext e6 e7
      refine ⟨_, rfl, rfl, _, rfl, rfl, rfl, _, rfl, ?_⟩
      have est : explM ns m r ws p ms = ((decide (wsum ws (shiftL ns (posL ns p (ms.take i)) c.1 1) % m = r) == c.2) && explM ns m r ws (posL ns p (ms.take (i + 1))) (ms.drop (i + 1))) := by
        rw [em, ed, nx]
        rfl
      have etest : (!decide (V.bl (decide (V.int (wsum ws (shiftL ns (posL ns p (ms.take i)) c.1 1) % m) = V.int r)) = V.bl (decide (V.str (dirS c.2) = V.str "backward")))) = !(decide (wsum ws (shiftL ns (posL ns p (ms.take i)) c.1 1) % m = r) == c.2) := by
        rw [show decide (V.int (wsum ws (shiftL ns (posL ns p (ms.take i)) c.1 1) % m) = V.int r) = decide (wsum ws (shiftL ns (posL ns p (ms.take i)) c.1 1) % m = r) from decide_eq_decide.mpr ⟨V.int.inj, congrArg V.int⟩]
        generalize decide (wsum ws (shiftL ns (posL ns p (ms.take i)) c.1 1) % m = r) = z
        cases z <;> cases c.2 <;> decide +kernel
      cases hz : (decide (wsum ws (shiftL ns (posL ns p (ms.take i)) c.1 1) % m = r) == c.2) with
      | false =>
        rw [hz, Bool.false_and] at est
        have := k H6 e8
        rw [est] at this
        exact itt (etest.trans (by rw [hz]; rfl)) this
      | true =>
        rw [hz, Bool.true_and] at est
        refine itf (etest.trans (by rw [hz]; rfl)) ?_
        dsimp only [tNext]
        refine ⟨_, rfl, _, rfl, _, rfl, ?_⟩
        refine ⟨_, rfl, slen rfl, ?_⟩
        (intro al nal; generalize hGal : upd _ al _ = H7; have eH7 := exG hGal nal; have hal := atG hGal; clear hGal)
        refine ⟨_, rfl, rfl, .inr ⟨_, rfl, ?_⟩⟩
        have hsg : atI [V.int 1, V.int (-1)] (if decide (V.str (dirS c.2) = V.str "backward") = true then 1 else 0) = some (.int (sgD c.2)) := by
          cases c.2 <;> rfl
        have e9 := ext e8 eH7
        refine ⟨al, _, _, _, rfl, rfl, SqL.of hal, hsg, ?_⟩
        refine ⟨l, hr0, cr, sgD c.2, ns, posL ns p (ms.take i), c.1, rfl, e9 _ _ hl, ok, (ext e5 (ext e7 eH7)) _ _ hhr, e9 _ _ hcr, skq.len, lc, ?_, fun H8 z e10 nz hz2 => ?_⟩
        · cases c.2
          · exact .inl rfl
          · exact .inr rfl
        exact ⟨⟨z, _, _, _, rfl, by rw [nx]; exact hz2⟩, ext e9 e10, est⟩
    rintro σ H3 ⟨⟨hr0, y8, y9, y10, rfl, hhr⟩, e4, em⟩
    have := k H3 e4
    rw [em, List.drop_of_length_le (by omega)] at this
    exact this
end
section
variable {P : Program} {w : World} {K : PySem.W.Frag} {mg : Str → Option Value} {base : Heap}
def sp_law_due : Sp := fun vs H Q _ => ∃ (l s pl : Addr) (ns p : List Int) (us : List V) (ms : List (List Int × Bool)), vs = [.ref l, .ref s, .ref pl] ∧ H l = some (.tup (ns.map V.int)) ∧ SzOk ns ∧ prodL ns ≤ 300 ∧ H s = some (.tup (p.map V.int)) ∧ SeatOk ns p ∧ H pl = some (.lst us) ∧ MovR H us ms ∧ (∀ c ∈ ms, c.1.length = ns.length) ∧
  ∀ (f : Addr) (zs : List V) H2, Ex H H2 → H f = none → H2 f = some (.lst zs) → Paired (PdW H2) zs (dueL ns p ms) → Q (.ref f) H2
theorem ok_law_due (T : TX K mg) : FnOk P w K mg base CX0 3 T.f_law_due T.fd_law_due ["_law_rings_here", "_law_start", "_law_played"] sp_law_due := by
  refine T.F_law_due.ok sc_law_due (fun vs H Q E h => ?_) (fun cdv A outer s H vs Q E hr h => ?_)
  · obtain ⟨l, s, pl, ns, p, us, ms, rfl, _⟩ := h
    rfl
  · obtain ⟨l, s, pl, ns, p, us, ms, rfl, hl, ok, pr, hs, skp, hpl, rm, cl, k⟩ := h
    refine ⟨_, (pss_cons (ps_set (i := 3) sc_law_due.nd rfl (Or.inl rfl) (pe_lst pa_nil)) (pss_cons (ps_for PassesOwn.never rfl (pi_range3 rfl T.z_range (pa_cons pe_int (pa_cons pe_int (pa_cons pe_int pa_nil)))) (pg_name (i := 4) sc_law_due.nd rfl (Or.inr rfl)) (pss_cons (ps_setLc (own := [("_law_unit", 8)]) (g := (gName 8)) (i := 5) rfl sc_law_due.nd rfl rfl (sw_true rfl rfl rfl (by decide +kernel)) (pi_range2 rfl T.z_range (pa_cons pe_int (pa_cons (pv 4) pa_nil))) (blkOk_by (N := N_law_due) (sc := defScope s_law_due) (by decide +kernel)) (fun _ _ _ _ _ => (pg_name (i := 8) sc_law_due.nd rfl (Or.inl rfl))) (fun _ _ _ _ _ => (pts_one (pt_cmpR op_eq (pe_call (ok_law_divisor T) (hr.mono (by decide)) rfl T.m_law_divisor T.F_law_divisor.kp T.b_law_divisor .nil pass0 (pa_cons (pv 8) (pa_cons (pv 4) pa_nil))) pe_int (nomark _)))) (fun _ _ _ _ _ => (pv 8))) (pss_one (ps_for PassesOwn.never rfl (pi_list (pe_call (ok_law_weights T) (hr.mono (by decide)) rfl T.m_law_weights T.F_law_weights.kp T.b_law_weights .nil pass0 (pa_cons (pv 0) (pa_cons (pv 4) pa_nil)))) (pg_name (i := 6) sc_law_due.nd rfl (Or.inr rfl)) (pss_one (ps_if (pt_val (pe_call (ok_law_is_canonical T) hr rfl T.m_law_is_canonical T.F_law_is_canonical.kp T.b_law_is_canonical .nil pass0 (pa_cons (pv 4) (pa_cons (pv 5) (pa_cons (pv 6) pa_nil))))) (pss_cons (ps_setLc (own := [("_law_residue", 9)]) (g := (gName 9)) (i := 7) rfl sc_law_due.nd rfl rfl (sw_true rfl rfl rfl (by decide +kernel)) (pi_range1 rfl T.z_range (pa_cons (pv 4) pa_nil)) (blkOk_by (N := N_law_due) (sc := defScope s_law_due) (by decide +kernel)) (fun _ _ _ _ _ => (pg_name (i := 9) sc_law_due.nd rfl (Or.inl rfl))) (fun _ _ _ _ _ => pts_nil) (fun _ _ _ _ _ => (pe_tup (pa_cons (pv 4) (pa_cons (pv 6) (pa_cons (pv 9) pa_nil)))))) (pss_one (ps_expr (pe_bm PySem.F.plainAttrs_list PySem.F.slot_list_extend PySem.F.type_list_extend mt_extend (pv 3) (pa_cons (pe_lc (own := [("_law_one_here", 10)]) (g := (gName 10)) rfl sc_law_due.nd (pi_list (pv 7)) (blkOk_by (N := N_law_due) (sc := defScope s_law_due) (by decide +kernel)) (fun _ _ _ _ _ => (pg_name (i := 10) sc_law_due.nd rfl (Or.inl rfl))) (fun _ _ _ _ _ => (pts_one (pt_val (pe_call (ok_law_explains T) hr rfl T.m_law_explains T.F_law_explains.kp T.b_law_explains .nil pass0 (pa_cons (pv 0) (pa_cons (pv 1) (pa_cons (pv 2) (pa_cons (pv 10) pa_nil)))))))) (fun _ _ _ _ _ => (pv 10))) pa_nil))))) pss_nil)))))) (pss_one (ps_ret (pv 3))))), ?_⟩
    have l4 := ok.le
    refine ⟨slen rfl, ?_⟩
    (intro fl nfl; generalize hGfl : upd _ fl _ = H1; have eH1 := exG hGfl nfl; have hfl := atG hGfl; clear hGfl)
    dsimp only [gName]
    have D_len : ∀ i, i ≤ 22 → ((oddsTo i).flatMap (witsM ns p ms)).length ≤ 22 * 90000 := fun i hi => by
      refine Nat.le_trans (flat_le (c := 90000) fun m hm => ?_) (Nat.mul_le_mul_right _ ?_)
      · obtain ⟨j, hj, rfl⟩ := List.mem_map.mp hm
        have := List.mem_range.mp hj
        exact wits_len ok.one pr (by omega) (by omega)
      · unfold oddsTo
        rw [List.length_map, List.length_range]
        exact hi
    refine ⟨3, 46, 2, 22, rfl, ⟨by decide, by decide, by decide, by decide⟩, ?_⟩
    refine for_it walk_rangeC (fun i σ Hx => (∃ y4 y5 y6 y7 y8 y9 y10 : Option V, σ = [some (.ref l), some (.ref s), some (.ref pl), some (.ref fl), y4, y5, y6, y7, y8, y9, y10]) ∧ Ex H Hx ∧ WsAt Hx fl ((oddsTo i).flatMap (witsM ns p ms))) ⟨⟨_, _, _, _, _, _, _, rfl⟩, eH1, [], hfl, .nil⟩ (fun _ _ _ _ _ => True.intro) ?_ ?_
    · rintro i x σ _ Hx hi ⟨⟨y4, y5, y6, y7, y8, y9, y10, rfl⟩, ex, W⟩ ⟨rfl, rfl⟩
      have hi' : i < 22 := hi
      have gs : (oddsTo (i + 1)).flatMap (witsM ns p ms) = (oddsTo i).flatMap (witsM ns p ms) ++ witsM ns p ms (3 + (i : Int) * 2) := by
        unfold oddsTo
        rw [List.range_succ, List.map_append, List.flatMap_append]
        simp
      have gl := D_len i (by omega)
      have m1 : 3 ≤ 3 + (i : Int) * 2 := by omega
      have m2 : 3 + (i : Int) * 2 ≤ 300 := by omega
      dsimp only [gName]
      generalize (oddsTo i).flatMap (witsM ns p ms) = L0 at W gs gl
      generalize hm : 3 + (i : Int) * 2 = m at m1 m2 gs
      refine ⟨_, rfl, 1, m, rfl, by omega, fun D hD => ?_⟩
      refine lc_filt walk_range ((List.range (m - 1).toNat).map fun (i : Nat) => (1 : Int) + (i : Int)) (fun u => decide (gcdI u m = 1)) V.int (by simp) (by omega) hD (fun _ _ => True.intro) ?_ ?_
      · rintro i2 x u Ha Hb R S hu ea ⟨e0, e1⟩ kR kS
        subst e0 e1
        rw [List.getElem?_map] at hu
        obtain ⟨j, hj, rfl⟩ := Option.map_eq_some_iff.mp hu
        obtain ⟨_, ej⟩ := List.getElem?_eq_some_iff.mp hj
        rw [List.getElem_range] at ej
        subst ej
        refine ⟨rfl, _, rfl, _, rfl, _, _, rfl, by omega, by omega, rfl, _, rfl, ?_⟩
        by_cases c : gcdI (1 + (i2 : Int)) m = 1
        · exact itt (decide_eq_true (congrArg V.int c)) ⟨_, rfl, kR _ _ exr (decide_eq_true c) rfl⟩
        · exact itf (decide_eq_false fun z => c (V.int.inj z)) (kS _ exr (decide_eq_false c))
      intro H2 e2 hD2
      have hD3 : H2 D = some (.lst ((unitsL 1 m).map V.int)) := hD2
      have ex2 := ext ex e2
      have W2 := W.mono e2
      clear hD2
      dsimp only [gName]
      refine ⟨_, rfl, _, rfl, l, ns, m, rfl, ex2 _ _ hl, ok, pr, by omega, m2, fun rw H3 e3 nrw ⟨xs, hxs, rr⟩ => ?_⟩
      have lxs := rr.len
      have ex3 := ext ex2 e3
      have hD4 := e3 _ _ hD3
      have W3' := W2.mono e3
      have nrf : rw ≠ fl := fun z => by
        obtain ⟨ys, h1, _⟩ := W2
        rw [z, h1] at nrw
        cases nrw
      let g : List Int → List W3 := fun ws => (resL m ws).filter (explB ns p ms)
      refine ⟨rw, rfl, ⟨_, SqL.of hxs⟩, ?_⟩
      have nDf : D ≠ fl := fun z => by
        obtain ⟨ys, h1, _⟩ := W
        rw [z, h1] at hD
        cases hD
      have F_len : ∀ j, ((((rowsW ns m).take j).filter (canonB m)).flatMap g).length ≤ 90000 := fun j => by
        refine Nat.le_trans (flat_le (c := 300) fun ws _ => ?_) ?_
        · refine Nat.le_trans (List.length_filter_le _ _) ?_
          rw [resL_len]
          omega
        · have h1 : (((rowsW ns m).take j).filter (canonB m)).length ≤ ((rowsW ns m).take j).length := List.length_filter_le _ _
          have h2 := rowsW_len (m := m) (by omega) ns ok.one
          rw [List.length_take] at h1
          have : (((rowsW ns m).take j).filter (canonB m)).length * 300 ≤ 300 * 300 := Nat.mul_le_mul_right _ (by omega)
          omega
      have F_succ : ∀ (j : Nat) (ws : List Int), (rowsW ns m)[j]? = some ws → (((rowsW ns m).take (j + 1)).filter (canonB m)).flatMap g = (((rowsW ns m).take j).filter (canonB m)).flatMap g ++ if canonB m ws = true then g ws else [] := fun j ws hj => by
        rw [take_more hj, List.filter_append, List.flatMap_append]
        cases hc : canonB m ws with
        | true =>
          rw [List.filter_cons_of_pos hc]
          simp
        | false =>
          rw [List.filter_cons_of_neg (by simp [hc])]
          simp
      have F_all : ((rowsW ns m).filter (canonB m)).flatMap g = witsM ns p ms m := by
        unfold witsM
        generalize (rowsW ns m).filter (canonB m) = rs
        induction rs with
        | nil => rfl
        | cons a rs ih => rw [List.flatMap_cons, List.flatMap_cons, List.filter_append, ih]
      have lrw := rowsW_len (m := m) (by omega) ns ok.one
      refine for_it (walk_list (xs := xs)) (fun j σ Hy => (∃ y6 y7 y8 y9 y10 : Option V, σ = [some (.ref l), some (.ref s), some (.ref pl), some (.ref fl), some (.int m), some (.ref D), y6, y7, y8, y9, y10]) ∧ Ex H Hy ∧ XB fl H3 Hy ∧ WsAt Hy fl (L0 ++ (((rowsW ns m).take j).filter (canonB m)).flatMap g)) ⟨⟨_, _, _, _, _, rfl⟩, ex3, fun _ _ _ z => z, by simpa using W3'⟩ (fun j σ Hy _ z => SqL.of (z.2.2.1 _ _ nrf hxs)) ?_ ?_
      · rintro j x σ _ Hy hj ⟨⟨y6, y7, y8, y9, y10, rfl⟩, ey, xb, Wy⟩ ⟨rfl, hx⟩
        obtain ⟨ws, r, hws, rfl, hr3⟩ := rr.get hx
        obtain ⟨ys3, hy3, _⟩ := id W3'
        have hry := xb _ _ (ne_of hr3 hy3 (by intro z; cases z)) hr3
        have F := rows_fit (List.mem_of_getElem? hws)
        have fs := F_succ j ws hws
        have fl0 := F_len j
        have rl : (resL m ws).length = m.toNat := resL_len m ws
        dsimp only [gName]
        refine ⟨_, rfl, _, rfl, _, rfl, m, D, r, ws, rfl, by omega, m2, xb _ _ nDf hD4, hry, by rw [F.len]; exact l4, F.w0, fun H4 e4 => ⟨_, rfl, ?_⟩⟩
        generalize (((rowsW ns m).take j).filter (canonB m)).flatMap g = L1 at fs Wy fl0
        cases hc : canonB m ws with
        | false =>
          rw [hc] at fs
          refine itf rfl ⟨⟨_, _, _, _, _, rfl⟩, ext ey e4, fun c o n z => e4 _ _ (xb c o n z), ?_⟩
          rw [fs]
          simpa using Wy.mono e4
        | true =>
          rw [hc, if_pos rfl] at fs
          refine itt rfl ?_
          have ey4 := ext ey e4
          have hr4 := e4 _ _ hry
          refine ⟨_, rfl, m, rfl, by omega, by omega, fun D2 hD2 => ?_⟩
          refine lc_new PdW pdw_mono walk_range (resL m ws) rl (by omega) hD2 (fun _ _ => True.intro) ?_ gmono_name ?_
          · rintro t x w3 Ha Hb R hw ea ⟨e0, e1⟩ kk
            subst e0 e1
            unfold resL at hw
            rw [List.getElem?_map] at hw
            obtain ⟨j', hj', rfl⟩ := Option.map_eq_some_iff.mp hw
            obtain ⟨_, ej⟩ := List.getElem?_eq_some_iff.mp hj'
            rw [List.getElem_range] at ej
            subst ej
            refine ⟨rfl, _, rfl, _, rfl, _, rfl, slen rfl, ?_⟩
            (intro tw ntw; generalize hGtw : upd _ tw _ = Hc; have eHc := exG hGtw ntw; have htw := atG hGtw; clear hGtw)
            exact kk _ _ eHc ⟨tw, rfl, r, by rw [htw]; show some (HO.tup [V.int m, V.ref r, V.int ((0 : Int) + (t : Int))]) = some (HO.tup [V.int m, V.ref r, V.int (t : Int)]); rw [Int.zero_add], eHc _ _ (ea _ _ hr4)⟩
          intro H5 zs e5 hz pz
          have lz := Paired.length pz
          have ey5 := ext ey4 e5
          have W5 := Wy.mono (ext e4 e5)
          obtain ⟨z0, hfl5, pz0⟩ := W5
          dsimp only [gName]
          refine ⟨_, rfl, .inl ⟨rfl, _, SqL.of hfl5⟩, _, rfl, D2, rfl, ⟨_, SqL.of hz⟩, fun D3 hD3 => ?_⟩
          refine lc_filt (walk_list (xs := zs)) (zs.zip (resL m ws)) (fun z => explB ns p ms z.2) (fun z => z.1) (by rw [List.length_zip]; omega) (by omega) hD3 (fun _ ea => SqL.of (ea _ _ hz)) ?_ ?_
          · rintro t x z Ha Hb R S hz2 ea ⟨e0, hx3⟩ kR kS
            subst e0
            obtain ⟨hz1, hz3⟩ := List.getElem?_zip_eq_some.mp hz2
            obtain ⟨w3, hw, tw, rfl, hwit⟩ := paired_get pz hx3
            have ez : z = (V.ref tw, w3) := by
              rw [hx3] at hz1
              rw [hw] at hz3
              exact Prod.ext (Option.some.inj hz1).symm (Option.some.inj hz3).symm
            subst ez
            obtain ⟨j', _, rfl⟩ := List.mem_map.mp (List.mem_of_getElem? hw)
            obtain ⟨wa, w1, w2⟩ := hwit
            have Ea := ext ey5 ea
            refine ⟨rfl, _, rfl, _, rfl, _, rfl, _, rfl, l, s, pl, tw, ns, p, us, ms, (m, ws, (j' : Int)), rfl, Ea _ _ hl, ok, pr, Ea _ _ hs, skp, Ea _ _ hpl, rm.mono Ea, cl, ⟨wa, ea _ _ w1, ea _ _ w2⟩, by show (1 : Int) ≤ m; omega, m2, F, fun H9 e9 => ?_⟩
            cases hc2 : explB ns p ms (m, ws, (j' : Int)) with
            | true => exact ⟨_, rfl, ⟨_, rfl, kR _ _ e9 hc2 rfl⟩⟩
            | false => exact ⟨_, rfl, kS _ e9 hc2⟩
          intro H9 e9 hD9
          have pf := paired_mono (fun _ _ q => pdw_ex e9 q) (paired_filt (explB ns p ms) pz)
          have pf2 : Paired (PdW H9) (((zs.zip (resL m ws)).filter fun z => explB ns p ms z.2).map fun z => z.1) (g ws) := pf
          generalize ((zs.zip (resL m ws)).filter fun z => explB ns p ms z.2).map (fun z => z.1) = fv at hD9 pf2
          clear pf
          have hf9 := e9 _ _ hfl5
          have lg : (g ws).length ≤ 300 := by
            refine Nat.le_trans (List.length_filter_le _ _) ?_
            rw [rl]
            omega
          have lfv := Paired.length pf2
          refine ⟨fl, D3, _, _, rfl, rfl, hf9, hD9, ?_, ?_⟩
          · rw [Paired.length pz0, List.length_append]
            have : sizeLine = 16777216 := by decide
            omega
          have tp : ∀ c ys, H9 c = some (.tup ys) → upd H9 fl (.lst (z0 ++ fv)) c = some (.tup ys) := fun c ys z => by
            rw [upd_ne (ne_of z hf9 (by intro z; cases z))]
            exact z
          refine ⟨⟨_, _, _, _, _, rfl⟩, ex_upd (ext ey5 e9) nfl, fun c o n z => ?_, _, upd_same, ?_⟩
          · rw [upd_ne n]
            exact e9 _ _ (e5 _ _ (e4 _ _ (xb c o n z)))
          rw [fs, ← List.append_assoc]
          exact paired_join (paired_mono (fun _ _ q => pdw_mono _ _ _ _ tp (pdw_ex e9 q)) pz0) (paired_mono (fun _ _ q => pdw_mono _ _ _ _ tp q) pf2)
      rintro σ Hy ⟨⟨y6, y7, y8, y9, y10, rfl⟩, ey, xb, Wy⟩
      rw [List.take_of_length_le (by omega), F_all, ← gs] at Wy
      exact ⟨⟨_, _, _, _, _, _, _, rfl⟩, ey, Wy⟩
    rintro σ Hx ⟨⟨y4, y5, y6, y7, y8, y9, y10, rfl⟩, ex, zs, hz, pz⟩
    exact ⟨_, rfl, k fl zs Hx ex nfl hz pz⟩
end

section
variable {P : Program} {w : World} {K : PySem.W.Frag} {mg : Str → Option Value} {base : Heap}
/-- a cut list of ints is one -/
theorem cut_ints (ns : List Int) (lo hi : Option Int) : ∃ ms : List Int, cutV (ns.map V.int ++ [V.int 0]) lo hi = ms.map V.int := by
  refine ⟨((ns ++ [0]).drop (HT.sIx (ns.map V.int ++ [V.int 0]).length 0 lo)).take (HT.sIx (ns.map V.int ++ [V.int 0]).length (ns.map V.int ++ [V.int 0]).length hi - HT.sIx (ns.map V.int ++ [V.int 0]).length 0 lo), ?_⟩
  unfold cutV
  rw [List.map_take, List.map_drop, List.map_append]
  rfl
end
theorem cut_of (ns : List Int) (lo hi : Option Int) : ∃ ms : List Int, cutV (ns.map V.int) lo hi = ms.map V.int ∧ ms.length ≤ ns.length := by
  refine ⟨(ns.drop (HT.sIx (ns.map V.int).length 0 lo)).take (HT.sIx (ns.map V.int).length (ns.map V.int).length hi - HT.sIx (ns.map V.int).length 0 lo), ?_, ?_⟩
  · unfold cutV
    rw [List.map_take, List.map_drop]
  · rw [List.length_take, List.length_drop]
    omega

theorem kb_consistent_witnesses_210 {K : PySem.W.Frag} {mg : Str → Option Value} (T : TX K mg) : KBn K T.fd_consistent_witnesses ["table", "seat", "moves"] 0 ["moves", "seat", "table"] (fun us ws => pick [2, 1, 0] (us ++ ws)) (fun vs zs => pick [2, 1, 0] (vs ++ zs)) :=
  kbn_of T.F_consistent_witnesses 0 ["moves", "seat", "table"] [2, 1, 0] fun _ _ _ _ _ _ us ws h1 h2 => match us, ws, h1, h2 with | [], [_, _, _], _, _ => rfl
section
variable {P : Program} {w : World} {K : PySem.W.Frag} {mg : Str → Option Value} {base : Heap}
def largeM (m : Int) : List W3 := (List.range (m - 1).toNat).map fun (r : Nat) => (m, [(1 : Int)], (1 : Int) + (r : Int))
def sp_law_large_due : Sp := fun vs H Q _ => vs = [] ∧ ∀ (f : Addr) (zs : List V) H2, Ex H H2 → H f = none → H2 f = some (.lst zs) → Paired (PdW H2) zs largeL → Q (.ref f) H2
theorem ok_law_large_due (T : TX K mg) : FnOk P w K mg base CX0 1 T.f_law_large_due T.fd_law_large_due [] sp_law_large_due := by
  refine T.F_law_large_due.ok sc_law_large_due (fun vs H Q E h => ?_) (fun cdv A outer s H vs Q E hr h => ?_)
  · obtain ⟨rfl, _⟩ := h
    rfl
  · obtain ⟨rfl, k⟩ := h
    refine ⟨_, (pss_cons (ps_set (i := 0) sc_law_large_due.nd rfl (Or.inl rfl) (pe_lst pa_nil)) (pss_cons (ps_for PassesOwn.never rfl (pi_tup (pe_tup (pa_cons pe_int (pa_cons pe_int (pa_cons pe_int pa_nil))))) (pg_name (i := 1) sc_law_large_due.nd rfl (Or.inr rfl)) (pss_one (ps_expr (pe_bm PySem.F.plainAttrs_list PySem.F.slot_list_extend PySem.F.type_list_extend mt_extend (pv 0) (pa_cons (pe_lc (own := [("_law_residue", 2)]) (g := (gName 2)) rfl sc_law_large_due.nd (pi_range2 rfl T.z_range (pa_cons pe_int (pa_cons (pv 1) pa_nil))) (blkOk_by (N := N_law_large_due) (sc := defScope s_law_large_due) (by decide +kernel)) (fun _ _ _ _ _ => (pg_name (i := 2) sc_law_large_due.nd rfl (Or.inl rfl))) (fun _ _ _ _ _ => pts_nil) (fun _ _ _ _ _ => (pe_tup (pa_cons (pv 1) (pa_cons (pe_tup (pa_cons pe_int pa_nil)) (pa_cons (pv 2) pa_nil)))))) pa_nil))))) (pss_one (ps_ret (pv 0))))), ?_⟩
    refine ⟨slen rfl, ?_⟩
    (intro fl nfl; generalize hGfl : upd _ fl _ = H1; have eH1 := exG hGfl nfl; have hfl := atG hGfl; clear hGfl)
    refine ⟨slen rfl, ?_⟩
    (intro tt ntt; generalize hGtt : upd _ tt _ = H2; have eH2 := exG hGtt ntt; have htt := atG hGtt; clear hGtt)
    have E2 := ext eH1 eH2
    refine ⟨tt, rfl, ⟨_, SqT.of htt⟩, ?_⟩
    refine for_it (walk_tup (xs := ([13, 23, 299] : List Int).map V.int)) (fun i σ Hx => (∃ y1 y2 : Option V, σ = [some (.ref fl), y1, y2]) ∧ Ex H Hx ∧ XB fl H2 Hx ∧ WsAt Hx fl ((([13, 23, 299] : List Int).take i).flatMap largeM)) ⟨⟨_, _, rfl⟩, E2, fun _ _ _ z => z, [], eH2 _ _ hfl, .nil⟩ (fun i σ Hx _ z => SqT.of (z.2.2.1 _ _ (ne_of htt (eH2 _ _ hfl) (by intro z; cases z)) htt)) ?_ ?_
    · rintro i x σ _ Hx hi ⟨⟨y1, y2, rfl⟩, ex, xb, W⟩ ⟨rfl, hx⟩
      obtain ⟨m, hm, rfl⟩ := map_get hx
      have m2 : 2 ≤ m ∧ m ≤ 300 := by
        have := List.mem_of_getElem? hm
        simp only [List.mem_cons, List.not_mem_nil, or_false] at this
        omega
      have fs : (([13, 23, 299] : List Int).take (i + 1)).flatMap largeM = (([13, 23, 299] : List Int).take i).flatMap largeM ++ largeM m := by
        rw [take_more hm, List.flatMap_append]
        simp
      obtain ⟨z0, hf0, pz0⟩ := W
      have lz0 : z0.length ≤ 1000 := by
        rw [Paired.length pz0]
        refine Nat.le_trans (flat_le (c := 300) fun a ha => ?_) ?_
        · unfold largeM
          rw [List.length_map, List.length_range]
          have := List.mem_of_mem_take ha
          simp only [List.mem_cons, List.not_mem_nil, or_false] at this
          omega
        · rw [List.length_take]
          have : min i ([13, 23, 299] : List Int).length ≤ 3 := Nat.min_le_right _ _
          omega
      generalize (([13, 23, 299] : List Int).take i).flatMap largeM = L0 at pz0 fs
      dsimp only [gName]
      refine ⟨_, rfl, .inl ⟨rfl, _, SqL.of hf0⟩, ?_⟩
      refine ⟨_, rfl, 1, m, rfl, by omega, fun D hD => ?_⟩
      refine lc_new PdW pdw_mono walk_range (largeM m) (by unfold largeM; rw [List.length_map, List.length_range]) (by omega) hD (fun _ _ => True.intro) ?_ gmono_name ?_
      · rintro t x w3 Ha Hb R hw ea ⟨e0, e1⟩ kk
        subst e0 e1
        unfold largeM at hw
        rw [List.getElem?_map] at hw
        obtain ⟨j', hj', rfl⟩ := Option.map_eq_some_iff.mp hw
        obtain ⟨_, ej⟩ := List.getElem?_eq_some_iff.mp hj'
        rw [List.getElem_range] at ej
        subst ej
        refine ⟨rfl, _, rfl, slen rfl, ?_⟩
        (intro o1 no1; generalize hGo1 : upd _ o1 _ = Hc; have eHc := exG hGo1 no1; have ho1 := atG hGo1; clear hGo1)
        refine ⟨_, rfl, slen rfl, ?_⟩
        (intro tw ntw; generalize hGtw : upd _ tw _ = Hd; have eHd := exG hGtw ntw; have htw := atG hGtw; clear hGtw)
        exact kk _ _ (ext eHc eHd) ⟨tw, rfl, o1, htw, eHd _ _ ho1⟩
      intro H5 fv e5 hfv pf
      have hf5 := e5 _ _ hf0
      have lfv : fv.length ≤ 1000 := by
        rw [Paired.length pf]
        unfold largeM
        rw [List.length_map, List.length_range]
        omega
      refine ⟨fl, D, _, _, rfl, rfl, hf5, hfv, Nat.le_trans (show _ ≤ 2000 by omega) (by decide), ?_⟩
      have tp : ∀ c ys, H5 c = some (.tup ys) → upd H5 fl (.lst (z0 ++ fv)) c = some (.tup ys) := fun c ys z => by
        rw [upd_ne (ne_of z hf5 (by intro z; cases z))]
        exact z
      refine ⟨⟨_, _, rfl⟩, ex_upd (ext ex e5) nfl, fun c o n z => ?_, _, upd_same, ?_⟩
      · rw [upd_ne n]
        exact e5 _ _ (xb c o n z)
      rw [fs]
      exact paired_join (paired_mono (fun _ _ q => pdw_mono _ _ _ _ tp (pdw_ex e5 q)) pz0) (paired_mono (fun _ _ q => pdw_mono _ _ _ _ tp q) pf)
    rintro σ Hx ⟨⟨y1, y2, rfl⟩, ex, xb, zs, hz, pz⟩
    exact ⟨_, rfl, k fl zs Hx ex nfl hz pz⟩
end
def PdMv (H : Hp) (v : V) (c : List Int × Bool) : Prop := ∃ r cc, v = V.ref r ∧ H r = some (.tup [.ref cc, .str (dirS c.2)]) ∧ H cc = some (.tup (c.1.map V.int))
theorem pdmv_mono (H H2 : Hp) (v : V) (c : List Int × Bool) (e : ∀ c xs, H c = some (.tup xs) → H2 c = some (.tup xs)) (h : PdMv H v c) : PdMv H2 v c := by
  obtain ⟨r, cc, h1, h2, h3⟩ := h
  exact ⟨r, cc, h1, e _ _ h2, e _ _ h3⟩
def encW (w3 : W3) : PyData := .tuple [.int w3.1, iT w3.2.1, .int w3.2.2]
theorem dp_wits {K : PySem.W.Frag} {H : Hp} : ∀ {xs : List V} {L : List W3}, Paired (PdW H) xs L → DpAll K H xs (L.map encW)
  | _, _, .nil => .nil
  | _, _, .cons ⟨t, e, wa, h1, h2⟩ tl => by
    subst e
    exact .cons (.tup (SqT.of h1) (.cons (.int _) (.cons (dp_ints h2) (.cons (.int _) .nil)))) (dp_wits tl)
theorem sh_wits (L : List W3) : Sh 60 (.list (L.map encW)) := sh_list (n := 59) fun e he => by
  obtain ⟨x, _, rfl⟩ := List.mem_map.mp he
  refine sh_tuple (n := 58) fun d hd => ?_
  simp only [List.mem_cons, List.not_mem_nil, or_false] at hd
  rcases hd with rfl | rfl | rfl
  · exact sh_int _
  · exact sh_ints (n := 57) _
  · exact sh_int _
theorem ne_wits {K : PySem.W.Frag} {H : Hp} {f g : Addr} {zs ys : List V} {L : List W3} {Q : VK} (hf : H f = some (.lst zs)) (rf : Paired (PdW H) zs L) (hg : H g = some (.lst ys)) (rg : Paired (PdW H) ys L) (k : Q (.bl false) H) : rNeD K (.ref f) (.ref g) H Q :=
  ⟨.list (L.map encW), .list (L.map encW), .lst (SqL.of hf) (dp_wits rf), .lst (SqL.of hg) (dp_wits rg), (sh_wits L).ok, (sh_wits L).ok, by
    rw [eqv_refl _ (sh_wits L).1]
    exact k⟩
theorem eq_wits {K : PySem.W.Frag} {H : Hp} {f g : Addr} {zs ys : List V} {L : List W3} {Q : VK} (hf : H f = some (.lst zs)) (rf : Paired (PdW H) zs L) (hg : H g = some (.lst ys)) (rg : Paired (PdW H) ys L) (k : Q (.bl true) H) : rEqD K (.ref f) (.ref g) H Q :=
  ⟨.list (L.map encW), .list (L.map encW), .lst (SqL.of hf) (dp_wits rf), .lst (SqL.of hg) (dp_wits rg), (sh_wits L).ok, (sh_wits L).ok, by
    rw [eqv_refl _ (sh_wits L).1]
    exact k⟩
section
variable {P : Program} {w : World} {K : PySem.W.Frag} {mg : Str → Option Value} {base : Heap}
def sp_law (K : PySem.W.Frag) : Sp := fun vs H Q _ => ∃ (a : Addr) (ns : List Int), vs = [.ref a] ∧ SqL K H a (ns.map V.int) ∧ ns.length ≤ 63 ∧ ∀ H2, Q (.bl true) H2
theorem ok_law (T : TX K mg) : FnOk P w K mg base CX0 9 T.f_law T.fd_law ["_law_script"] (sp_law K) := by
  refine T.F_law.ok sc_law (fun vs H Q E h => ?_) (fun cdv A outer s H vs Q E hr h => ?_)
  · obtain ⟨a, ns, rfl, _⟩ := h
    rfl
  · obtain ⟨a, ns, rfl, hS, hlen, k⟩ := h
    refine ⟨_, (pss_cons (ps_for PassesOwn.never rfl (pi_list (pe_slice sl_list (pe_op (r := rCatR K) op_catR (pv 0) (pe_lst (pa_cons pe_int pa_nil))) po_none (po_some pe_int))) (pg_name (i := 1) sc_law.nd rfl (Or.inl rfl)) (pss_cons (ps_set (i := 2) sc_law.nd rfl (Or.inl rfl) (pe_call (ok_law_source T) (hr.mono (by decide)) rfl T.m_law_source T.F_law_source.kp T.b_law_source .nil pass0 (pa_cons (pv 1) pa_nil))) (pss_cons (ps_set (i := 3) sc_law.nd rfl (Or.inl rfl) (pe_call (ok_law_rings T) (hr.mono (by decide)) rfl T.m_law_rings T.F_law_rings.kp T.b_law_rings .nil pass0 (pa_cons (pv 2) (pa_cons pe_int pa_nil)))) (pss_cons (ps_set (i := 4) sc_law.nd rfl (Or.inl rfl) (pe_call (ok_law_seat T) (hr.mono (by decide)) rfl T.m_law_seat T.F_law_seat.kp T.b_law_seat .nil pass0 (pa_cons (pv 2) (pa_cons (pv 3) pa_nil)))) (pss_cons (ps_set (i := 5) sc_law.nd rfl (Or.inl rfl) (pe_call (ok_law_moves T) (hr.mono (by decide)) rfl T.m_law_moves T.F_law_moves.kp T.b_law_moves .nil pass0 (pa_cons (pv 2) (pa_cons (pv 3) (pa_cons pe_int pa_nil))))) (pss_cons (ps_setLc (own := [("_law_delta", 10), ("_law_way", 11)]) (g := (gTup K 2 (gCons (gName 10) (gCons (gName 11) gNil)))) (i := 6) rfl sc_law.nd rfl rfl (sw_true rfl rfl rfl (by decide +kernel)) (pi_list (pv 5)) (blkOk_by (N := N_law) (sc := defScope s_law) (by decide +kernel)) (fun _ _ _ _ _ => (pg_tup rfl (pgs_cons (pg_name (i := 10) sc_law.nd rfl (Or.inl rfl)) (pgs_cons (pg_name (i := 11) sc_law.nd rfl (Or.inl rfl)) pgs_nil)))) (fun _ _ _ _ _ => pts_nil) (fun _ _ _ _ _ => (pe_tup (pa_cons (pv 10) (pa_cons pe_str pa_nil))))) (pss_one (ps_for PassesOwn.never rfl (pi_list (pe_lst (pa_cons (pv 5) (pa_cons (pv 6) (pa_cons (pe_lst pa_nil) pa_nil))))) (pg_name (i := 7) sc_law.nd rfl (Or.inl rfl)) (pss_cons (ps_set (i := 8) sc_law.nd rfl (Or.inl rfl) (pe_call (ok_law_due T) (hr.mono (by decide)) rfl T.m_law_due T.F_law_due.kp T.b_law_due .nil pass0 (pa_cons (pv 3) (pa_cons (pv 4) (pa_cons (pv 7) pa_nil))))) (pss_cons (ps_set (i := 9) sc_law.nd rfl (Or.inl rfl) (pe_call (ok_consistent_witnesses T) hr rfl T.m_consistent_witnesses T.F_consistent_witnesses.kp T.b_consistent_witnesses .nil pass0 (pa_cons (pe_make T.M_Table (ok_Table_init T) (hr.mono (by decide)) rfl T.m_Table T.b_Table_init .nil pass0 (pa_cons (pv 3) pa_nil)) (pa_cons (pv 4) (pa_cons (pv 7) pa_nil))))) (pss_cons (ps_if (PW.pt (pw_or (pt_cmpR (r := rNeD K) (op_neD hr.units) (pv 9) (pv 8) (nomark _)) (pw_or1 (pt_not (pt_val (pe_callB call_isi (by rfl) T.z_isinstance (by decide +kernel) (pa_cons (pv 9) (pa_cons (pe_bltn (v := .ty "list") rfl T.z_list (by decide +kernel) rfl) pa_nil)))))))) (pss_one (ps_ret pe_bl)) pss_nil) (pss_cons (ps_expr (pe_bm PySem.F.plainAttrs_list PySem.F.slot_list_append PySem.F.type_list_append mt_append (pv 9) (pa_cons pe_non pa_nil))) (pss_one (ps_if (pt_cmpR (r := rNeD K) (op_neD hr.units) (pe_callKw (ok_consistent_witnesses T) hr rfl T.m_consistent_witnesses T.F_consistent_witnesses.kp (kb_consistent_witnesses_210 T) pass0 (pk_cons (pe_callTy call_tuple_of (by rfl) T.z_tuple (by decide +kernel) (pa_cons (pv 7) pa_nil)) (pk_cons (pv 4) (pk_cons (pe_make T.M_Table (ok_Table_init T) (hr.mono (by decide)) rfl T.m_Table T.b_Table_init .nil pass0 (pa_cons (pv 3) pa_nil)) pk_nil)))) (pv 8) (nomark _)) (pss_one (ps_ret pe_bl)) pss_nil)))))))))))))) (pss_one (ps_ret (pe_cmpR (r := rEqD K) (op_eqD hr.units) (pe_call (ok_consistent_witnesses T) hr rfl T.m_consistent_witnesses T.F_consistent_witnesses.kp T.b_consistent_witnesses .nil pass0 (pa_cons (pe_make T.M_Table (ok_Table_init T) (hr.mono (by decide)) rfl T.m_Table T.b_Table_init .nil pass0 (pa_cons (pe_lst (pa_cons pe_int pa_nil)) pa_nil)) (pa_cons (pe_tup (pa_cons pe_int pa_nil)) (pa_cons (pe_lst pa_nil) pa_nil)))) (pe_call0 (ok_law_large_due T) (hr.mono (by decide)) rfl T.m_law_large_due T.F_law_large_due.kp T.b_law_large_due .nil pass0) (nomark _))))), ?_⟩
    refine ⟨_, rfl, by show 1 ≤ sizeLine; decide, fun b hb => ?_⟩
    have e1 := exn (o := .lst [.int 0]) hb
    refine ⟨a, b, _, _, rfl, rfl, Evl.ex_l e1 hS, SqL.of upd_same, ?_, fun c hc => ?_⟩
    · rw [List.length_map]
      exact Nat.le_trans (Nat.add_le_add_right hlen 1) (by decide)
    refine ⟨_, rfl, c, _, rfl, SqL.of upd_same, fun d hd => ?_⟩
    obtain ⟨ms, em⟩ := cut_ints ns none (some 3)
    have e3 : upd (upd (upd H b (.lst [.int 0])) c (.lst (ns.map V.int ++ [V.int 0]))) d (.lst (cutV (ns.map V.int ++ [V.int 0]) none (some 3))) d = some (.lst (ms.map V.int)) := by rw [upd_same, em]
    refine ⟨d, rfl, ⟨_, SqL.of e3⟩, ?_⟩
    refine for_it (walk_list (xs := ms.map V.int)) (fun i σ H => (∃ y1 y2 y3 y4 y5 y6 y7 y8 y9 y10 y11, σ = [some (.ref a), y1, y2, y3, y4, y5, y6, y7, y8, y9, y10, y11]) ∧ H d = some (.lst (ms.map V.int))) ⟨⟨_, _, _, _, _, _, _, _, _, _, _, rfl⟩, e3⟩ (fun i σ H _ p => SqL.of p.2) ?_ ?_
    · rintro i x σ _ H1 hi ⟨⟨y1, y2, y3, y4, y5, y6, y7, y8, y9, y10, y11, rfl⟩, hd1⟩ ⟨rfl, hx⟩
      obtain ⟨n, _, rfl⟩ := map_get hx
      refine ⟨_, rfl, n, rfl, fun H2 s e2 hs src => ?_⟩
      have nds : d ≠ s := ne_of_none hd1 hs
      have hd2 := e2 _ _ hd1
      dsimp only [gName]
      refine ⟨_, rfl, s, 45, rfl, src, by decide, by decide, fun t ns1 H3 nt ht ok b31 pr xb3 src3 => ?_⟩
      dsimp only [gName]
      have pr : prodL ns1 ≤ 45 := pr
      have b30 : ∀ n ∈ ns1, n ≤ 10 ^ 30 := fun n hn => Int.le_trans (b31 n hn) (by decide)
      refine ⟨_, rfl, _, rfl, s, t, ns1, rfl, src3, ht, ok, b30, fun st p H4 nst hst skp xb4 src4 => ?_⟩
      dsimp only [gName]
      refine ⟨_, rfl, _, rfl, s, t, ns1, 6, rfl, src4, tup_xb src3 ht xb4, ok, b30, by decide, by decide, fun pl msl H5 npl ⟨us, hpl, rm⟩ lms cl xb5 src5 => ?_⟩
      have ht5 := tup_xb src4 (tup_xb src3 ht xb4) xb5
      have hst5 := tup_xb src4 hst xb5
      have hd5 := xb5 _ _ nds (xb4 _ _ nds (xb3 _ _ nds hd2))
      have lus := rm.len
      clear ht hst xb4 xb5 src3 src4 src5 src xb3 hs hd1 hd2 e2
      dsimp only [gName]
      refine ⟨_, rfl, pl, rfl, ⟨_, SqL.of hpl⟩, fun D hD => ?_⟩
      refine lc_new PdMv pdmv_mono (walk_list (xs := us)) (msl.map fun c => (c.1, false)) (by rw [List.length_map, lus]) (by omega) hD (fun _ e => SqL.of (e _ _ hpl)) ?_ ?_ ?_
      · rintro j x c Ha Hb R hc ea ⟨e0, hx⟩ kk
        subst e0
        obtain ⟨c0, hc0, mr, cr, rfl, hmr, hcr⟩ := paired_get rm hx
        rw [List.getElem?_map, hc0] at hc
        obtain rfl := Option.some.inj hc
        refine ⟨mr, _, rfl, SqT.of (ea _ _ hmr), rfl, _, _, rfl, _, _, rfl, rfl, rfl, ?_⟩
        refine ⟨_, rfl, slen rfl, ?_⟩
        (intro tm ntm; generalize hGtm : upd _ tm _ = Hc; have eHc := exG hGtm ntm; have htm := atG hGtm; clear hGtm)
        exact kk _ _ eHc ⟨tm, cr, rfl, htm, eHc _ _ (ea _ _ hcr)⟩
      · exact gmono_tup (gmono_cons gmono_name (gmono_cons gmono_name gmono_nil))
      intro H6 vs e6 hvs pvs
      have rah : MovR H6 vs (msl.map fun c => (c.1, false)) := pvs
      have cla : ∀ c ∈ msl.map (fun c => (c.1, false)), c.1.length = ns1.length := fun c hc => by
        obtain ⟨c0, h0, rfl⟩ := List.mem_map.mp hc
        exact cl c0 h0
      dsimp only [gName]
      refine ⟨_, rfl, _, rfl, slen rfl, ?_⟩
      (intro nl nnl; generalize hGnl : upd _ nl _ = H7; have eH7 := exG hGnl nnl; have hnl := atG hGnl; clear hGnl)
      refine ⟨slen rfl, ?_⟩
      (intro l3 nl3; generalize hGl3 : upd _ l3 _ = H8; have eH8 := exG hGl3 nl3; have hl3 := atG hGl3; clear hGl3)
      have e68 := ext eH7 eH8
      have e58 := ext e6 e68
      have three : ∀ v ∈ [V.ref pl, V.ref D, V.ref nl], ∃ (q : Addr) (us : List V) (mz : List (List Int × Bool)), v = .ref q ∧ H8 q = some (.lst us) ∧ MovR H8 us mz ∧ mz.length ≤ 6 ∧ ∀ c ∈ mz, c.1.length = ns1.length := fun v hv => by
        simp only [List.mem_cons, List.not_mem_nil, or_false] at hv
        rcases hv with rfl | rfl | rfl
        · exact ⟨pl, us, msl, rfl, e58 _ _ hpl, rm.mono e58, lms, cl⟩
        · exact ⟨D, vs, _, rfl, e68 _ _ hvs, rah.mono e68, by rw [List.length_map]; exact lms, cla⟩
        · exact ⟨nl, [], [], rfl, eH8 _ _ hnl, .nil, by decide, fun _ h => nomatch h⟩
      have hl3 : H8 l3 = some (.lst [V.ref pl, V.ref D, V.ref nl]) := hl3
      generalize [V.ref pl, V.ref D, V.ref nl] = lv at three hl3
      have ht8 := e58 _ _ ht5
      have hst8 := e58 _ _ hst5
      have hd8 := e58 _ _ hd5
      refine ⟨l3, rfl, ⟨_, SqL.of hl3⟩, ?_⟩
      refine for_it (walk_list (xs := lv)) (fun i σ Hx => (∃ y7 y8 y9 y10 y11, σ = [some (.ref a), some (.int n), some (.ref s), some (.ref t), some (.ref st), some (.ref pl), some (.ref D), y7, y8, y9, y10, y11]) ∧ Ex H8 Hx) ⟨⟨_, _, _, _, _, rfl⟩, exr⟩ (fun i σ Hx _ z => SqL.of (z.2 _ _ hl3)) ?_ ?_
      · rintro j x σ _ Hx hj ⟨⟨y7, y8, y9, y10, y11, rfl⟩, ex⟩ ⟨rfl, hx⟩
        obtain ⟨q, uz, mz, rfl, hq, rz, lmz, clz⟩ := three x (List.mem_of_getElem? hx)
        have pr3 : prodL ns1 ≤ 300 := by omega
        dsimp only [gName]
        refine ⟨_, rfl, _, rfl, _, rfl, t, st, q, ns1, p, uz, mz, rfl, ex _ _ ht8, ok, pr3, ex _ _ hst8, skp, ex _ _ hq, rz.mono ex, clz, fun dl zs H9 e9 ndl hdl pdl => ?_⟩
        have E9 := ext ex e9
        dsimp only [gName]
        refine ⟨_, rfl, ?_⟩
        refine mk_tab (b := true) (ns := ns1) (show SqH H9 (true, t) _ from E9 _ _ ht8) ok fun bd Ha ea nbd taba => ?_
        have Ea := ext E9 ea
        refine ⟨_, rfl, _, rfl, bd, st, (false, q), ns1, p, mz, rfl, taba, ok, pr3, Ea _ _ hst8, skp, ⟨uz, Ea _ _ hq, rz.mono Ea⟩, by omega, clz, fun f fs Hb eb nf hf pf => ?_⟩
        rw [cons_due ok.one pr] at pf
        have Eb := ext Ea eb
        dsimp only [gName]
        refine ⟨_, rfl, _, rfl, ne_wits hf pf ((ext ea eb) _ _ hdl) (paired_mono (fun _ _ z => pdw_ex (ext ea eb) z) pdl) ⟨_, rfl, itf rfl ?_⟩⟩
        refine ⟨_, rfl, _, _, _, _, true, rfl, .ty _, .base (.lst hf), kit_ty (by decide +kernel), _, rfl, itf rfl ?_⟩
        dsimp only [tNext]
        refine ⟨_, rfl, .inl ⟨rfl, _, SqL.of hf⟩, f, _, _, rfl, rfl, hf, ?_, ?_⟩
        · rw [Paired.length pf]
          have h1 : (dueL ns1 p mz).length ≤ 22 * 90000 := by
            refine Nat.le_trans (flat_le (c := 90000) fun m hm => ?_) (by unfold oddsTo; rw [List.length_map, List.length_range]; exact Nat.le_refl _)
            obtain ⟨j, hj, rfl⟩ := List.mem_map.mp hm
            have := List.mem_range.mp hj
            exact wits_len ok.one pr3 (by omega) (by omega)
          have : sizeLine = 16777216 := by decide
          omega
        generalize hG : upd Hb f _ = Hc
        have eac : Ex Ha Hc := by rw [← hG]; exact ex_upd eb nf
        clear hG
        have e9c := ext ea eac
        have Ec := ext Ea eac
        dsimp only [tNext]
        refine ⟨_, rfl, q, uz, rfl, .inl ⟨SqL.of (Ec _ _ hq), ?_⟩⟩
        (intro tq ntq; generalize hGtq : upd _ tq _ = Hd; have eHd := exG hGtq ntq; have htq := atG hGtq; clear hGtq)
        refine ⟨_, rfl, _, rfl, ?_⟩
        have Ed := ext Ec eHd
        refine mk_tab (b := true) (ns := ns1) (show SqH Hd (true, t) _ from Ed _ _ ht8) ok fun bd2 He ee nbd2 tabe => ?_
        have Ee := ext Ed ee
        refine ⟨rfl, bd2, st, (true, tq), ns1, p, mz, rfl, tabe, ok, pr3, Ee _ _ hst8, skp, ⟨uz, ee _ _ htq, rz.mono Ee⟩, by omega, clz, fun f2 fs2 Hf ef nf2 hf2 pf2 => ?_⟩
        rw [cons_due ok.one pr] at pf2
        have e9f := ext e9c (ext eHd (ext ee ef))
        refine ⟨_, rfl, ne_wits hf2 pf2 (e9f _ _ hdl) (paired_mono (fun _ _ z => pdw_ex e9f z) pdl) ⟨_, rfl, itf rfl ⟨⟨_, _, _, _, _, rfl⟩, ext E9 e9f⟩⟩⟩
      rintro σ Hx ⟨⟨y7, y8, y9, y10, y11, rfl⟩, ex⟩
      exact ⟨⟨_, _, _, _, _, _, _, _, _, _, _, rfl⟩, ex _ _ hd8⟩
    rintro σ H1 ⟨⟨y1, y2, y3, y4, y5, y6, y7, y8, y9, y10, y11, rfl⟩, hd1⟩
    dsimp only
    refine ⟨slen rfl, ?_⟩
    (intro l9 nl9; generalize hGl9 : upd _ l9 _ = H2; have eH2 := exG hGl9 nl9; have hl9 := atG hGl9; clear hGl9)
    have ok9 : SzOk [299] := ⟨by decide, by decide, by decide⟩
    refine mk_tab (b := false) (ns := [299]) (show SqH H2 (false, l9) _ from hl9) ok9 fun bd H3 e3 nbd tab3 => ?_
    refine ⟨slen rfl, ?_⟩
    (intro z0 nz0; generalize hGz0 : upd _ z0 _ = H4; have eH4 := exG hGz0 nz0; have hz0 := atG hGz0; clear hGz0)
    refine ⟨slen rfl, ?_⟩
    (intro nl nnl; generalize hGnl : upd _ nl _ = H5; have eH5 := exG hGnl nnl; have hnl := atG hGnl; clear hGnl)
    refine ⟨bd, z0, (false, nl), [299], [0], [], rfl, tab3.mono (ext eH4 eH5), ok9, by decide, eH5 _ _ hz0, ⟨⟨by decide, by decide⟩, True.intro⟩, ⟨[], hnl, .nil⟩, by decide, fun _ h => (nomatch h), fun f fs H6 e6 nf hf pf => ?_⟩
    rw [cons_299] at pf
    refine ⟨rfl, fun g gs H7 e7 ng hg pg => ?_⟩
    exact eq_wits (e7 _ _ hf) (paired_mono (fun _ _ z => pdw_ex e7 z) pf) hg pg (k _)
end

/-! ### the head by facts -/
def dd0 : He.DefD := ⟨("_wall", none), "_wall", "_wall", defArgs s_wall, defBody s_wall, defScope s_wall, [], []⟩
def dd1 : He.DefD := ⟨("is_integer", none), "is_integer", "is_integer", defArgs s_is_integer, defBody s_is_integer, defScope s_is_integer, [], []⟩
def dd2 : He.DefD := ⟨("is_at_least", none), "is_at_least", "is_at_least", defArgs s_is_at_least, defBody s_is_at_least, defScope s_is_at_least, [], []⟩
def dd3 : He.DefD := ⟨("is_between", none), "is_between", "is_between", defArgs s_is_between, defBody s_is_between, defScope s_is_between, [], []⟩
def dd4 : He.DefD := ⟨("greatest_common_divisor", none), "greatest_common_divisor", "greatest_common_divisor", defArgs s_greatest_common_divisor, defBody s_greatest_common_divisor, defScope s_greatest_common_divisor, [], []⟩
def dd5 : He.DefD := ⟨("Table", some "__init__"), "__init__", "Table.__init__", defArgs s_Table_init, defBody s_Table_init, defScope s_Table_init, [], []⟩
def dd6 : He.DefD := ⟨("Table", some "sizes"), "sizes", "Table.sizes", defArgs s_Table_sizes, defBody s_Table_sizes, defScope s_Table_sizes, [], []⟩
def dd7 : He.DefD := ⟨("Table", some "count"), "count", "Table.count", defArgs s_Table_count, defBody s_Table_count, defScope s_Table_count, [], []⟩
def dd8 : He.DefD := ⟨("Table", some "is_seat"), "is_seat", "Table.is_seat", defArgs s_Table_is_seat, defBody s_Table_is_seat, defScope s_Table_is_seat, [], []⟩
def dd9 : He.DefD := ⟨("Table", some "is_call"), "is_call", "Table.is_call", defArgs s_Table_is_call, defBody s_Table_is_call, defScope s_Table_is_call, [], []⟩
def dd10 : He.DefD := ⟨("Table", some "shifted"), "shifted", "Table.shifted", defArgs s_Table_shifted, defBody s_Table_shifted, defScope s_Table_shifted, [], []⟩
def dd11 : He.DefD := ⟨("Table", some "moves"), "moves", "Table.moves", defArgs s_Table_moves, defBody s_Table_moves, defScope s_Table_moves, [], []⟩
def dd12 : He.DefD := ⟨("Table", some "step"), "step", "Table.step", defArgs s_Table_step, defBody s_Table_step, defScope s_Table_step, [], []⟩
def dd13 : He.DefD := ⟨("Table", some "order"), "order", "Table.order", defArgs s_Table_order, defBody s_Table_order, defScope s_Table_order, [], []⟩
def dd14 : He.DefD := ⟨("Table", some "halves"), "halves", "Table.halves", defArgs s_Table_halves, defBody s_Table_halves, defScope s_Table_halves, [], []⟩
def dd15 : He.DefD := ⟨("is_direction", none), "is_direction", "is_direction", defArgs s_is_direction, defBody s_is_direction, defScope s_is_direction, [], []⟩
def dd16 : He.DefD := ⟨("require_table", none), "require_table", "require_table", defArgs s_require_table, defBody s_require_table, defScope s_require_table, [], []⟩
def dd17 : He.DefD := ⟨("require_seat", none), "require_seat", "require_seat", defArgs s_require_seat, defBody s_require_seat, defScope s_require_seat, [], []⟩
def dd18 : He.DefD := ⟨("require_call", none), "require_call", "require_call", defArgs s_require_call, defBody s_require_call, defScope s_require_call, [], []⟩
def dd19 : He.DefD := ⟨("require_small", none), "require_small", "require_small", defArgs s_require_small, defBody s_require_small, defScope s_require_small, [], []⟩
def dd20 : He.DefD := ⟨("weighted", none), "weighted", "weighted", defArgs s_weighted, defBody s_weighted, defScope s_weighted, [], []⟩
def dd21 : He.DefD := ⟨("is_move", none), "is_move", "is_move", defArgs s_is_move, defBody s_is_move, defScope s_is_move, [], []⟩
def dd22 : He.DefD := ⟨("require_moves", none), "require_moves", "require_moves", defArgs s_require_moves, defBody s_require_moves, defScope s_require_moves, [], []⟩
def dd23 : He.DefD := ⟨("visited_seats", none), "visited_seats", "visited_seats", defArgs s_visited_seats, defBody s_visited_seats, defScope s_visited_seats, [], []⟩
def dd24 : He.DefD := ⟨("common_exponent", none), "common_exponent", "common_exponent", defArgs s_common_exponent, defBody s_common_exponent, defScope s_common_exponent, [], []⟩
def dd25 : He.DefD := ⟨("weight_rows", none), "weight_rows", "weight_rows", defArgs s_weight_rows, defBody s_weight_rows, defScope s_weight_rows, [], []⟩
def dd26 : He.DefD := ⟨("units_of", none), "units_of", "units_of", defArgs s_units_of, defBody s_units_of, defScope s_units_of, [], []⟩
def dd27 : He.DefD := ⟨("is_canonical", none), "is_canonical", "is_canonical", defArgs s_is_canonical, defBody s_is_canonical, defScope s_is_canonical, [], []⟩
def dd28 : He.DefD := ⟨("explains", none), "explains", "explains", defArgs s_explains, defBody s_explains, defScope s_explains, [], []⟩
def dd29 : He.DefD := ⟨("consistent_witnesses", none), "consistent_witnesses", "consistent_witnesses", defArgs s_consistent_witnesses, defBody s_consistent_witnesses, defScope s_consistent_witnesses, [], []⟩
def dd30 : He.DefD := ⟨("_law_mixed", none), "_law_mixed", "_law_mixed", defArgs s_law_mixed, defBody s_law_mixed, defScope s_law_mixed, [], []⟩
def dd31 : He.DefD := ⟨("_law_source", none), "_law_source", "_law_source", defArgs s_law_source, defBody s_law_source, defScope s_law_source, [], []⟩
def dd32 : He.DefD := ⟨("_law_take", none), "_law_take", "_law_take", defArgs s_law_take, defBody s_law_take, defScope s_law_take, [], []⟩
def dd33 : He.DefD := ⟨("_law_one", none), "_law_one", "_law_one", defArgs s_law_one, defBody s_law_one, defScope s_law_one, [], []⟩
def dd34 : He.DefD := ⟨("_law_rings", none), "_law_rings", "_law_rings", defArgs s_law_rings, defBody s_law_rings, defScope s_law_rings, [], []⟩
def dd35 : He.DefD := ⟨("_law_seat", none), "_law_seat", "_law_seat", defArgs s_law_seat, defBody s_law_seat, defScope s_law_seat, [], []⟩
def dd36 : He.DefD := ⟨("_law_call", none), "_law_call", "_law_call", defArgs s_law_call, defBody s_law_call, defScope s_law_call, [], []⟩
def dd37 : He.DefD := ⟨("_law_moves", none), "_law_moves", "_law_moves", defArgs s_law_moves, defBody s_law_moves, defScope s_law_moves, [], []⟩
def dd38 : He.DefD := ⟨("_law_step", none), "_law_step", "_law_step", defArgs s_law_step, defBody s_law_step, defScope s_law_step, [], []⟩
def dd39 : He.DefD := ⟨("_law_value", none), "_law_value", "_law_value", defArgs s_law_value, defBody s_law_value, defScope s_law_value, [], []⟩
def dd40 : He.DefD := ⟨("_law_divisor", none), "_law_divisor", "_law_divisor", defArgs s_law_divisor, defBody s_law_divisor, defScope s_law_divisor, [], []⟩
def dd41 : He.DefD := ⟨("_law_weights", none), "_law_weights", "_law_weights", defArgs s_law_weights, defBody s_law_weights, defScope s_law_weights, [], []⟩
def dd42 : He.DefD := ⟨("_law_is_canonical", none), "_law_is_canonical", "_law_is_canonical", defArgs s_law_is_canonical, defBody s_law_is_canonical, defScope s_law_is_canonical, [], []⟩
def dd43 : He.DefD := ⟨("_law_explains", none), "_law_explains", "_law_explains", defArgs s_law_explains, defBody s_law_explains, defScope s_law_explains, [], []⟩
def dd44 : He.DefD := ⟨("_law_due", none), "_law_due", "_law_due", defArgs s_law_due, defBody s_law_due, defScope s_law_due, [], []⟩
def dd45 : He.DefD := ⟨("_law_large_due", none), "_law_large_due", "_law_large_due", defArgs s_law_large_due, defBody s_law_large_due, defScope s_law_large_due, [], []⟩
def dd46 : He.DefD := ⟨("law", none), "law", "law", defArgs s_law, defBody s_law, defScope s_law, [], []⟩
def fnL0 : List He.DefD := [dd0, dd1, dd2, dd3, dd4, dd5, dd6, dd7, dd8, dd9, dd10, dd11, dd12, dd13, dd14, dd15, dd16, dd17, dd18, dd19, dd20, dd21, dd22, dd23, dd24, dd25, dd26, dd27, dd28, dd29]
def fnL1 : List He.DefD := [dd30, dd31, dd32, dd33, dd34, dd35, dd36, dd37, dd38, dd39, dd40, dd41, dd42, dd43, dd44, dd45, dd46]
def fnL : List He.DefD := fnL0 ++ fnL1
def faL0 : List He.Fa := [.glo "_wall", .glo "is_integer", .glo "is_at_least", .glo "is_between", .glo "greatest_common_divisor", .glo "is_direction", .glo "require_table", .glo "require_seat", .glo "require_call", .glo "require_small", .glo "weighted", .glo "is_move", .glo "require_moves", .glo "visited_seats", .glo "common_exponent", .glo "weight_rows", .glo "units_of", .glo "is_canonical", .glo "explains", .glo "consistent_witnesses", .glo "_law_mixed", .glo "_law_source", .glo "_law_take", .glo "_law_one", .glo "_law_rings", .glo "_law_seat", .glo "_law_call", .glo "_law_moves", .glo "_law_step", .glo "_law_value"]
def faL1 : List He.Fa := [.glo "_law_divisor", .glo "_law_weights", .glo "_law_is_canonical", .glo "_law_explains", .glo "_law_due", .glo "_law_large_due", .glo "law", .glo "Table", .cls "Table", .mkr "Table", .meth "Table" "sizes", .meth "Table" "count", .meth "Table" "is_seat", .meth "Table" "is_call", .meth "Table" "shifted", .meth "Table" "moves", .meth "Table" "step", .meth "Table" "order", .meth "Table" "halves", .noat "Table" "rings", .int "MAX_RINGS" 4, .int "SMALL" 300, .free "abs", .free "all", .free "bool", .free "enumerate", .free "int", .free "isinstance", .free "len", .free "list"]
def faL2 : List He.Fa := [.free "min", .free "range", .free "str", .free "sum", .free "tuple", .free "zip"]
def faL : List He.Fa := faL0 ++ faL1 ++ faL2
def exB (K : PySem.W.Frag) : Bool := (He.eqO (PySem.W.findIn K (.ref (He.ga K "Table")) "__class__") (some (some (.builtin "object.__class__")))) && ((decide (PySem.W.mroIn K (He.ga K "Table") (.type "object") = some true)) && ((He.eqO (PySem.W.specialIn K (.builtin "object.__class__") "__get__") (some (some (.builtin "getset_descriptor.__get__")))) && ((decide (PySem.W.takesIn K (.builtin "object.__class__") = some true)) && (true))))
abbrev AlK : Type := He.AlD × Bool
def obsK2 (K : PySem.W.Frag) : AlK := (He.obsD faL fnL K, exB K)
def SaysK (K : PySem.W.Frag) : Prop := obsK2 K = (He.valD fnL, true)
def obsK (g : Addr → Option Obj) : AlK := obsK2 (He.frG g (He.asD g 4))
def hk : PySem.W.Hook where
  α := AlK
  obs := fun s => obsK s.heap.get?
  val := fun _ => (He.valD fnL, true)
  says := fun _ h => ∃ K : PySem.W.Frag, K.In h ∧ SaysK K
  of := fun _ _ e => ⟨_, He.frG_in, e⟩
  keeps := fun _ _ _ ⟨K, hK, c⟩ k => ⟨K, PySem.W.Frag.In.keeps hK k, c⟩
def ob (s : PySem.W.SharedT) : AlK := obsK (HandSHeadRun.getT s)
theorem ob_eq (s : PySem.W.SharedT) : ob s = hk.obs s.abs := by
  have e : HandSHeadRun.getT s = s.abs.heap.get? := funext (HandSHeadRun.getT_eq s)
  show obsK (HandSHeadRun.getT s) = obsK s.abs.heap.get?
  rw [e]
def loose0 : List PySem.Str := ["_wall", "SeatError", "InvalidTable", "InvalidSeat", "InvalidCall", "InvalidDirection", "InvalidMoves", "TooLarge", "is_integer", "is_at_least", "is_between", "greatest_common_divisor", "MAX_RINGS", "SMALL", "Table", "is_direction", "require_table", "require_seat", "require_call", "require_small", "weighted", "is_move", "require_moves", "visited_seats", "common_exponent", "weight_rows", "units_of", "is_canonical", "explains", "consistent_witnesses"]
def loose1 : List PySem.Str := ["_law_mixed", "_law_source", "_law_take", "_law_one", "_law_rings", "_law_seat", "_law_call", "_law_moves", "_law_step", "_law_value", "_law_divisor", "_law_weights", "_law_is_canonical", "_law_explains", "_law_due", "_law_large_due"]
def loose : List PySem.Str := loose0 ++ loose1
abbrev RR : PySem.W.OpenRow := PySem.W.OpenLaw.row PySem.Challenge.rw_calledseats_k45_witnesses_that_explain_d
abbrev QQ : Program := PySem.W.view RR.prog [52]
def kOf (s : PySem.W.SharedT) : PySem.W.Frag := He.frG (HandSHeadRun.getT s) (He.asD (HandSHeadRun.getT s) 4)
theorem runA (w : World) : HandSHeadRun.RunEq RR QQ PySem.W.Hook.none (fun _ => ()) 30000 loose w := by
  intro os
  kernel_rfl
def obB (s : PySem.W.SharedT) : Bool × List He.FnW := (fnL.all fun d => d.ok (kOf s), fnL.map fun d => He.fnW (kOf s) d.at_)
def obC (s : PySem.W.SharedT) : Bool × Bool := (faL.all fun f => f.ok (kOf s), exB (kOf s))
theorem runB (w : World) (os : OsState) : (HandSHeadRun.endF (HandSHeadRun.stepQ (HandSHeadRun.denQ HandSHeadRun.tabQ) RR.prog w) 30000 RR.prog w os).map obB = some (true, fnL.map He.DefD.val) := by
  kernel_rfl
theorem runC (w : World) (os : OsState) : (HandSHeadRun.endF (HandSHeadRun.stepQ (HandSHeadRun.denQ HandSHeadRun.tabQ) RR.prog w) 30000 RR.prog w os).map obC = some (true, true) := by
  kernel_rfl
theorem runTop (w : World) : HandSHeadRun.RunEq RR QQ hk ob 30000 loose w := by
  intro os
  have hA := runA w os
  have hB := runB w os
  have hC := runC w os
  cases e : HandSHeadRun.endF (HandSHeadRun.stepQ (HandSHeadRun.denQ HandSHeadRun.tabQ) RR.prog w) 30000 RR.prog w os with
  | none =>
    rw [e] at hB
    cases hB
  | some s =>
    rw [e] at hA hB hC
    have hA2 := Option.some.inj hA
    have hB2 : obB s = (true, fnL.map He.DefD.val) := Option.some.inj hB
    have hC2 : obC s = (true, true) := Option.some.inj hC
    have hA3 := Prod.mk.inj hA2
    have hA4 := Prod.mk.inj hA3.2
    obtain ⟨b1, b2⟩ := Prod.mk.inj hB2
    obtain ⟨c1, c2⟩ := Prod.mk.inj hC2
    have ho : ob s = (He.valD fnL, true) := by
      show (((faL.all fun f => f.ok (kOf s)) && (fnL.all fun d => d.ok (kOf s)), fnL.map fun d => He.fnW (kOf s) d.at_), exB (kOf s)) = ((true, fnL.map He.DefD.val), true)
      rw [c1, b1, b2, c2]
      rfl
    exact congrArg some (Prod.ext hA3.1 (Prod.ext hA4.1 ho))
theorem fun_of {K : PySem.W.Frag} {d : He.DefD} {st : Stmt} {x q : Str} {fd : FuncData} (e1 : d.name = x) (e2 : d.qual = q) (e3 : d.params = defArgs st) (e4 : d.body = defBody st) (e5 : d.scope = defScope st) (e6 : d.dfl = []) (F : L2.FunD K d.name d.qual d.params d.body d.scope (d.dvs K) (d.kws K) (He.fAd K d.at_) fd) : Fun K x q st (He.fAd K d.at_) fd := by
  obtain ⟨oc, od, dV, kV, doc, pm, an, cdv, ct, osl, h1, h2, h3, h4, h5⟩ := F.ex
  have h6 : dV = .none := by
    rcases h4 with ⟨_, h⟩ | ⟨h, _⟩
    · exact h
    · exact absurd (by show d.dfl.map _ = []; rw [e6]; rfl) h
  subst e1 e2
  rw [e3, e4, e5, h6] at h1
  exact ⟨⟨oc, od, kV, doc, pm, an, cdv, ct, osl, h1, h2, h3⟩, F.kp⟩
set_option maxHeartbeats 0 in
theorem tx_of {K : PySem.W.Frag} {h : Heap} {mg : Str → Option Value} (X : K.In h) (G : h.Ns mainGlobals mg) (c2 : SaysK K) :
    ∃ T : TX K mg, mg "law" = some (.ref T.f_law) ∧ ∀ (s : Shared) (v : Value), BindsTo s T.fd_law ⟨[v], []⟩ [("_law_script", v)] := by
  have c : He.SaysD faL fnL K := congrArg (fun z : AlK => z.1) c2
  have cx : exB K = true := congrArg (fun z : AlK => z.2) c2
  obtain ⟨ic_Table, cx⟩ := He.ba cx
  obtain ⟨im_Table, cx⟩ := He.ba cx
  obtain ⟨ig_, cx⟩ := He.ba cx
  obtain ⟨it_, cx⟩ := He.ba cx
  obtain ⟨fd0, D0⟩ := c.def_ 0 (d := dd0) rfl
  have F0 : Fun K "_wall" "_wall" s_wall (He.fAd K dd0.at_) fd0 := fun_of rfl rfl rfl rfl rfl rfl D0
  have b0 := F0.binds (ps := ["k"]) fun _ _ _ _ _ _ us hl => match us, hl with | [_], _ => rfl
  obtain ⟨fd1, D1⟩ := c.def_ 1 (d := dd1) rfl
  have F1 : Fun K "is_integer" "is_integer" s_is_integer (He.fAd K dd1.at_) fd1 := fun_of rfl rfl rfl rfl rfl rfl D1
  have b1 := F1.binds (ps := ["value"]) fun _ _ _ _ _ _ us hl => match us, hl with | [_], _ => rfl
  obtain ⟨fd2, D2⟩ := c.def_ 2 (d := dd2) rfl
  have F2 : Fun K "is_at_least" "is_at_least" s_is_at_least (He.fAd K dd2.at_) fd2 := fun_of rfl rfl rfl rfl rfl rfl D2
  have b2 := F2.binds (ps := ["value", "low"]) fun _ _ _ _ _ _ us hl => match us, hl with | [_, _], _ => rfl
  obtain ⟨fd3, D3⟩ := c.def_ 3 (d := dd3) rfl
  have F3 : Fun K "is_between" "is_between" s_is_between (He.fAd K dd3.at_) fd3 := fun_of rfl rfl rfl rfl rfl rfl D3
  have b3 := F3.binds (ps := ["value", "low", "high"]) fun _ _ _ _ _ _ us hl => match us, hl with | [_, _, _], _ => rfl
  obtain ⟨fd4, D4⟩ := c.def_ 4 (d := dd4) rfl
  have F4 : Fun K "greatest_common_divisor" "greatest_common_divisor" s_greatest_common_divisor (He.fAd K dd4.at_) fd4 := fun_of rfl rfl rfl rfl rfl rfl D4
  have b4 := F4.binds (ps := ["first", "second"]) fun _ _ _ _ _ _ us hl => match us, hl with | [_, _], _ => rfl
  obtain ⟨fd5, D5⟩ := c.def_ 5 (d := dd5) rfl
  have F5 : Fun K "__init__" "Table.__init__" s_Table_init (He.fAd K dd5.at_) fd5 := fun_of rfl rfl rfl rfl rfl rfl D5
  have b5 := F5.binds (ps := ["self", "rings"]) fun _ _ _ _ _ _ us hl => match us, hl with | [_, _], _ => rfl
  obtain ⟨fd6, D6⟩ := c.def_ 6 (d := dd6) rfl
  have F6 : Fun K "sizes" "Table.sizes" s_Table_sizes (He.fAd K dd6.at_) fd6 := fun_of rfl rfl rfl rfl rfl rfl D6
  have b6 := F6.binds (ps := ["self"]) fun _ _ _ _ _ _ us hl => match us, hl with | [_], _ => rfl
  obtain ⟨fd7, D7⟩ := c.def_ 7 (d := dd7) rfl
  have F7 : Fun K "count" "Table.count" s_Table_count (He.fAd K dd7.at_) fd7 := fun_of rfl rfl rfl rfl rfl rfl D7
  have b7 := F7.binds (ps := ["self"]) fun _ _ _ _ _ _ us hl => match us, hl with | [_], _ => rfl
  obtain ⟨fd8, D8⟩ := c.def_ 8 (d := dd8) rfl
  have F8 : Fun K "is_seat" "Table.is_seat" s_Table_is_seat (He.fAd K dd8.at_) fd8 := fun_of rfl rfl rfl rfl rfl rfl D8
  have b8 := F8.binds (ps := ["self", "value"]) fun _ _ _ _ _ _ us hl => match us, hl with | [_, _], _ => rfl
  obtain ⟨fd9, D9⟩ := c.def_ 9 (d := dd9) rfl
  have F9 : Fun K "is_call" "Table.is_call" s_Table_is_call (He.fAd K dd9.at_) fd9 := fun_of rfl rfl rfl rfl rfl rfl D9
  have b9 := F9.binds (ps := ["self", "value"]) fun _ _ _ _ _ _ us hl => match us, hl with | [_, _], _ => rfl
  obtain ⟨fd10, D10⟩ := c.def_ 10 (d := dd10) rfl
  have F10 : Fun K "shifted" "Table.shifted" s_Table_shifted (He.fAd K dd10.at_) fd10 := fun_of rfl rfl rfl rfl rfl rfl D10
  have b10 := F10.binds (ps := ["self", "seat", "call", "factor"]) fun _ _ _ _ _ _ us hl => match us, hl with | [_, _, _, _], _ => rfl
  obtain ⟨fd11, D11⟩ := c.def_ 11 (d := dd11) rfl
  have F11 : Fun K "moves" "Table.moves" s_Table_moves (He.fAd K dd11.at_) fd11 := fun_of rfl rfl rfl rfl rfl rfl D11
  have b11 := F11.binds (ps := ["self", "seat", "call"]) fun _ _ _ _ _ _ us hl => match us, hl with | [_, _, _], _ => rfl
  obtain ⟨fd12, D12⟩ := c.def_ 12 (d := dd12) rfl
  have F12 : Fun K "step" "Table.step" s_Table_step (He.fAd K dd12.at_) fd12 := fun_of rfl rfl rfl rfl rfl rfl D12
  have b12 := F12.binds (ps := ["self", "seat", "call", "direction"]) fun _ _ _ _ _ _ us hl => match us, hl with | [_, _, _, _], _ => rfl
  obtain ⟨fd13, D13⟩ := c.def_ 13 (d := dd13) rfl
  have F13 : Fun K "order" "Table.order" s_Table_order (He.fAd K dd13.at_) fd13 := fun_of rfl rfl rfl rfl rfl rfl D13
  have b13 := F13.binds (ps := ["self", "seat"]) fun _ _ _ _ _ _ us hl => match us, hl with | [_, _], _ => rfl
  obtain ⟨fd14, D14⟩ := c.def_ 14 (d := dd14) rfl
  have F14 : Fun K "halves" "Table.halves" s_Table_halves (He.fAd K dd14.at_) fd14 := fun_of rfl rfl rfl rfl rfl rfl D14
  have b14 := F14.binds (ps := ["self", "seat"]) fun _ _ _ _ _ _ us hl => match us, hl with | [_, _], _ => rfl
  obtain ⟨fd15, D15⟩ := c.def_ 15 (d := dd15) rfl
  have F15 : Fun K "is_direction" "is_direction" s_is_direction (He.fAd K dd15.at_) fd15 := fun_of rfl rfl rfl rfl rfl rfl D15
  have b15 := F15.binds (ps := ["value"]) fun _ _ _ _ _ _ us hl => match us, hl with | [_], _ => rfl
  obtain ⟨fd16, D16⟩ := c.def_ 16 (d := dd16) rfl
  have F16 : Fun K "require_table" "require_table" s_require_table (He.fAd K dd16.at_) fd16 := fun_of rfl rfl rfl rfl rfl rfl D16
  have b16 := F16.binds (ps := ["table"]) fun _ _ _ _ _ _ us hl => match us, hl with | [_], _ => rfl
  obtain ⟨fd17, D17⟩ := c.def_ 17 (d := dd17) rfl
  have F17 : Fun K "require_seat" "require_seat" s_require_seat (He.fAd K dd17.at_) fd17 := fun_of rfl rfl rfl rfl rfl rfl D17
  have b17 := F17.binds (ps := ["table", "seat"]) fun _ _ _ _ _ _ us hl => match us, hl with | [_, _], _ => rfl
  obtain ⟨fd18, D18⟩ := c.def_ 18 (d := dd18) rfl
  have F18 : Fun K "require_call" "require_call" s_require_call (He.fAd K dd18.at_) fd18 := fun_of rfl rfl rfl rfl rfl rfl D18
  have b18 := F18.binds (ps := ["table", "call"]) fun _ _ _ _ _ _ us hl => match us, hl with | [_, _], _ => rfl
  obtain ⟨fd19, D19⟩ := c.def_ 19 (d := dd19) rfl
  have F19 : Fun K "require_small" "require_small" s_require_small (He.fAd K dd19.at_) fd19 := fun_of rfl rfl rfl rfl rfl rfl D19
  have b19 := F19.binds (ps := ["table"]) fun _ _ _ _ _ _ us hl => match us, hl with | [_], _ => rfl
  obtain ⟨fd20, D20⟩ := c.def_ 20 (d := dd20) rfl
  have F20 : Fun K "weighted" "weighted" s_weighted (He.fAd K dd20.at_) fd20 := fun_of rfl rfl rfl rfl rfl rfl D20
  have b20 := F20.binds (ps := ["modulus", "weights", "seat"]) fun _ _ _ _ _ _ us hl => match us, hl with | [_, _, _], _ => rfl
  obtain ⟨fd21, D21⟩ := c.def_ 21 (d := dd21) rfl
  have F21 : Fun K "is_move" "is_move" s_is_move (He.fAd K dd21.at_) fd21 := fun_of rfl rfl rfl rfl rfl rfl D21
  have b21 := F21.binds (ps := ["table", "value"]) fun _ _ _ _ _ _ us hl => match us, hl with | [_, _], _ => rfl
  obtain ⟨fd22, D22⟩ := c.def_ 22 (d := dd22) rfl
  have F22 : Fun K "require_moves" "require_moves" s_require_moves (He.fAd K dd22.at_) fd22 := fun_of rfl rfl rfl rfl rfl rfl D22
  have b22 := F22.binds (ps := ["table", "moves"]) fun _ _ _ _ _ _ us hl => match us, hl with | [_, _], _ => rfl
  obtain ⟨fd23, D23⟩ := c.def_ 23 (d := dd23) rfl
  have F23 : Fun K "visited_seats" "visited_seats" s_visited_seats (He.fAd K dd23.at_) fd23 := fun_of rfl rfl rfl rfl rfl rfl D23
  have b23 := F23.binds (ps := ["table", "seat", "moves"]) fun _ _ _ _ _ _ us hl => match us, hl with | [_, _, _], _ => rfl
  obtain ⟨fd24, D24⟩ := c.def_ 24 (d := dd24) rfl
  have F24 : Fun K "common_exponent" "common_exponent" s_common_exponent (He.fAd K dd24.at_) fd24 := fun_of rfl rfl rfl rfl rfl rfl D24
  have b24 := F24.binds (ps := ["sizes"]) fun _ _ _ _ _ _ us hl => match us, hl with | [_], _ => rfl
  obtain ⟨fd25, D25⟩ := c.def_ 25 (d := dd25) rfl
  have F25 : Fun K "weight_rows" "weight_rows" s_weight_rows (He.fAd K dd25.at_) fd25 := fun_of rfl rfl rfl rfl rfl rfl D25
  have b25 := F25.binds (ps := ["sizes", "modulus"]) fun _ _ _ _ _ _ us hl => match us, hl with | [_, _], _ => rfl
  obtain ⟨fd26, D26⟩ := c.def_ 26 (d := dd26) rfl
  have F26 : Fun K "units_of" "units_of" s_units_of (He.fAd K dd26.at_) fd26 := fun_of rfl rfl rfl rfl rfl rfl D26
  have b26 := F26.binds (ps := ["modulus"]) fun _ _ _ _ _ _ us hl => match us, hl with | [_], _ => rfl
  obtain ⟨fd27, D27⟩ := c.def_ 27 (d := dd27) rfl
  have F27 : Fun K "is_canonical" "is_canonical" s_is_canonical (He.fAd K dd27.at_) fd27 := fun_of rfl rfl rfl rfl rfl rfl D27
  have b27 := F27.binds (ps := ["modulus", "units", "weights"]) fun _ _ _ _ _ _ us hl => match us, hl with | [_, _, _], _ => rfl
  obtain ⟨fd28, D28⟩ := c.def_ 28 (d := dd28) rfl
  have F28 : Fun K "explains" "explains" s_explains (He.fAd K dd28.at_) fd28 := fun_of rfl rfl rfl rfl rfl rfl D28
  have b28 := F28.binds (ps := ["table", "visited", "moves", "witness"]) fun _ _ _ _ _ _ us hl => match us, hl with | [_, _, _, _], _ => rfl
  obtain ⟨fd29, D29⟩ := c.def_ 29 (d := dd29) rfl
  have F29 : Fun K "consistent_witnesses" "consistent_witnesses" s_consistent_witnesses (He.fAd K dd29.at_) fd29 := fun_of rfl rfl rfl rfl rfl rfl D29
  have b29 := F29.binds (ps := ["table", "seat", "moves"]) fun _ _ _ _ _ _ us hl => match us, hl with | [_, _, _], _ => rfl
  obtain ⟨fd30, D30⟩ := c.def_ 30 (d := dd30) rfl
  have F30 : Fun K "_law_mixed" "_law_mixed" s_law_mixed (He.fAd K dd30.at_) fd30 := fun_of rfl rfl rfl rfl rfl rfl D30
  have b30 := F30.binds (ps := ["_law_cell", "_law_k"]) fun _ _ _ _ _ _ us hl => match us, hl with | [_, _], _ => rfl
  obtain ⟨fd31, D31⟩ := c.def_ 31 (d := dd31) rfl
  have F31 : Fun K "_law_source" "_law_source" s_law_source (He.fAd K dd31.at_) fd31 := fun_of rfl rfl rfl rfl rfl rfl D31
  have b31 := F31.binds (ps := ["_law_cell"]) fun _ _ _ _ _ _ us hl => match us, hl with | [_], _ => rfl
  obtain ⟨fd32, D32⟩ := c.def_ 32 (d := dd32) rfl
  have F32 : Fun K "_law_take" "_law_take" s_law_take (He.fAd K dd32.at_) fd32 := fun_of rfl rfl rfl rfl rfl rfl D32
  have b32 := F32.binds (ps := ["_law_source_here", "_law_many"]) fun _ _ _ _ _ _ us hl => match us, hl with | [_, _], _ => rfl
  obtain ⟨fd33, D33⟩ := c.def_ 33 (d := dd33) rfl
  have F33 : Fun K "_law_one" "_law_one" s_law_one (He.fAd K dd33.at_) fd33 := fun_of rfl rfl rfl rfl rfl rfl D33
  have b33 := F33.binds (ps := ["_law_source_here", "_law_some"]) fun _ _ _ _ _ _ us hl => match us, hl with | [_, _], _ => rfl
  obtain ⟨fd34, D34⟩ := c.def_ 34 (d := dd34) rfl
  have F34 : Fun K "_law_rings" "_law_rings" s_law_rings (He.fAd K dd34.at_) fd34 := fun_of rfl rfl rfl rfl rfl rfl D34
  have b34 := F34.binds (ps := ["_law_source_here", "_law_limit"]) fun _ _ _ _ _ _ us hl => match us, hl with | [_, _], _ => rfl
  obtain ⟨fd35, D35⟩ := c.def_ 35 (d := dd35) rfl
  have F35 : Fun K "_law_seat" "_law_seat" s_law_seat (He.fAd K dd35.at_) fd35 := fun_of rfl rfl rfl rfl rfl rfl D35
  have b35 := F35.binds (ps := ["_law_source_here", "_law_rings_here"]) fun _ _ _ _ _ _ us hl => match us, hl with | [_, _], _ => rfl
  obtain ⟨fd36, D36⟩ := c.def_ 36 (d := dd36) rfl
  have F36 : Fun K "_law_call" "_law_call" s_law_call (He.fAd K dd36.at_) fd36 := fun_of rfl rfl rfl rfl rfl rfl D36
  have b36 := F36.binds (ps := ["_law_source_here", "_law_rings_here"]) fun _ _ _ _ _ _ us hl => match us, hl with | [_, _], _ => rfl
  obtain ⟨fd37, D37⟩ := c.def_ 37 (d := dd37) rfl
  have F37 : Fun K "_law_moves" "_law_moves" s_law_moves (He.fAd K dd37.at_) fd37 := fun_of rfl rfl rfl rfl rfl rfl D37
  have b37 := F37.binds (ps := ["_law_source_here", "_law_rings_here", "_law_most"]) fun _ _ _ _ _ _ us hl => match us, hl with | [_, _, _], _ => rfl
  obtain ⟨fd38, D38⟩ := c.def_ 38 (d := dd38) rfl
  have F38 : Fun K "_law_step" "_law_step" s_law_step (He.fAd K dd38.at_) fd38 := fun_of rfl rfl rfl rfl rfl rfl D38
  have b38 := F38.binds (ps := ["_law_rings_here", "_law_spot", "_law_delta", "_law_sign"]) fun _ _ _ _ _ _ us hl => match us, hl with | [_, _, _, _], _ => rfl
  obtain ⟨fd39, D39⟩ := c.def_ 39 (d := dd39) rfl
  have F39 : Fun K "_law_value" "_law_value" s_law_value (He.fAd K dd39.at_) fd39 := fun_of rfl rfl rfl rfl rfl rfl D39
  have b39 := F39.binds (ps := ["_law_modulus", "_law_weights_here", "_law_spot"]) fun _ _ _ _ _ _ us hl => match us, hl with | [_, _, _], _ => rfl
  obtain ⟨fd40, D40⟩ := c.def_ 40 (d := dd40) rfl
  have F40 : Fun K "_law_divisor" "_law_divisor" s_law_divisor (He.fAd K dd40.at_) fd40 := fun_of rfl rfl rfl rfl rfl rfl D40
  have b40 := F40.binds (ps := ["_law_first", "_law_second"]) fun _ _ _ _ _ _ us hl => match us, hl with | [_, _], _ => rfl
  obtain ⟨fd41, D41⟩ := c.def_ 41 (d := dd41) rfl
  have F41 : Fun K "_law_weights" "_law_weights" s_law_weights (He.fAd K dd41.at_) fd41 := fun_of rfl rfl rfl rfl rfl rfl D41
  have b41 := F41.binds (ps := ["_law_rings_here", "_law_modulus"]) fun _ _ _ _ _ _ us hl => match us, hl with | [_, _], _ => rfl
  obtain ⟨fd42, D42⟩ := c.def_ 42 (d := dd42) rfl
  have F42 : Fun K "_law_is_canonical" "_law_is_canonical" s_law_is_canonical (He.fAd K dd42.at_) fd42 := fun_of rfl rfl rfl rfl rfl rfl D42
  have b42 := F42.binds (ps := ["_law_modulus", "_law_units", "_law_weights_here"]) fun _ _ _ _ _ _ us hl => match us, hl with | [_, _, _], _ => rfl
  obtain ⟨fd43, D43⟩ := c.def_ 43 (d := dd43) rfl
  have F43 : Fun K "_law_explains" "_law_explains" s_law_explains (He.fAd K dd43.at_) fd43 := fun_of rfl rfl rfl rfl rfl rfl D43
  have b43 := F43.binds (ps := ["_law_rings_here", "_law_start", "_law_played", "_law_witness_tried"]) fun _ _ _ _ _ _ us hl => match us, hl with | [_, _, _, _], _ => rfl
  obtain ⟨fd44, D44⟩ := c.def_ 44 (d := dd44) rfl
  have F44 : Fun K "_law_due" "_law_due" s_law_due (He.fAd K dd44.at_) fd44 := fun_of rfl rfl rfl rfl rfl rfl D44
  have b44 := F44.binds (ps := ["_law_rings_here", "_law_start", "_law_played"]) fun _ _ _ _ _ _ us hl => match us, hl with | [_, _, _], _ => rfl
  obtain ⟨fd45, D45⟩ := c.def_ 45 (d := dd45) rfl
  have F45 : Fun K "_law_large_due" "_law_large_due" s_law_large_due (He.fAd K dd45.at_) fd45 := fun_of rfl rfl rfl rfl rfl rfl D45
  have b45 := F45.binds (ps := []) fun _ _ _ _ _ _ us hl => match us, hl with | [], _ => rfl
  obtain ⟨fd46, D46⟩ := c.def_ 46 (d := dd46) rfl
  have F46 : Fun K "law" "law" s_law (He.fAd K dd46.at_) fd46 := fun_of rfl rfl rfl rfl rfl rfl D46
  have b46 := F46.binds (ps := ["_law_script"]) fun _ _ _ _ _ _ us hl => match us, hl with | [_], _ => rfl
  obtain ⟨t_MAX_RINGS, e_MAX_RINGS⟩ := He.int_ok X G (c.fact 50 (f := .int "MAX_RINGS" 4) rfl)
  obtain ⟨t_SMALL, e_SMALL⟩ := He.int_ok X G (c.fact 51 (f := .int "SMALL" 300) rfl)
  refine ⟨{
    f_wall := He.fAd K dd0.at_, fd_wall := fd0, F_wall := F0, b_wall := b0, m_wall := He.glo_ok X G (c.fact 0 (f := .glo "_wall") rfl),
    f_is_integer := He.fAd K dd1.at_, fd_is_integer := fd1, F_is_integer := F1, b_is_integer := b1, m_is_integer := He.glo_ok X G (c.fact 1 (f := .glo "is_integer") rfl),
    f_is_at_least := He.fAd K dd2.at_, fd_is_at_least := fd2, F_is_at_least := F2, b_is_at_least := b2, m_is_at_least := He.glo_ok X G (c.fact 2 (f := .glo "is_at_least") rfl),
    f_is_between := He.fAd K dd3.at_, fd_is_between := fd3, F_is_between := F3, b_is_between := b3, m_is_between := He.glo_ok X G (c.fact 3 (f := .glo "is_between") rfl),
    f_greatest_common_divisor := He.fAd K dd4.at_, fd_greatest_common_divisor := fd4, F_greatest_common_divisor := F4, b_greatest_common_divisor := b4, m_greatest_common_divisor := He.glo_ok X G (c.fact 4 (f := .glo "greatest_common_divisor") rfl),
    f_Table_init := He.fAd K dd5.at_, fd_Table_init := fd5, F_Table_init := F5, b_Table_init := b5,
    f_Table_sizes := He.fAd K dd6.at_, fd_Table_sizes := fd6, F_Table_sizes := F6, b_Table_sizes := b6,
    f_Table_count := He.fAd K dd7.at_, fd_Table_count := fd7, F_Table_count := F7, b_Table_count := b7,
    f_Table_is_seat := He.fAd K dd8.at_, fd_Table_is_seat := fd8, F_Table_is_seat := F8, b_Table_is_seat := b8,
    f_Table_is_call := He.fAd K dd9.at_, fd_Table_is_call := fd9, F_Table_is_call := F9, b_Table_is_call := b9,
    f_Table_shifted := He.fAd K dd10.at_, fd_Table_shifted := fd10, F_Table_shifted := F10, b_Table_shifted := b10,
    f_Table_moves := He.fAd K dd11.at_, fd_Table_moves := fd11, F_Table_moves := F11, b_Table_moves := b11,
    f_Table_step := He.fAd K dd12.at_, fd_Table_step := fd12, F_Table_step := F12, b_Table_step := b12,
    f_Table_order := He.fAd K dd13.at_, fd_Table_order := fd13, F_Table_order := F13, b_Table_order := b13,
    f_Table_halves := He.fAd K dd14.at_, fd_Table_halves := fd14, F_Table_halves := F14, b_Table_halves := b14,
    f_is_direction := He.fAd K dd15.at_, fd_is_direction := fd15, F_is_direction := F15, b_is_direction := b15, m_is_direction := He.glo_ok X G (c.fact 5 (f := .glo "is_direction") rfl),
    f_require_table := He.fAd K dd16.at_, fd_require_table := fd16, F_require_table := F16, b_require_table := b16, m_require_table := He.glo_ok X G (c.fact 6 (f := .glo "require_table") rfl),
    f_require_seat := He.fAd K dd17.at_, fd_require_seat := fd17, F_require_seat := F17, b_require_seat := b17, m_require_seat := He.glo_ok X G (c.fact 7 (f := .glo "require_seat") rfl),
    f_require_call := He.fAd K dd18.at_, fd_require_call := fd18, F_require_call := F18, b_require_call := b18, m_require_call := He.glo_ok X G (c.fact 8 (f := .glo "require_call") rfl),
    f_require_small := He.fAd K dd19.at_, fd_require_small := fd19, F_require_small := F19, b_require_small := b19, m_require_small := He.glo_ok X G (c.fact 9 (f := .glo "require_small") rfl),
    f_weighted := He.fAd K dd20.at_, fd_weighted := fd20, F_weighted := F20, b_weighted := b20, m_weighted := He.glo_ok X G (c.fact 10 (f := .glo "weighted") rfl),
    f_is_move := He.fAd K dd21.at_, fd_is_move := fd21, F_is_move := F21, b_is_move := b21, m_is_move := He.glo_ok X G (c.fact 11 (f := .glo "is_move") rfl),
    f_require_moves := He.fAd K dd22.at_, fd_require_moves := fd22, F_require_moves := F22, b_require_moves := b22, m_require_moves := He.glo_ok X G (c.fact 12 (f := .glo "require_moves") rfl),
    f_visited_seats := He.fAd K dd23.at_, fd_visited_seats := fd23, F_visited_seats := F23, b_visited_seats := b23, m_visited_seats := He.glo_ok X G (c.fact 13 (f := .glo "visited_seats") rfl),
    f_common_exponent := He.fAd K dd24.at_, fd_common_exponent := fd24, F_common_exponent := F24, b_common_exponent := b24, m_common_exponent := He.glo_ok X G (c.fact 14 (f := .glo "common_exponent") rfl),
    f_weight_rows := He.fAd K dd25.at_, fd_weight_rows := fd25, F_weight_rows := F25, b_weight_rows := b25, m_weight_rows := He.glo_ok X G (c.fact 15 (f := .glo "weight_rows") rfl),
    f_units_of := He.fAd K dd26.at_, fd_units_of := fd26, F_units_of := F26, b_units_of := b26, m_units_of := He.glo_ok X G (c.fact 16 (f := .glo "units_of") rfl),
    f_is_canonical := He.fAd K dd27.at_, fd_is_canonical := fd27, F_is_canonical := F27, b_is_canonical := b27, m_is_canonical := He.glo_ok X G (c.fact 17 (f := .glo "is_canonical") rfl),
    f_explains := He.fAd K dd28.at_, fd_explains := fd28, F_explains := F28, b_explains := b28, m_explains := He.glo_ok X G (c.fact 18 (f := .glo "explains") rfl),
    f_consistent_witnesses := He.fAd K dd29.at_, fd_consistent_witnesses := fd29, F_consistent_witnesses := F29, b_consistent_witnesses := b29, m_consistent_witnesses := He.glo_ok X G (c.fact 19 (f := .glo "consistent_witnesses") rfl),
    f_law_mixed := He.fAd K dd30.at_, fd_law_mixed := fd30, F_law_mixed := F30, b_law_mixed := b30, m_law_mixed := He.glo_ok X G (c.fact 20 (f := .glo "_law_mixed") rfl),
    f_law_source := He.fAd K dd31.at_, fd_law_source := fd31, F_law_source := F31, b_law_source := b31, m_law_source := He.glo_ok X G (c.fact 21 (f := .glo "_law_source") rfl),
    f_law_take := He.fAd K dd32.at_, fd_law_take := fd32, F_law_take := F32, b_law_take := b32, m_law_take := He.glo_ok X G (c.fact 22 (f := .glo "_law_take") rfl),
    f_law_one := He.fAd K dd33.at_, fd_law_one := fd33, F_law_one := F33, b_law_one := b33, m_law_one := He.glo_ok X G (c.fact 23 (f := .glo "_law_one") rfl),
    f_law_rings := He.fAd K dd34.at_, fd_law_rings := fd34, F_law_rings := F34, b_law_rings := b34, m_law_rings := He.glo_ok X G (c.fact 24 (f := .glo "_law_rings") rfl),
    f_law_seat := He.fAd K dd35.at_, fd_law_seat := fd35, F_law_seat := F35, b_law_seat := b35, m_law_seat := He.glo_ok X G (c.fact 25 (f := .glo "_law_seat") rfl),
    f_law_call := He.fAd K dd36.at_, fd_law_call := fd36, F_law_call := F36, b_law_call := b36, m_law_call := He.glo_ok X G (c.fact 26 (f := .glo "_law_call") rfl),
    f_law_moves := He.fAd K dd37.at_, fd_law_moves := fd37, F_law_moves := F37, b_law_moves := b37, m_law_moves := He.glo_ok X G (c.fact 27 (f := .glo "_law_moves") rfl),
    f_law_step := He.fAd K dd38.at_, fd_law_step := fd38, F_law_step := F38, b_law_step := b38, m_law_step := He.glo_ok X G (c.fact 28 (f := .glo "_law_step") rfl),
    f_law_value := He.fAd K dd39.at_, fd_law_value := fd39, F_law_value := F39, b_law_value := b39, m_law_value := He.glo_ok X G (c.fact 29 (f := .glo "_law_value") rfl),
    f_law_divisor := He.fAd K dd40.at_, fd_law_divisor := fd40, F_law_divisor := F40, b_law_divisor := b40, m_law_divisor := He.glo_ok X G (c.fact 30 (f := .glo "_law_divisor") rfl),
    f_law_weights := He.fAd K dd41.at_, fd_law_weights := fd41, F_law_weights := F41, b_law_weights := b41, m_law_weights := He.glo_ok X G (c.fact 31 (f := .glo "_law_weights") rfl),
    f_law_is_canonical := He.fAd K dd42.at_, fd_law_is_canonical := fd42, F_law_is_canonical := F42, b_law_is_canonical := b42, m_law_is_canonical := He.glo_ok X G (c.fact 32 (f := .glo "_law_is_canonical") rfl),
    f_law_explains := He.fAd K dd43.at_, fd_law_explains := fd43, F_law_explains := F43, b_law_explains := b43, m_law_explains := He.glo_ok X G (c.fact 33 (f := .glo "_law_explains") rfl),
    f_law_due := He.fAd K dd44.at_, fd_law_due := fd44, F_law_due := F44, b_law_due := b44, m_law_due := He.glo_ok X G (c.fact 34 (f := .glo "_law_due") rfl),
    f_law_large_due := He.fAd K dd45.at_, fd_law_large_due := fd45, F_law_large_due := F45, b_law_large_due := b45, m_law_large_due := He.glo_ok X G (c.fact 35 (f := .glo "_law_large_due") rfl),
    f_law := He.fAd K dd46.at_, fd_law := fd46, F_law := F46, b_law := b46, m_law := He.glo_ok X G (c.fact 36 (f := .glo "law") rfl),
    C_Table := He.ga K "Table", cl_Table := He.cls_ok (c.fact 38 (f := .cls "Table") rfl), m_Table := He.glo_ok X G (c.fact 37 (f := .glo "Table") rfl),
    M_Table := He.mkr_ok (c.fact 39 (f := .mkr "Table") rfl),
    me_Table_sizes := He.meth_ok (c.fact 40 (f := .meth "Table" "sizes") rfl),
    me_Table_count := He.meth_ok (c.fact 41 (f := .meth "Table" "count") rfl),
    me_Table_is_seat := He.meth_ok (c.fact 42 (f := .meth "Table" "is_seat") rfl),
    me_Table_is_call := He.meth_ok (c.fact 43 (f := .meth "Table" "is_call") rfl),
    me_Table_shifted := He.meth_ok (c.fact 44 (f := .meth "Table" "shifted") rfl),
    me_Table_moves := He.meth_ok (c.fact 45 (f := .meth "Table" "moves") rfl),
    me_Table_step := He.meth_ok (c.fact 46 (f := .meth "Table" "step") rfl),
    me_Table_order := He.meth_ok (c.fact 47 (f := .meth "Table" "order") rfl),
    me_Table_halves := He.meth_ok (c.fact 48 (f := .meth "Table" "halves") rfl),
    n_Table_rings := He.noat_ok (c.fact 49 (f := .noat "Table" "rings") rfl),
    ic_Table := He.eqO_ok ic_Table,
    im_Table := of_decide_eq_true im_Table,
    ig_ := He.eqO_ok ig_,
    it_ := of_decide_eq_true it_,
    t_MAX_RINGS := t_MAX_RINGS, c_MAX_RINGS := e_MAX_RINGS,
    t_SMALL := t_SMALL, c_SMALL := e_SMALL,
    z_abs := He.free_ok X G (c.fact 52 (f := .free "abs") rfl),
    z_all := He.free_ok X G (c.fact 53 (f := .free "all") rfl),
    z_bool := He.free_ok X G (c.fact 54 (f := .free "bool") rfl),
    z_enumerate := He.free_ok X G (c.fact 55 (f := .free "enumerate") rfl),
    z_int := He.free_ok X G (c.fact 56 (f := .free "int") rfl),
    z_isinstance := He.free_ok X G (c.fact 57 (f := .free "isinstance") rfl),
    z_len := He.free_ok X G (c.fact 58 (f := .free "len") rfl),
    z_list := He.free_ok X G (c.fact 59 (f := .free "list") rfl),
    z_min := He.free_ok X G (c.fact 60 (f := .free "min") rfl),
    z_range := He.free_ok X G (c.fact 61 (f := .free "range") rfl),
    z_str := He.free_ok X G (c.fact 62 (f := .free "str") rfl),
    z_sum := He.free_ok X G (c.fact 63 (f := .free "sum") rfl),
    z_tuple := He.free_ok X G (c.fact 64 (f := .free "tuple") rfl),
    z_zip := He.free_ok X G (c.fact 65 (f := .free "zip") rfl)
  }, He.glo_ok X G (c.fact 36 (f := .glo "law") rfl), fun s v => ?_⟩
  obtain ⟨oc, od, kV, doc, pm, an, cdv, ct, osl, h1, h2, h3⟩ := F46.ex
  show BindsTo s fd46 _ _
  rw [h1]
  exact .of_eq rfl
end CS
open PySem PySem.W PySem.Calls PyProof.Rows in
set_option maxRecDepth 100000 in
set_option maxHeartbeats 0 in
theorem PySem.Challenge.cw_calledseats_k45_witnesses_that_explain_d_holds : PySem.Challenge.rw_calledseats_k45_witnesses_that_explain_d.Holds := by
  w_on; o_law
  refine HandSHeadRun.head_any (r := OpenLaw.row PySem.Challenge.rw_calledseats_k45_witnesses_that_explain_d) (q := view (OpenLaw.row PySem.Challenge.rw_calledseats_k45_witnesses_that_explain_d).prog [52]) (H := CS.hk) (ob := CS.ob) (M := 30000) (loose := CS.loose) (d := HandSHeadRun.topDef (OpenLaw.row PySem.Challenge.rw_calledseats_k45_witnesses_that_explain_d).prog 52) (kwd := []) CS.ob_eq
    (by kernel_rfl) (fun s => by kernel_rfl) CS.runTop (by kernel_rfl) (by kernel_rfl) (by kernel_rfl) (by rfl) (by first | assumption | decide +kernel) (by decide +kernel) ⟨rfl, rfl, rfl, rfl, rfl, by decide +kernel⟩ ?hw ?hc
  case hw => w_witness2
  case hc =>
    refine L2.walk_ofE (l := PySem.Challenge.rw_calledseats_k45_witnesses_that_explain_d) (n := 63) (k := 9) (x := "_law_script") (CX := L2.CX0) rfl (by decide) (by kernel_rfl) ⟨rfl, by decide, by decide⟩ ?F (fun _ _ _ _ z => z)
    intro w mg fa h Y G hmg0
    obtain ⟨K, KX, c⟩ := Y
    have hmg : mg ("law" : PySem.Str) = some (.ref fa) := by
      have e : (HandSHeadRun.topDef (OpenLaw.row PySem.Challenge.rw_calledseats_k45_witnesses_that_explain_d).prog 52).name = ("law" : PySem.Str) := by kernel_rfl
      rw [← e]
      exact hmg0
    obtain ⟨T, e1, e2⟩ := CS.tx_of KX G c
    have e := hmg.symm.trans e1
    cases e
    exact ⟨K, T.fd_law, CS.sp_law K, KX, e2, fun H a ns hl _ hS => ⟨a, ns, rfl, hS, hl, fun _ => rfl⟩, fun base _ _ => CS.ok_law T⟩
