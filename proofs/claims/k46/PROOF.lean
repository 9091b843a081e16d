import PyProof.Rows.All
import Wide.All
import OpenK.AllK
import Wide.FinOn
import HandS.ForMost
import HandS.Zip
import HandS.TupAny
import HandS.TupMul
import HandS.Deep
import HandS.Style
import HandS.SetFor
import HandS.Strs
import HandS.Walk
import HandS.IsInst
import HandS.Conv
import HandS.Wide
import HandS.WideBits
import HandS.Evl
import HandS.MakeKwOnly
import KE.GoesMore
import KE.GoesEnumKw
import KE.KBits
import KE.SortData
import HandS.TupSets
import KE.DatumOrd
import HandS.TupLe
import HandS.DictComp
import HandS.DictTup
import HandS.TupLen
import KE.KDictCopyH
import KE.KDictWalk
import KE.KDictKeyed
import PyProof.WalkInts
import PyProof.SeqI3
import HandS.TryOnly
import KE.KStateDown
import HandS.Head0
import HandS.Head1
import HandS.Head2
import HandS.More
import HandS.Defaults
import HandS.HeadEnd
import HandS.HeadHook1
import HandS.HeadHook2
import PySem.Challenge.RW_calledseats_k46_whole_responders_with_wi
set_option Elab.async false
set_option linter.all false
set_option maxRecDepth 100000
set_option maxHeartbeats 4000000


namespace CZ
open PySem PySem.Spec PyProof.Rows L2
open PySem.Sem (wp)
/-- one draw of a zip: strict or not -/
def zdraw (b : Bool) (it : Value) : Sem (Option Value) := if b = true then Builtin.SmallTypes.nextOrEnd it else (Builtin.SmallTypes.nextOf it >>= fun x => pure (some x))
/-- a zip object: f0 what it has handed out, b its strictness -/
abbrev ZipO (h : Heap) (z TI TO : Addr) (f0 : Value) (b : Bool) : Prop := h.get? z = some { cls := .type "zip", data := .fields #[f0, .bool false, .bool b, .ref TI, .ref TO] }
abbrev TupO (h : Heap) (T : Addr) (vs : Array Value) : Prop := h.get? T = some { cls := .type "tuple", data := .seq vs }
theorem val_b (b : Bool) : (Value.bool b == Value.bool true) = b := by cases b <;> rfl
section
variable {prog : Program} {w : World} {A : Around} {E : Value → Shared → Prop} {s : Shared} {b : Bool}
theorem zdraw_item {it : Addr} {fp : List Addr} {n i : Nat} {P : Nat → Value → Prop} {St : Nat → Heap → Prop} {Q : Option Value → Shared → Prop} (D : Draws prog w A it fp n P St) (hi : i < n) (st : St i s.heap)
    (hQ : ∀ x h' tk, P i x → St (i + 1) h' → Heap.SameBut it s.heap h' → Q (some x) { s with heap := h', toks := tk }) : wpAny (model prog w) A (zdraw b (.ref it)) Q E s := by
  cases b with
  | false => exact wpAny_bind (m := Builtin.SmallTypes.nextOf (.ref it)) (D.item i s _ _ hi st fun x h' tk p st' sb => wpAny_pure (hQ x h' tk p st' sb))
  | true =>
    show wpAny _ _ (Builtin.SmallTypes.nextOrEnd (.ref it)) _ _ _
    unfold Builtin.SmallTypes.nextOrEnd
    exact wpAny_bind (wpAny_attempt (D.item i s _ _ hi st fun x h' tk p st' sb => wpAny_pure (hQ x h' tk p st' sb)))
theorem zend_strict {it : Addr} {fp : List Addr} {n : Nat} {P : Nat → Value → Prop} {St : Nat → Heap → Prop} {Q : Option Value → Shared → Prop} (D : Draws prog w A it fp n P St) (st : St n s.heap)
    (hQ : ∀ h', Heap.ExtBut it s.heap h' → Q none { s with heap := h' }) : wpAny (model prog w) A (Builtin.SmallTypes.nextOrEnd (.ref it)) Q E s := by
  unfold Builtin.SmallTypes.nextOrEnd
  refine wpAny_bind (wpAny_attempt (D.done s _ _ st fun h' e eb he => ?_))
  obtain ⟨o, ho, hc⟩ := he
  exact wpAny_bind (wpAny_isInstance (T := "StopIteration") (b := true) ⟨o, ho, hc⟩ isSubtype_stop (wpAny_pure (hQ h' eb)))
theorem upd_tup {T : Addr} {vs : Array Value} {x : Value} {k : Nat} {Q : Unit → Shared → Prop} (hT : TupO s.heap T vs) (hz : vs.size ≤ 8)
    (h : ∀ h', TupO h' T (vs.setIfInBounds k x) → Heap.SameBut T s.heap h' → Q () { s with heap := h' }) : wpAny (model prog w) A (updateSeq T (·.setIfInBounds k x)) Q E s := by
  have z8 : (8 : Nat) ≤ sizeLine := by decide
  refine wpAny_updateSeq hT rfl (h _ ?_ (Heap.SameBut.update ..)) (Nat.le_trans hz z8) (by rw [Array.size_setIfInBounds]; exact Nat.le_succ_of_le (Nat.le_trans hz z8))
  unfold TupO
  rw [Heap.get?_update_self _ hT rfl]
  simp [Obj.mapSeq]
theorem iter_zip {z TI TO : Addr} {f0 : Value} {Q : Value → Shared → Prop} (hz : ZipO s.heap z TI TO f0 b) (h : Q (.ref z) s) : wpAny (model prog w) A (pyIter (.ref z)) Q E s := by
  have hT : s.TypeIs (.ref z) "zip" := ⟨_, hz, rfl⟩
  exact wpAny_pyIter_slot hT F.slot_zip_iter (wpAny_call_entry F.slot_zip_iter hT F.entry_zip_iter (wpAny_pure ⟨_, rfl, "zip", _, hT, F.slot_zip_next.lookup, h⟩) (F.args_zip_iter_1 _))
/-- the tuple that was handed out is let go -/
theorem go_zip {elts : List Expr} {x1} {pos : Pos} {z TI TO T : Addr} {Q : Unit → Shared → Prop} (hz : ZipO s.heap z TI TO (rawInt T) b)
    (hQ : ∀ h', ZipO h' z TI TO .none b → Heap.SameBut z s.heap h' → Q () { s with heap := h' }) : wpAny (model prog w) A (letOwnedTupleGo (.Tuple elts x1 pos) (.ref z) (.ref T)) Q E s := by
  unfold letOwnedTupleGo
  refine wpAny_bind (wpAny_load hz ?_)
  show wpAny _ _ (ite _ _ _) Q E s
  rw [if_pos (by simp)]
  exact wpAny_bind (wpAny_rule (wpAny_setField_rec hz (by simp) fun h' hz' hs' => hQ h' hz' hs'))
/-- the StopIteration that a zip ends by -/
theorem stop_it {Q : Fin → Shared → Prop} (hh : A.handled = none) (hE : ∀ h' e, (∀ c o, s.heap.get? c = some o → h'.get? c = some o) → (∃ o, h'.get? e = some o ∧ o.cls = .type "StopIteration") → E (.ref e) { s with heap := h' }) :
    wpAny (model prog w) A (PySem.Builtin.SmallTypes.stopIteration : Sem Fin) Q E s := by
  unfold PySem.Builtin.SmallTypes.stopIteration
  show wpAny _ _ (newExc (.type "StopIteration") [] >>= _) _ _ _
  refine wpAny_bind ?_
  simp only [newExc, newTuple]
  refine wpAny_bind (wpAny_newObj_type ?_ (by size_fits))
  refine wpAny_bind (m := firstArgMember _ _) (wpAny_of_eq (a := Value.none) (by first | rfl | (simp only [firstArgMember]; rfl)) ?_)
  refine wpAny_newObj_type ?_ (by size_fits)
  simp only [raiseNew]
  refine wpAny_bind (wpAny_handled ?_)
  rw [hh]
  exact wpAny_bind (wpAny_pure (wpAny_throw (hE _ _ (fun c o e => Heap.get?_push_of_some _ (Heap.get?_push_of_some _ e)) ⟨_, Heap.get?_push_size _ rfl, rfl⟩)))
end
end CZ

namespace CZ
open PySem PySem.Spec PyProof.Rows L2
open PySem.Sem (wp)
/-- the cells of a zip over 2 iterators lie apart -/
structure Sep2 (z TI TO i1 i2 : Addr) (fp1 fp2 : List Addr) : Prop where
  zTO : z ≠ TO
  zTI : z ≠ TI
  TOTI : TO ≠ TI
  m1 : i1 ∈ fp1
  z1 : z ∉ fp1
  T1 : TO ∉ fp1
  I1 : TI ≠ i1
  s2_1 : i2 ∉ fp1
  m2 : i2 ∈ fp2
  z2 : z ∉ fp2
  T2 : TO ∉ fp2
  I2 : TI ≠ i2
  s1_2 : i1 ∉ fp2
section
variable {prog : Program} {w : World} {A : Around} {E : Value → Shared → Prop} {s : Shared} {b : Bool}
theorem next_item2 {z TI TO i1 i2 : Addr} {fp1 fp2 : List Addr} {n1 n2 i : Nat} {P1 P2 : Nat → Value → Prop} {St1 St2 : Nat → Heap → Prop} {a1 a2 : Value} {Q : Value → Shared → Prop} (S : Sep2 z TI TO i1 i2 fp1 fp2) (D1 : Draws prog w A i1 fp1 n1 P1 St1) (D2 : Draws prog w A i2 fp2 n2 P2 St2)
    (hz : ZipO s.heap z TI TO .none b) (hTI : TupO s.heap TI #[.ref i1, .ref i2]) (hTO : TupO s.heap TO #[a1, a2]) (st1 : St1 i s.heap) (st2 : St2 i s.heap) (hi1 : i < n1) (hi2 : i < n2)
    (hQ : ∀ x1 x2 h' tk, P1 i x1 → P2 i x2 → ZipO h' z TI TO (rawInt s.heap.objs.size) b → TupO h' TO #[x1, x2] → St1 (i + 1) h' → St2 (i + 1) h' → TupO h' s.heap.objs.size #[x1, x2] →
      (∀ c o, c ≠ z → c ≠ TO → c ≠ i1 → c ≠ i2 → s.heap.get? c = some o → h'.get? c = some o) → Q (.ref s.heap.objs.size) { s with heap := h', toks := tk }) :
    wpAny (model prog w) A (Builtin.«zip.__next__» ⟨[.ref z], []⟩) (fun fin s' => ∃ v, fin = .done (.ret v) ∧ Q v s') E s := by
  obtain ⟨hp, g, d, tk0, os⟩ := s
  refine wpAny_bind (m := field (.ref z) 2) (wpAny_field hz rfl (x := .bool b) rfl ?_)
  refine wpAny_bind (m := field (.ref z) 3) (wpAny_field hz rfl (x := .ref TI) rfl ?_)
  refine wpAny_bind (wpAny_seqItems hTI rfl ?_)
  show wpAny _ _ (Builtin.SmallTypes.ownedTupleIsFree (.ref z) >>= _) _ _ _
  rw [val_b]
  refine wpAny_bind ?_
  unfold Builtin.SmallTypes.ownedTupleIsFree
  refine wpAny_bind (wpAny_field hz rfl (x := .none) rfl (wpAny_pure ?_))
  simp only [if_true]
  refine wpAny_bind (wpAny_rule (wpAny_bind (wpAny_field hz rfl (x := .ref TO) rfl ?_)))
  refine wpAny_bind (wpAny_setField_rec hz (by simp) fun g0 hz0 hs0 => wpAny_bind ?_)
  replace hs0 : Heap.SameBut z hp g0 := hs0
  replace hz0 : ZipO g0 z TI TO .ellipsis b := hz0
  have hT0 : TupO g0 TO #[a1, a2] := hs0.extBut _ _ S.zTO.symm hTO
  have t1_0 : St1 i g0 := D1.frame _ _ _ st1 fun c hc o e => hs0.extBut c o (fun q => S.z1 (q ▸ hc)) e
  have t2_0 : St2 i g0 := D2.frame _ _ _ st2 fun c hc o e => hs0.extBut c o (fun q => S.z2 (q ▸ hc)) e
  have k0 : ∀ c o, c ≠ z → c ≠ TO → c ≠ i1 → c ≠ i2 → hp.get? c = some o → g0.get? c = some o := fun c o q0 _ _ _ e => hs0.extBut c o q0 e
  simp only [List.zipIdx_cons, List.zipIdx_nil, List.forIn_cons, List.forIn_nil]
  refine wpAny_bind (wpAny_bind (wpAny_onRaise (m := zdraw b (.ref i1)) (zdraw_item (s := ⟨g0, g, d, tk0, os⟩) D1 hi1 t1_0 fun x1 d1 tk1 p1 n1 hd1 => ?_)))
  replace hd1 : Heap.SameBut i1 g0 d1 := hd1
  have hU1 : TupO d1 TO #[a1, a2] := hd1.extBut _ _ (fun q => S.T1 (q ▸ S.m1)) hT0
  refine wpAny_bind (wpAny_seqItems (s := ⟨d1, g, d, tk1, os⟩) hU1 rfl ?_)
  refine wpAny_bind (upd_tup (s := ⟨d1, g, d, tk1, os⟩) hU1 (by simp) fun g1 hT1 hs1 => ?_)
  replace hs1 : Heap.SameBut TO d1 g1 := hs1
  replace hT1 : TupO g1 TO #[x1, a2] := hT1
  have hz1 : ZipO g1 z TI TO .ellipsis b := hs1.extBut _ _ S.zTO (hd1.extBut _ _ (fun q => S.z1 (q ▸ S.m1)) hz0)
  have t1_1 : St1 (i + 1) g1 := D1.frame _ _ _ n1 fun c hc o e => hs1.extBut c o (fun q => S.T1 (q ▸ hc)) e
  have t2_1 : St2 i g1 := D2.frame _ _ _ t2_0 fun c hc o e => hs1.extBut c o (fun q => S.T2 (q ▸ hc)) (hd1.extBut c o (fun q => S.s1_2 (q ▸ hc)) e)
  have k1 : ∀ c o, c ≠ z → c ≠ TO → c ≠ i1 → c ≠ i2 → hp.get? c = some o → g1.get? c = some o := fun c o qz qT q1 q2 e => hs1.extBut c o qT (hd1.extBut c o q1 (k0 c o qz qT q1 q2 e))
  have e1 : g1.objs.size = g0.objs.size := by rw [hs1.1, hd1.1]
  refine wpAny_bind (wpAny_letGo (wpAny_pure ?_))
  refine wpAny_bind (wpAny_bind (wpAny_onRaise (m := zdraw b (.ref i2)) (zdraw_item (s := ⟨g1, g, d, tk1, os⟩) D2 hi2 t2_1 fun x2 d2 tk2 p2 n2 hd2 => ?_)))
  replace hd2 : Heap.SameBut i2 g1 d2 := hd2
  have hU2 : TupO d2 TO #[x1, a2] := hd2.extBut _ _ (fun q => S.T2 (q ▸ S.m2)) hT1
  refine wpAny_bind (wpAny_seqItems (s := ⟨d2, g, d, tk2, os⟩) hU2 rfl ?_)
  refine wpAny_bind (upd_tup (s := ⟨d2, g, d, tk2, os⟩) hU2 (by simp) fun g2 hT2 hs2 => ?_)
  replace hs2 : Heap.SameBut TO d2 g2 := hs2
  replace hT2 : TupO g2 TO #[x1, x2] := hT2
  have hz2 : ZipO g2 z TI TO .ellipsis b := hs2.extBut _ _ S.zTO (hd2.extBut _ _ (fun q => S.z2 (q ▸ S.m2)) hz1)
  have t1_2 : St1 (i + 1) g2 := D1.frame _ _ _ t1_1 fun c hc o e => hs2.extBut c o (fun q => S.T1 (q ▸ hc)) (hd2.extBut c o (fun q => S.s2_1 (q ▸ hc)) e)
  have t2_2 : St2 (i + 1) g2 := D2.frame _ _ _ n2 fun c hc o e => hs2.extBut c o (fun q => S.T2 (q ▸ hc)) e
  have k2 : ∀ c o, c ≠ z → c ≠ TO → c ≠ i1 → c ≠ i2 → hp.get? c = some o → g2.get? c = some o := fun c o qz qT q1 q2 e => hs2.extBut c o qT (hd2.extBut c o q2 (k1 c o qz qT q1 q2 e))
  have e2 : g2.objs.size = g1.objs.size := by rw [hs2.1, hd2.1]
  refine wpAny_bind (wpAny_letGo (wpAny_pure ?_))
  refine wpAny_pure ?_
  refine wpAny_bind (wpAny_seqItems (s := ⟨g2, g, d, tk2, os⟩) hT2 rfl ?_)
  refine wpAny_bind (wpAny_newTuple ?_)
  have hsz : g2.objs.size = hp.objs.size := by rw [e2, e1, hs0.1]
  have hlt : z < g2.objs.size := Heap.lt_size hz2
  refine wpAny_bind ?_
  unfold Builtin.SmallTypes.ownedTupleHandOut
  have hy : ZipO (g2.push { cls := .type "tuple", data := .seq #[x1, x2] }) z TI TO .ellipsis b := Heap.get?_push_of_some _ hz2
  refine wpAny_bind (wpAny_setField_rec hy (by simp) fun u1 hu1 hv1 => wpAny_setField_rec hu1 (by simp) fun u2 hu2 hv2 => ?_)
  have up : ∀ c o, c ≠ z → g2.get? c = some o → u2.get? c = some o := fun c o q e => hv2.extBut c o q (hv1.extBut c o q (Heap.get?_push_of_some _ e))
  have hN : TupO u2 g2.objs.size #[x1, x2] := hv2.extBut _ _ (Nat.ne_of_gt hlt) (hv1.extBut _ _ (Nat.ne_of_gt hlt) (Heap.get?_push_size _ rfl))
  have hZ : ZipO u2 z TI TO (rawInt g2.objs.size) b := hu2
  rw [hsz] at hN hZ
  refine wpAny_pure ⟨_, rfl, ?_⟩
  show Q (.ref g2.objs.size) ⟨u2, g, d, tk2, os⟩
  rw [hsz]
  exact hQ x1 x2 u2 tk2 p1 p2 hZ (up _ _ S.zTO.symm hT2) (D1.frame _ _ _ t1_2 fun c hc o e => up c o (fun q => S.z1 (q ▸ hc)) e) (D2.frame _ _ _ t2_2 fun c hc o e => up c o (fun q => S.z2 (q ▸ hc)) e) hN fun c o qz qT q1 q2 e => up c o qz (k2 c o qz qT q1 q2 e)
theorem next_end2 {z TI TO i1 i2 : Addr} {fp1 fp2 : List Addr} {n : Nat} {P1 P2 : Nat → Value → Prop} {St1 St2 : Nat → Heap → Prop} {a1 a2 : Value} {Q : Fin → Shared → Prop} (hh : A.handled = none) (S : Sep2 z TI TO i1 i2 fp1 fp2) (D1 : Draws prog w A i1 fp1 n P1 St1) (D2 : Draws prog w A i2 fp2 n P2 St2)
    (hz : ZipO s.heap z TI TO .none b) (hTI : TupO s.heap TI #[.ref i1, .ref i2]) (hTO : TupO s.heap TO #[a1, a2]) (st1 : St1 n s.heap) (st2 : St2 n s.heap)
    (hE : ∀ h' e, (∀ c o, c ≠ z → c ≠ TO → c ≠ i1 → c ≠ i2 → s.heap.get? c = some o → h'.get? c = some o) → (∃ o, h'.get? e = some o ∧ o.cls = .type "StopIteration") → E (.ref e) { s with heap := h' }) :
    wpAny (model prog w) A (Builtin.«zip.__next__» ⟨[.ref z], []⟩) Q E s := by
  obtain ⟨hp, g, d, tk0, os⟩ := s
  refine wpAny_bind (m := field (.ref z) 2) (wpAny_field hz rfl (x := .bool b) rfl ?_)
  refine wpAny_bind (m := field (.ref z) 3) (wpAny_field hz rfl (x := .ref TI) rfl ?_)
  refine wpAny_bind (wpAny_seqItems hTI rfl ?_)
  show wpAny _ _ (Builtin.SmallTypes.ownedTupleIsFree (.ref z) >>= _) _ _ _
  rw [val_b]
  refine wpAny_bind ?_
  unfold Builtin.SmallTypes.ownedTupleIsFree
  refine wpAny_bind (wpAny_field hz rfl (x := .none) rfl (wpAny_pure ?_))
  simp only [if_true]
  refine wpAny_bind (wpAny_rule (wpAny_bind (wpAny_field hz rfl (x := .ref TO) rfl ?_)))
  refine wpAny_bind (wpAny_setField_rec hz (by simp) fun g0 hz0 hs0 => wpAny_bind ?_)
  replace hs0 : Heap.SameBut z hp g0 := hs0
  replace hz0 : ZipO g0 z TI TO .ellipsis b := hz0
  have t1_0 : St1 n g0 := D1.frame _ _ _ st1 fun c hc o e => hs0.extBut c o (fun q => S.z1 (q ▸ hc)) e
  have t2_0 : St2 n g0 := D2.frame _ _ _ st2 fun c hc o e => hs0.extBut c o (fun q => S.z2 (q ▸ hc)) e
  simp only [List.zipIdx_cons, List.zipIdx_nil, List.forIn_cons, List.forIn_nil]
  refine wpAny_bind (wpAny_bind (wpAny_onRaise ?_))
  cases b with
  | false =>
    refine wpAny_bind (m := Builtin.SmallTypes.nextOf (.ref i1)) (D1.done ⟨g0, g, d, tk0, os⟩ _ _ t1_0 fun y e hy he => ?_)
    replace hy : Heap.ExtBut i1 g0 y := hy
    obtain ⟨oe, hoe, hce⟩ := he
    replace hoe : y.get? e = some oe := hoe
    have hzy : ZipO y z TI TO .ellipsis false := hy _ _ (fun q => S.z1 (q ▸ S.m1)) hz0
    have hez : e ≠ z := fun x => by subst x; rw [hzy] at hoe; cases hoe; simp at hce
    refine wpAny_setField_rec (s := ⟨y, g, d, tk0, os⟩) hzy (by simp) fun y2 _ hv => ?_
    replace hv : Heap.SameBut z y y2 := hv
    exact hE y2 e (fun c o qz qT q1 q2 x => hv.extBut c o qz (hy c o q1 (hs0.extBut c o qz x))) ⟨oe, hv.extBut _ _ hez hoe, hce⟩
  | true =>
    refine zend_strict (s := ⟨g0, g, d, tk0, os⟩) D1 t1_0 fun y hy => ?_
    replace hy : Heap.ExtBut i1 g0 y := hy
    have hzy : ZipO y z TI TO .ellipsis true := hy _ _ (fun q => S.z1 (q ▸ S.m1)) hz0
    have t2_1 : St2 n y := D2.frame _ _ _ t2_0 fun c hc o e => hy c o (fun q => S.s1_2 (q ▸ hc)) e
    refine wpAny_bind (wpAny_setField_rec (s := ⟨y, g, d, tk0, os⟩) hzy (by simp) fun y1 _ hv1 => ?_)
    replace hv1 : Heap.SameBut z y y1 := hv1
    have r2_1 : St2 n y1 := D2.frame _ _ _ t2_1 fun c hc o e => hv1.extBut c o (fun q => S.z2 (q ▸ hc)) e
    have k1 : ∀ c o, c ≠ z → c ≠ TO → c ≠ i1 → c ≠ i2 → hp.get? c = some o → y1.get? c = some o := fun c o qz qT q1 q2 e => hv1.extBut c o qz (hy c o q1 (hs0.extBut c o qz e))
    refine wpAny_bind ?_
    refine wpAny_bind ?_
    simp only [List.drop_succ_cons, List.drop_zero, List.zipIdx_cons, List.zipIdx_nil, List.forIn_cons, List.forIn_nil]
    refine wpAny_bind (wpAny_bind (zend_strict (s := ⟨y1, g, d, tk0, os⟩) D2 r2_1 fun y2 hy2 => ?_))
    replace hy2 : Heap.ExtBut i2 y1 y2 := hy2
    have k2 : ∀ c o, c ≠ z → c ≠ TO → c ≠ i1 → c ≠ i2 → hp.get? c = some o → y2.get? c = some o := fun c o qz qT q1 q2 e => hy2 c o q2 (k1 c o qz qT q1 q2 e)
    refine wpAny_pure ?_
    refine wpAny_pure ?_
    exact wpAny_bind (wpAny_rule (stop_it (s := ⟨y2, g, d, tk0, os⟩) hh fun h2 e kk he => hE h2 e (fun c o qz qT q1 q2 x => kk c o (k2 c o qz qT q1 q2 x)) he))
theorem py_item2 {z TI TO i1 i2 : Addr} {fp1 fp2 : List Addr} {n1 n2 i : Nat} {P1 P2 : Nat → Value → Prop} {St1 St2 : Nat → Heap → Prop} {a1 a2 : Value} {Q : Option Value → Shared → Prop} (S : Sep2 z TI TO i1 i2 fp1 fp2) (D1 : Draws prog w A.in1 i1 fp1 n1 P1 St1) (D2 : Draws prog w A.in1 i2 fp2 n2 P2 St2)
    (hz : ZipO s.heap z TI TO .none b) (hTI : TupO s.heap TI #[.ref i1, .ref i2]) (hTO : TupO s.heap TO #[a1, a2]) (st1 : St1 i s.heap) (st2 : St2 i s.heap) (hi1 : i < n1) (hi2 : i < n2)
    (hQ : ∀ x1 x2 h' tk, P1 i x1 → P2 i x2 → ZipO h' z TI TO (rawInt s.heap.objs.size) b → TupO h' TO #[x1, x2] → St1 (i + 1) h' → St2 (i + 1) h' → TupO h' s.heap.objs.size #[x1, x2] →
      (∀ c o, c ≠ z → c ≠ TO → c ≠ i1 → c ≠ i2 → s.heap.get? c = some o → h'.get? c = some o) → Q (some (.ref s.heap.objs.size)) { s with heap := h', toks := tk }) : wpAny (model prog w) A (pyNext (.ref z)) Q E s := by
  have hT : s.TypeIs (.ref z) "zip" := ⟨_, hz, rfl⟩
  unfold pyNext
  refine wpAny_bind (wpAny_attempt (wpAny_callSpecial?_slot (name := Str.ofString "__next__") hT F.slot_zip_next (wpAny_call_entry F.slot_zip_next hT F.entry_zip_next ?_ (F.args_zip_next_1 _))))
  exact next_item2 S D1 D2 hz hTI hTO st1 st2 hi1 hi2 fun x1 x2 h2 tk p1 p2 q1 q2 u1 u2 q3 q4 => wpAny_pure (hQ x1 x2 h2 tk p1 p2 q1 q2 u1 u2 q3 q4)
theorem py_end2 {z TI TO i1 i2 : Addr} {fp1 fp2 : List Addr} {n : Nat} {P1 P2 : Nat → Value → Prop} {St1 St2 : Nat → Heap → Prop} {a1 a2 : Value} {Q : Option Value → Shared → Prop} (hh : A.handled = none) (S : Sep2 z TI TO i1 i2 fp1 fp2) (D1 : Draws prog w A.in1 i1 fp1 n P1 St1) (D2 : Draws prog w A.in1 i2 fp2 n P2 St2)
    (hz : ZipO s.heap z TI TO .none b) (hTI : TupO s.heap TI #[.ref i1, .ref i2]) (hTO : TupO s.heap TO #[a1, a2]) (st1 : St1 n s.heap) (st2 : St2 n s.heap)
    (hQ : ∀ h', (∀ c o, c ≠ z → c ≠ TO → c ≠ i1 → c ≠ i2 → s.heap.get? c = some o → h'.get? c = some o) → Q none { s with heap := h' }) : wpAny (model prog w) A (pyNext (.ref z)) Q E s := by
  have hT : s.TypeIs (.ref z) "zip" := ⟨_, hz, rfl⟩
  unfold pyNext
  refine wpAny_bind (wpAny_attempt (wpAny_callSpecial?_slot (name := Str.ofString "__next__") hT F.slot_zip_next (wpAny_call_entry F.slot_zip_next hT F.entry_zip_next ?_ (F.args_zip_next_1 _))))
  refine next_end2 (A := A.in1) hh S D1 D2 hz hTI hTO st1 st2 fun h2 e kk he => ?_
  obtain ⟨o, ho, hc⟩ := he
  exact wpAny_bind (wpAny_isInstance (T := "StopIteration") (b := true) ⟨o, ho, hc⟩ isSubtype_stop (wpAny_pure (hQ _ kk)))
theorem typeCall_strict2 (v1 v2 x : Value) : checkTypeCall "zip" ⟨[v1, v2], [(Str.ofString "strict", x)]⟩ = pure () := by kernel_rfl
theorem newCall_strict2 (v1 v2 x : Value) : checkBuiltinCall "zip.__new__" ⟨[.type "zip", v1, v2], [(Str.ofString "strict", x)]⟩ = pure () := by kernel_rfl
theorem initArgs_strict2 (obj v1 v2 x : Value) : argsOk "object.__init__" ⟨[obj, v1, v2], [(Str.ofString "strict", x)]⟩ := by unfold argsOk; kernel_rfl
abbrev sT2 (h : Heap) (o1 o2 : Obj) : Heap := (((h.push o1).push o2).push { cls := .type "tuple", data := .seq #[.ref h.objs.size, .ref (h.push o1).objs.size] })
abbrev sO2 (h : Heap) (o1 o2 : Obj) : Heap := (sT2 h o1 o2).push { cls := .type "tuple", data := .seq #[.none, .none] }
abbrev sZ2 (h : Heap) (o1 o2 : Obj) : Heap := (sO2 h o1 o2).push { cls := .type "zip", data := .fields #[.none, .bool false, .bool true, .ref ((h.push o1).push o2).objs.size, .ref (sT2 h o1 o2).objs.size] }
theorem meets_strict2 {v1 v2 : Value} {o1 o2 : Obj} {G1 G2 : Heap → Prop} (B1 : Begins v1 o1 G1) (B2 : Begins v2 o2 G2) :
    Meets (Builtin.«zip.__new__» ⟨[.type "zip", v1, v2], [(Str.ofString "strict", .bool true)]⟩) (fun _ R s => (G1 s.heap ∧ G2 s.heap) ∧ R (.ok (.ret (.ref (sO2 s.heap o1 o2).objs.size))) { s with heap := (sZ2 s.heap o1 o2) }) :=
  .of_wp fun prog w A R s h => by
    obtain ⟨hp, g, d, tk, os⟩ := s
    obtain ⟨⟨h1, h2⟩, h⟩ := h
    have hsub := sub_zip
    have e1 : (Str.ofString "strict" != ("strict" : Str)) = false := by decide +kernel
    have w1 : ∀ {A' : Around} {E : Value → Shared → Prop} {Q : Value → Shared → Prop}, Q (.ref hp.objs.size) ⟨(hp.push o1), g, d, tk, os⟩ → wpAny (model prog w) A' (pyIter v1) Q E ⟨hp, g, d, tk, os⟩ := fun q => B1.iter prog w _ _ ⟨hp, g, d, tk, os⟩ _ (B1.keeps _ _ h1 fun c u e => e) q
    have w2 : ∀ {A' : Around} {E : Value → Shared → Prop} {Q : Value → Shared → Prop}, Q (.ref (hp.push o1).objs.size) ⟨((hp.push o1).push o2), g, d, tk, os⟩ → wpAny (model prog w) A' (pyIter v2) Q E ⟨(hp.push o1), g, d, tk, os⟩ := fun q => B2.iter prog w _ _ ⟨(hp.push o1), g, d, tk, os⟩ _ (B2.keeps _ _ h2 fun c u e => (Heap.get?_push_of_some _ e)) q
    wp_walk using w1, w2
    exact ⟨_, rfl, h⟩
/-- zip(.., strict=True) of 2: its new cells -/
theorem begins_strict2 {v1 v2 : Value} {o1 o2 : Obj} {G1 G2 : Heap → Prop} {Q : Value → Shared → Prop} (B1 : Begins v1 o1 G1) (B2 : Begins v2 o2 G2) (h1 : G1 s.heap) (h2 : G2 s.heap)
    (h : ∀ h', ZipO h' (s.heap.objs.size + 4) (s.heap.objs.size + 2) (s.heap.objs.size + 3) .none true → TupO h' (s.heap.objs.size + 2) #[.ref s.heap.objs.size, .ref (s.heap.objs.size + 1)] → TupO h' (s.heap.objs.size + 3) #[.none, .none] → h'.get? s.heap.objs.size = some o1 → h'.get? (s.heap.objs.size + 1) = some o2 → (∀ c o, s.heap.get? c = some o → h'.get? c = some o) → Q (.ref (s.heap.objs.size + 4)) { s with heap := h' }) :
    wpAny (model prog w) A (call (.type "zip") [v1, v2] [(Str.ofString "strict", .bool true)]) Q E s := by
  refine callType_newKw F.called_zip (by decide) (typeCall_strict2 _ _ _) (newCall_strict2 _ _ _) (fun obj => initArgs_strict2 obj _ _ _) F.entry_zip_new (meets_strict2 B1 B2) ⟨⟨h1, h2⟩, ?_⟩
  have z1 : (s.heap.push o1).objs.size = s.heap.objs.size + 1 := by rw [Heap.size_push]
  have z2 : ((s.heap.push o1).push o2).objs.size = s.heap.objs.size + 2 := by rw [Heap.size_push, z1]
  have z3 : (sT2 s.heap o1 o2).objs.size = s.heap.objs.size + 3 := by rw [Heap.size_push, z2]
  have z4 : (sO2 s.heap o1 o2).objs.size = s.heap.objs.size + 4 := by rw [Heap.size_push, z3]
  have z5 : (sZ2 s.heap o1 o2).objs.size = s.heap.objs.size + 5 := by rw [Heap.size_push, z4]
  have q0 : (sZ2 s.heap o1 o2).get? s.heap.objs.size = some o1 := (Heap.get?_push_of_some _ (Heap.get?_push_of_some _ (Heap.get?_push_of_some _ (Heap.get?_push_of_some _ (Heap.get?_push_size _ B1.free)))))
  have q1 : (sZ2 s.heap o1 o2).get? (s.heap.push o1).objs.size = some o2 := (Heap.get?_push_of_some _ (Heap.get?_push_of_some _ (Heap.get?_push_of_some _ (Heap.get?_push_size _ B2.free))))
  rw [z1] at q1
  have q2 : (sZ2 s.heap o1 o2).get? ((s.heap.push o1).push o2).objs.size = some ({ cls := .type "tuple", data := .seq #[.ref s.heap.objs.size, .ref (s.heap.push o1).objs.size] } : Obj) := (Heap.get?_push_of_some _ (Heap.get?_push_of_some _ (Heap.get?_push_size _ rfl)))
  rw [z2] at q2
  have q3 : (sZ2 s.heap o1 o2).get? (sT2 s.heap o1 o2).objs.size = some ({ cls := .type "tuple", data := .seq #[.none, .none] } : Obj) := (Heap.get?_push_of_some _ (Heap.get?_push_size _ rfl))
  rw [z3] at q3
  have q4 : (sZ2 s.heap o1 o2).get? (sO2 s.heap o1 o2).objs.size = some ({ cls := .type "zip", data := .fields #[.none, .bool false, .bool true, .ref ((s.heap.push o1).push o2).objs.size, .ref (sT2 s.heap o1 o2).objs.size] } : Obj) := (Heap.get?_push_size _ rfl)
  rw [z4] at q4
  rw [z1] at q2
  rw [z3, z2] at q4
  show _ ∧ _
  rw [z4]
  exact ⟨⟨_, q4, rfl⟩, h _ q4 q2 q3 q0 q1 fun c o e => (Heap.get?_push_of_some _ (Heap.get?_push_of_some _ (Heap.get?_push_of_some _ (Heap.get?_push_of_some _ (Heap.get?_push_of_some _ e)))))⟩
end
/-- the cells of a zip over 3 iterators lie apart -/
structure Sep3 (z TI TO i1 i2 i3 : Addr) (fp1 fp2 fp3 : List Addr) : Prop where
  zTO : z ≠ TO
  zTI : z ≠ TI
  TOTI : TO ≠ TI
  m1 : i1 ∈ fp1
  z1 : z ∉ fp1
  T1 : TO ∉ fp1
  I1 : TI ≠ i1
  s2_1 : i2 ∉ fp1
  s3_1 : i3 ∉ fp1
  m2 : i2 ∈ fp2
  z2 : z ∉ fp2
  T2 : TO ∉ fp2
  I2 : TI ≠ i2
  s1_2 : i1 ∉ fp2
  s3_2 : i3 ∉ fp2
  m3 : i3 ∈ fp3
  z3 : z ∉ fp3
  T3 : TO ∉ fp3
  I3 : TI ≠ i3
  s1_3 : i1 ∉ fp3
  s2_3 : i2 ∉ fp3
section
variable {prog : Program} {w : World} {A : Around} {E : Value → Shared → Prop} {s : Shared} {b : Bool}
theorem next_item3 {z TI TO i1 i2 i3 : Addr} {fp1 fp2 fp3 : List Addr} {n1 n2 n3 i : Nat} {P1 P2 P3 : Nat → Value → Prop} {St1 St2 St3 : Nat → Heap → Prop} {a1 a2 a3 : Value} {Q : Value → Shared → Prop} (S : Sep3 z TI TO i1 i2 i3 fp1 fp2 fp3) (D1 : Draws prog w A i1 fp1 n1 P1 St1) (D2 : Draws prog w A i2 fp2 n2 P2 St2) (D3 : Draws prog w A i3 fp3 n3 P3 St3)
    (hz : ZipO s.heap z TI TO .none b) (hTI : TupO s.heap TI #[.ref i1, .ref i2, .ref i3]) (hTO : TupO s.heap TO #[a1, a2, a3]) (st1 : St1 i s.heap) (st2 : St2 i s.heap) (st3 : St3 i s.heap) (hi1 : i < n1) (hi2 : i < n2) (hi3 : i < n3)
    (hQ : ∀ x1 x2 x3 h' tk, P1 i x1 → P2 i x2 → P3 i x3 → ZipO h' z TI TO (rawInt s.heap.objs.size) b → TupO h' TO #[x1, x2, x3] → St1 (i + 1) h' → St2 (i + 1) h' → St3 (i + 1) h' → TupO h' s.heap.objs.size #[x1, x2, x3] →
      (∀ c o, c ≠ z → c ≠ TO → c ≠ i1 → c ≠ i2 → c ≠ i3 → s.heap.get? c = some o → h'.get? c = some o) → Q (.ref s.heap.objs.size) { s with heap := h', toks := tk }) :
    wpAny (model prog w) A (Builtin.«zip.__next__» ⟨[.ref z], []⟩) (fun fin s' => ∃ v, fin = .done (.ret v) ∧ Q v s') E s := by
  obtain ⟨hp, g, d, tk0, os⟩ := s
  refine wpAny_bind (m := field (.ref z) 2) (wpAny_field hz rfl (x := .bool b) rfl ?_)
  refine wpAny_bind (m := field (.ref z) 3) (wpAny_field hz rfl (x := .ref TI) rfl ?_)
  refine wpAny_bind (wpAny_seqItems hTI rfl ?_)
  show wpAny _ _ (Builtin.SmallTypes.ownedTupleIsFree (.ref z) >>= _) _ _ _
  rw [val_b]
  refine wpAny_bind ?_
  unfold Builtin.SmallTypes.ownedTupleIsFree
  refine wpAny_bind (wpAny_field hz rfl (x := .none) rfl (wpAny_pure ?_))
  simp only [if_true]
  refine wpAny_bind (wpAny_rule (wpAny_bind (wpAny_field hz rfl (x := .ref TO) rfl ?_)))
  refine wpAny_bind (wpAny_setField_rec hz (by simp) fun g0 hz0 hs0 => wpAny_bind ?_)
  replace hs0 : Heap.SameBut z hp g0 := hs0
  replace hz0 : ZipO g0 z TI TO .ellipsis b := hz0
  have hT0 : TupO g0 TO #[a1, a2, a3] := hs0.extBut _ _ S.zTO.symm hTO
  have t1_0 : St1 i g0 := D1.frame _ _ _ st1 fun c hc o e => hs0.extBut c o (fun q => S.z1 (q ▸ hc)) e
  have t2_0 : St2 i g0 := D2.frame _ _ _ st2 fun c hc o e => hs0.extBut c o (fun q => S.z2 (q ▸ hc)) e
  have t3_0 : St3 i g0 := D3.frame _ _ _ st3 fun c hc o e => hs0.extBut c o (fun q => S.z3 (q ▸ hc)) e
  have k0 : ∀ c o, c ≠ z → c ≠ TO → c ≠ i1 → c ≠ i2 → c ≠ i3 → hp.get? c = some o → g0.get? c = some o := fun c o q0 _ _ _ _ e => hs0.extBut c o q0 e
  simp only [List.zipIdx_cons, List.zipIdx_nil, List.forIn_cons, List.forIn_nil]
  refine wpAny_bind (wpAny_bind (wpAny_onRaise (m := zdraw b (.ref i1)) (zdraw_item (s := ⟨g0, g, d, tk0, os⟩) D1 hi1 t1_0 fun x1 d1 tk1 p1 n1 hd1 => ?_)))
  replace hd1 : Heap.SameBut i1 g0 d1 := hd1
  have hU1 : TupO d1 TO #[a1, a2, a3] := hd1.extBut _ _ (fun q => S.T1 (q ▸ S.m1)) hT0
  refine wpAny_bind (wpAny_seqItems (s := ⟨d1, g, d, tk1, os⟩) hU1 rfl ?_)
  refine wpAny_bind (upd_tup (s := ⟨d1, g, d, tk1, os⟩) hU1 (by simp) fun g1 hT1 hs1 => ?_)
  replace hs1 : Heap.SameBut TO d1 g1 := hs1
  replace hT1 : TupO g1 TO #[x1, a2, a3] := hT1
  have hz1 : ZipO g1 z TI TO .ellipsis b := hs1.extBut _ _ S.zTO (hd1.extBut _ _ (fun q => S.z1 (q ▸ S.m1)) hz0)
  have t1_1 : St1 (i + 1) g1 := D1.frame _ _ _ n1 fun c hc o e => hs1.extBut c o (fun q => S.T1 (q ▸ hc)) e
  have t2_1 : St2 i g1 := D2.frame _ _ _ t2_0 fun c hc o e => hs1.extBut c o (fun q => S.T2 (q ▸ hc)) (hd1.extBut c o (fun q => S.s1_2 (q ▸ hc)) e)
  have t3_1 : St3 i g1 := D3.frame _ _ _ t3_0 fun c hc o e => hs1.extBut c o (fun q => S.T3 (q ▸ hc)) (hd1.extBut c o (fun q => S.s1_3 (q ▸ hc)) e)
  have k1 : ∀ c o, c ≠ z → c ≠ TO → c ≠ i1 → c ≠ i2 → c ≠ i3 → hp.get? c = some o → g1.get? c = some o := fun c o qz qT q1 q2 q3 e => hs1.extBut c o qT (hd1.extBut c o q1 (k0 c o qz qT q1 q2 q3 e))
  have e1 : g1.objs.size = g0.objs.size := by rw [hs1.1, hd1.1]
  refine wpAny_bind (wpAny_letGo (wpAny_pure ?_))
  refine wpAny_bind (wpAny_bind (wpAny_onRaise (m := zdraw b (.ref i2)) (zdraw_item (s := ⟨g1, g, d, tk1, os⟩) D2 hi2 t2_1 fun x2 d2 tk2 p2 n2 hd2 => ?_)))
  replace hd2 : Heap.SameBut i2 g1 d2 := hd2
  have hU2 : TupO d2 TO #[x1, a2, a3] := hd2.extBut _ _ (fun q => S.T2 (q ▸ S.m2)) hT1
  refine wpAny_bind (wpAny_seqItems (s := ⟨d2, g, d, tk2, os⟩) hU2 rfl ?_)
  refine wpAny_bind (upd_tup (s := ⟨d2, g, d, tk2, os⟩) hU2 (by simp) fun g2 hT2 hs2 => ?_)
  replace hs2 : Heap.SameBut TO d2 g2 := hs2
  replace hT2 : TupO g2 TO #[x1, x2, a3] := hT2
  have hz2 : ZipO g2 z TI TO .ellipsis b := hs2.extBut _ _ S.zTO (hd2.extBut _ _ (fun q => S.z2 (q ▸ S.m2)) hz1)
  have t1_2 : St1 (i + 1) g2 := D1.frame _ _ _ t1_1 fun c hc o e => hs2.extBut c o (fun q => S.T1 (q ▸ hc)) (hd2.extBut c o (fun q => S.s2_1 (q ▸ hc)) e)
  have t2_2 : St2 (i + 1) g2 := D2.frame _ _ _ n2 fun c hc o e => hs2.extBut c o (fun q => S.T2 (q ▸ hc)) e
  have t3_2 : St3 i g2 := D3.frame _ _ _ t3_1 fun c hc o e => hs2.extBut c o (fun q => S.T3 (q ▸ hc)) (hd2.extBut c o (fun q => S.s2_3 (q ▸ hc)) e)
  have k2 : ∀ c o, c ≠ z → c ≠ TO → c ≠ i1 → c ≠ i2 → c ≠ i3 → hp.get? c = some o → g2.get? c = some o := fun c o qz qT q1 q2 q3 e => hs2.extBut c o qT (hd2.extBut c o q2 (k1 c o qz qT q1 q2 q3 e))
  have e2 : g2.objs.size = g1.objs.size := by rw [hs2.1, hd2.1]
  refine wpAny_bind (wpAny_letGo (wpAny_pure ?_))
  refine wpAny_bind (wpAny_bind (wpAny_onRaise (m := zdraw b (.ref i3)) (zdraw_item (s := ⟨g2, g, d, tk2, os⟩) D3 hi3 t3_2 fun x3 d3 tk3 p3 n3 hd3 => ?_)))
  replace hd3 : Heap.SameBut i3 g2 d3 := hd3
  have hU3 : TupO d3 TO #[x1, x2, a3] := hd3.extBut _ _ (fun q => S.T3 (q ▸ S.m3)) hT2
  refine wpAny_bind (wpAny_seqItems (s := ⟨d3, g, d, tk3, os⟩) hU3 rfl ?_)
  refine wpAny_bind (upd_tup (s := ⟨d3, g, d, tk3, os⟩) hU3 (by simp) fun g3 hT3 hs3 => ?_)
  replace hs3 : Heap.SameBut TO d3 g3 := hs3
  replace hT3 : TupO g3 TO #[x1, x2, x3] := hT3
  have hz3 : ZipO g3 z TI TO .ellipsis b := hs3.extBut _ _ S.zTO (hd3.extBut _ _ (fun q => S.z3 (q ▸ S.m3)) hz2)
  have t1_3 : St1 (i + 1) g3 := D1.frame _ _ _ t1_2 fun c hc o e => hs3.extBut c o (fun q => S.T1 (q ▸ hc)) (hd3.extBut c o (fun q => S.s3_1 (q ▸ hc)) e)
  have t2_3 : St2 (i + 1) g3 := D2.frame _ _ _ t2_2 fun c hc o e => hs3.extBut c o (fun q => S.T2 (q ▸ hc)) (hd3.extBut c o (fun q => S.s3_2 (q ▸ hc)) e)
  have t3_3 : St3 (i + 1) g3 := D3.frame _ _ _ n3 fun c hc o e => hs3.extBut c o (fun q => S.T3 (q ▸ hc)) e
  have k3 : ∀ c o, c ≠ z → c ≠ TO → c ≠ i1 → c ≠ i2 → c ≠ i3 → hp.get? c = some o → g3.get? c = some o := fun c o qz qT q1 q2 q3 e => hs3.extBut c o qT (hd3.extBut c o q3 (k2 c o qz qT q1 q2 q3 e))
  have e3 : g3.objs.size = g2.objs.size := by rw [hs3.1, hd3.1]
  refine wpAny_bind (wpAny_letGo (wpAny_pure ?_))
  refine wpAny_pure ?_
  refine wpAny_bind (wpAny_seqItems (s := ⟨g3, g, d, tk3, os⟩) hT3 rfl ?_)
  refine wpAny_bind (wpAny_newTuple ?_)
  have hsz : g3.objs.size = hp.objs.size := by rw [e3, e2, e1, hs0.1]
  have hlt : z < g3.objs.size := Heap.lt_size hz3
  refine wpAny_bind ?_
  unfold Builtin.SmallTypes.ownedTupleHandOut
  have hy : ZipO (g3.push { cls := .type "tuple", data := .seq #[x1, x2, x3] }) z TI TO .ellipsis b := Heap.get?_push_of_some _ hz3
  refine wpAny_bind (wpAny_setField_rec hy (by simp) fun u1 hu1 hv1 => wpAny_setField_rec hu1 (by simp) fun u2 hu2 hv2 => ?_)
  have up : ∀ c o, c ≠ z → g3.get? c = some o → u2.get? c = some o := fun c o q e => hv2.extBut c o q (hv1.extBut c o q (Heap.get?_push_of_some _ e))
  have hN : TupO u2 g3.objs.size #[x1, x2, x3] := hv2.extBut _ _ (Nat.ne_of_gt hlt) (hv1.extBut _ _ (Nat.ne_of_gt hlt) (Heap.get?_push_size _ rfl))
  have hZ : ZipO u2 z TI TO (rawInt g3.objs.size) b := hu2
  rw [hsz] at hN hZ
  refine wpAny_pure ⟨_, rfl, ?_⟩
  show Q (.ref g3.objs.size) ⟨u2, g, d, tk3, os⟩
  rw [hsz]
  exact hQ x1 x2 x3 u2 tk3 p1 p2 p3 hZ (up _ _ S.zTO.symm hT3) (D1.frame _ _ _ t1_3 fun c hc o e => up c o (fun q => S.z1 (q ▸ hc)) e) (D2.frame _ _ _ t2_3 fun c hc o e => up c o (fun q => S.z2 (q ▸ hc)) e) (D3.frame _ _ _ t3_3 fun c hc o e => up c o (fun q => S.z3 (q ▸ hc)) e) hN fun c o qz qT q1 q2 q3 e => up c o qz (k3 c o qz qT q1 q2 q3 e)
theorem next_end3 {z TI TO i1 i2 i3 : Addr} {fp1 fp2 fp3 : List Addr} {n : Nat} {P1 P2 P3 : Nat → Value → Prop} {St1 St2 St3 : Nat → Heap → Prop} {a1 a2 a3 : Value} {Q : Fin → Shared → Prop} (hh : A.handled = none) (S : Sep3 z TI TO i1 i2 i3 fp1 fp2 fp3) (D1 : Draws prog w A i1 fp1 n P1 St1) (D2 : Draws prog w A i2 fp2 n P2 St2) (D3 : Draws prog w A i3 fp3 n P3 St3)
    (hz : ZipO s.heap z TI TO .none b) (hTI : TupO s.heap TI #[.ref i1, .ref i2, .ref i3]) (hTO : TupO s.heap TO #[a1, a2, a3]) (st1 : St1 n s.heap) (st2 : St2 n s.heap) (st3 : St3 n s.heap)
    (hE : ∀ h' e, (∀ c o, c ≠ z → c ≠ TO → c ≠ i1 → c ≠ i2 → c ≠ i3 → s.heap.get? c = some o → h'.get? c = some o) → (∃ o, h'.get? e = some o ∧ o.cls = .type "StopIteration") → E (.ref e) { s with heap := h' }) :
    wpAny (model prog w) A (Builtin.«zip.__next__» ⟨[.ref z], []⟩) Q E s := by
  obtain ⟨hp, g, d, tk0, os⟩ := s
  refine wpAny_bind (m := field (.ref z) 2) (wpAny_field hz rfl (x := .bool b) rfl ?_)
  refine wpAny_bind (m := field (.ref z) 3) (wpAny_field hz rfl (x := .ref TI) rfl ?_)
  refine wpAny_bind (wpAny_seqItems hTI rfl ?_)
  show wpAny _ _ (Builtin.SmallTypes.ownedTupleIsFree (.ref z) >>= _) _ _ _
  rw [val_b]
  refine wpAny_bind ?_
  unfold Builtin.SmallTypes.ownedTupleIsFree
  refine wpAny_bind (wpAny_field hz rfl (x := .none) rfl (wpAny_pure ?_))
  simp only [if_true]
  refine wpAny_bind (wpAny_rule (wpAny_bind (wpAny_field hz rfl (x := .ref TO) rfl ?_)))
  refine wpAny_bind (wpAny_setField_rec hz (by simp) fun g0 hz0 hs0 => wpAny_bind ?_)
  replace hs0 : Heap.SameBut z hp g0 := hs0
  replace hz0 : ZipO g0 z TI TO .ellipsis b := hz0
  have t1_0 : St1 n g0 := D1.frame _ _ _ st1 fun c hc o e => hs0.extBut c o (fun q => S.z1 (q ▸ hc)) e
  have t2_0 : St2 n g0 := D2.frame _ _ _ st2 fun c hc o e => hs0.extBut c o (fun q => S.z2 (q ▸ hc)) e
  have t3_0 : St3 n g0 := D3.frame _ _ _ st3 fun c hc o e => hs0.extBut c o (fun q => S.z3 (q ▸ hc)) e
  simp only [List.zipIdx_cons, List.zipIdx_nil, List.forIn_cons, List.forIn_nil]
  refine wpAny_bind (wpAny_bind (wpAny_onRaise ?_))
  cases b with
  | false =>
    refine wpAny_bind (m := Builtin.SmallTypes.nextOf (.ref i1)) (D1.done ⟨g0, g, d, tk0, os⟩ _ _ t1_0 fun y e hy he => ?_)
    replace hy : Heap.ExtBut i1 g0 y := hy
    obtain ⟨oe, hoe, hce⟩ := he
    replace hoe : y.get? e = some oe := hoe
    have hzy : ZipO y z TI TO .ellipsis false := hy _ _ (fun q => S.z1 (q ▸ S.m1)) hz0
    have hez : e ≠ z := fun x => by subst x; rw [hzy] at hoe; cases hoe; simp at hce
    refine wpAny_setField_rec (s := ⟨y, g, d, tk0, os⟩) hzy (by simp) fun y2 _ hv => ?_
    replace hv : Heap.SameBut z y y2 := hv
    exact hE y2 e (fun c o qz qT q1 q2 q3 x => hv.extBut c o qz (hy c o q1 (hs0.extBut c o qz x))) ⟨oe, hv.extBut _ _ hez hoe, hce⟩
  | true =>
    refine zend_strict (s := ⟨g0, g, d, tk0, os⟩) D1 t1_0 fun y hy => ?_
    replace hy : Heap.ExtBut i1 g0 y := hy
    have hzy : ZipO y z TI TO .ellipsis true := hy _ _ (fun q => S.z1 (q ▸ S.m1)) hz0
    have t2_1 : St2 n y := D2.frame _ _ _ t2_0 fun c hc o e => hy c o (fun q => S.s1_2 (q ▸ hc)) e
    have t3_1 : St3 n y := D3.frame _ _ _ t3_0 fun c hc o e => hy c o (fun q => S.s1_3 (q ▸ hc)) e
    refine wpAny_bind (wpAny_setField_rec (s := ⟨y, g, d, tk0, os⟩) hzy (by simp) fun y1 _ hv1 => ?_)
    replace hv1 : Heap.SameBut z y y1 := hv1
    have r2_1 : St2 n y1 := D2.frame _ _ _ t2_1 fun c hc o e => hv1.extBut c o (fun q => S.z2 (q ▸ hc)) e
    have r3_1 : St3 n y1 := D3.frame _ _ _ t3_1 fun c hc o e => hv1.extBut c o (fun q => S.z3 (q ▸ hc)) e
    have k1 : ∀ c o, c ≠ z → c ≠ TO → c ≠ i1 → c ≠ i2 → c ≠ i3 → hp.get? c = some o → y1.get? c = some o := fun c o qz qT q1 q2 q3 e => hv1.extBut c o qz (hy c o q1 (hs0.extBut c o qz e))
    refine wpAny_bind ?_
    refine wpAny_bind ?_
    simp only [List.drop_succ_cons, List.drop_zero, List.zipIdx_cons, List.zipIdx_nil, List.forIn_cons, List.forIn_nil]
    refine wpAny_bind (wpAny_bind (zend_strict (s := ⟨y1, g, d, tk0, os⟩) D2 r2_1 fun y2 hy2 => ?_))
    replace hy2 : Heap.ExtBut i2 y1 y2 := hy2
    have k2 : ∀ c o, c ≠ z → c ≠ TO → c ≠ i1 → c ≠ i2 → c ≠ i3 → hp.get? c = some o → y2.get? c = some o := fun c o qz qT q1 q2 q3 e => hy2 c o q2 (k1 c o qz qT q1 q2 q3 e)
    have r3_2 : St3 n y2 := D3.frame _ _ _ r3_1 fun c hc o e => hy2 c o (fun q => S.s2_3 (q ▸ hc)) e
    refine wpAny_pure ?_
    refine wpAny_bind (wpAny_bind (zend_strict (s := ⟨y2, g, d, tk0, os⟩) D3 r3_2 fun y3 hy3 => ?_))
    replace hy3 : Heap.ExtBut i3 y2 y3 := hy3
    have k3 : ∀ c o, c ≠ z → c ≠ TO → c ≠ i1 → c ≠ i2 → c ≠ i3 → hp.get? c = some o → y3.get? c = some o := fun c o qz qT q1 q2 q3 e => hy3 c o q3 (k2 c o qz qT q1 q2 q3 e)
    refine wpAny_pure ?_
    refine wpAny_pure ?_
    exact wpAny_bind (wpAny_rule (stop_it (s := ⟨y3, g, d, tk0, os⟩) hh fun h2 e kk he => hE h2 e (fun c o qz qT q1 q2 q3 x => kk c o (k3 c o qz qT q1 q2 q3 x)) he))
theorem py_item3 {z TI TO i1 i2 i3 : Addr} {fp1 fp2 fp3 : List Addr} {n1 n2 n3 i : Nat} {P1 P2 P3 : Nat → Value → Prop} {St1 St2 St3 : Nat → Heap → Prop} {a1 a2 a3 : Value} {Q : Option Value → Shared → Prop} (S : Sep3 z TI TO i1 i2 i3 fp1 fp2 fp3) (D1 : Draws prog w A.in1 i1 fp1 n1 P1 St1) (D2 : Draws prog w A.in1 i2 fp2 n2 P2 St2) (D3 : Draws prog w A.in1 i3 fp3 n3 P3 St3)
    (hz : ZipO s.heap z TI TO .none b) (hTI : TupO s.heap TI #[.ref i1, .ref i2, .ref i3]) (hTO : TupO s.heap TO #[a1, a2, a3]) (st1 : St1 i s.heap) (st2 : St2 i s.heap) (st3 : St3 i s.heap) (hi1 : i < n1) (hi2 : i < n2) (hi3 : i < n3)
    (hQ : ∀ x1 x2 x3 h' tk, P1 i x1 → P2 i x2 → P3 i x3 → ZipO h' z TI TO (rawInt s.heap.objs.size) b → TupO h' TO #[x1, x2, x3] → St1 (i + 1) h' → St2 (i + 1) h' → St3 (i + 1) h' → TupO h' s.heap.objs.size #[x1, x2, x3] →
      (∀ c o, c ≠ z → c ≠ TO → c ≠ i1 → c ≠ i2 → c ≠ i3 → s.heap.get? c = some o → h'.get? c = some o) → Q (some (.ref s.heap.objs.size)) { s with heap := h', toks := tk }) : wpAny (model prog w) A (pyNext (.ref z)) Q E s := by
  have hT : s.TypeIs (.ref z) "zip" := ⟨_, hz, rfl⟩
  unfold pyNext
  refine wpAny_bind (wpAny_attempt (wpAny_callSpecial?_slot (name := Str.ofString "__next__") hT F.slot_zip_next (wpAny_call_entry F.slot_zip_next hT F.entry_zip_next ?_ (F.args_zip_next_1 _))))
  exact next_item3 S D1 D2 D3 hz hTI hTO st1 st2 st3 hi1 hi2 hi3 fun x1 x2 x3 h2 tk p1 p2 p3 q1 q2 u1 u2 u3 q3 q4 => wpAny_pure (hQ x1 x2 x3 h2 tk p1 p2 p3 q1 q2 u1 u2 u3 q3 q4)
theorem py_end3 {z TI TO i1 i2 i3 : Addr} {fp1 fp2 fp3 : List Addr} {n : Nat} {P1 P2 P3 : Nat → Value → Prop} {St1 St2 St3 : Nat → Heap → Prop} {a1 a2 a3 : Value} {Q : Option Value → Shared → Prop} (hh : A.handled = none) (S : Sep3 z TI TO i1 i2 i3 fp1 fp2 fp3) (D1 : Draws prog w A.in1 i1 fp1 n P1 St1) (D2 : Draws prog w A.in1 i2 fp2 n P2 St2) (D3 : Draws prog w A.in1 i3 fp3 n P3 St3)
    (hz : ZipO s.heap z TI TO .none b) (hTI : TupO s.heap TI #[.ref i1, .ref i2, .ref i3]) (hTO : TupO s.heap TO #[a1, a2, a3]) (st1 : St1 n s.heap) (st2 : St2 n s.heap) (st3 : St3 n s.heap)
    (hQ : ∀ h', (∀ c o, c ≠ z → c ≠ TO → c ≠ i1 → c ≠ i2 → c ≠ i3 → s.heap.get? c = some o → h'.get? c = some o) → Q none { s with heap := h' }) : wpAny (model prog w) A (pyNext (.ref z)) Q E s := by
  have hT : s.TypeIs (.ref z) "zip" := ⟨_, hz, rfl⟩
  unfold pyNext
  refine wpAny_bind (wpAny_attempt (wpAny_callSpecial?_slot (name := Str.ofString "__next__") hT F.slot_zip_next (wpAny_call_entry F.slot_zip_next hT F.entry_zip_next ?_ (F.args_zip_next_1 _))))
  refine next_end3 (A := A.in1) hh S D1 D2 D3 hz hTI hTO st1 st2 st3 fun h2 e kk he => ?_
  obtain ⟨o, ho, hc⟩ := he
  exact wpAny_bind (wpAny_isInstance (T := "StopIteration") (b := true) ⟨o, ho, hc⟩ isSubtype_stop (wpAny_pure (hQ _ kk)))
theorem typeCall_strict3 (v1 v2 v3 x : Value) : checkTypeCall "zip" ⟨[v1, v2, v3], [(Str.ofString "strict", x)]⟩ = pure () := by kernel_rfl
theorem newCall_strict3 (v1 v2 v3 x : Value) : checkBuiltinCall "zip.__new__" ⟨[.type "zip", v1, v2, v3], [(Str.ofString "strict", x)]⟩ = pure () := by kernel_rfl
theorem initArgs_strict3 (obj v1 v2 v3 x : Value) : argsOk "object.__init__" ⟨[obj, v1, v2, v3], [(Str.ofString "strict", x)]⟩ := by unfold argsOk; kernel_rfl
abbrev sT3 (h : Heap) (o1 o2 o3 : Obj) : Heap := ((((h.push o1).push o2).push o3).push { cls := .type "tuple", data := .seq #[.ref h.objs.size, .ref (h.push o1).objs.size, .ref ((h.push o1).push o2).objs.size] })
abbrev sO3 (h : Heap) (o1 o2 o3 : Obj) : Heap := (sT3 h o1 o2 o3).push { cls := .type "tuple", data := .seq #[.none, .none, .none] }
abbrev sZ3 (h : Heap) (o1 o2 o3 : Obj) : Heap := (sO3 h o1 o2 o3).push { cls := .type "zip", data := .fields #[.none, .bool false, .bool true, .ref (((h.push o1).push o2).push o3).objs.size, .ref (sT3 h o1 o2 o3).objs.size] }
theorem meets_strict3 {v1 v2 v3 : Value} {o1 o2 o3 : Obj} {G1 G2 G3 : Heap → Prop} (B1 : Begins v1 o1 G1) (B2 : Begins v2 o2 G2) (B3 : Begins v3 o3 G3) :
    Meets (Builtin.«zip.__new__» ⟨[.type "zip", v1, v2, v3], [(Str.ofString "strict", .bool true)]⟩) (fun _ R s => (G1 s.heap ∧ G2 s.heap ∧ G3 s.heap) ∧ R (.ok (.ret (.ref (sO3 s.heap o1 o2 o3).objs.size))) { s with heap := (sZ3 s.heap o1 o2 o3) }) :=
  .of_wp fun prog w A R s h => by
    obtain ⟨hp, g, d, tk, os⟩ := s
    obtain ⟨⟨h1, h2, h3⟩, h⟩ := h
    have hsub := sub_zip
    have e1 : (Str.ofString "strict" != ("strict" : Str)) = false := by decide +kernel
    have w1 : ∀ {A' : Around} {E : Value → Shared → Prop} {Q : Value → Shared → Prop}, Q (.ref hp.objs.size) ⟨(hp.push o1), g, d, tk, os⟩ → wpAny (model prog w) A' (pyIter v1) Q E ⟨hp, g, d, tk, os⟩ := fun q => B1.iter prog w _ _ ⟨hp, g, d, tk, os⟩ _ (B1.keeps _ _ h1 fun c u e => e) q
    have w2 : ∀ {A' : Around} {E : Value → Shared → Prop} {Q : Value → Shared → Prop}, Q (.ref (hp.push o1).objs.size) ⟨((hp.push o1).push o2), g, d, tk, os⟩ → wpAny (model prog w) A' (pyIter v2) Q E ⟨(hp.push o1), g, d, tk, os⟩ := fun q => B2.iter prog w _ _ ⟨(hp.push o1), g, d, tk, os⟩ _ (B2.keeps _ _ h2 fun c u e => (Heap.get?_push_of_some _ e)) q
    have w3 : ∀ {A' : Around} {E : Value → Shared → Prop} {Q : Value → Shared → Prop}, Q (.ref ((hp.push o1).push o2).objs.size) ⟨(((hp.push o1).push o2).push o3), g, d, tk, os⟩ → wpAny (model prog w) A' (pyIter v3) Q E ⟨((hp.push o1).push o2), g, d, tk, os⟩ := fun q => B3.iter prog w _ _ ⟨((hp.push o1).push o2), g, d, tk, os⟩ _ (B3.keeps _ _ h3 fun c u e => (Heap.get?_push_of_some _ (Heap.get?_push_of_some _ e))) q
    wp_walk using w1, w2, w3
    exact ⟨_, rfl, h⟩
/-- zip(.., strict=True) of 3: its new cells -/
theorem begins_strict3 {v1 v2 v3 : Value} {o1 o2 o3 : Obj} {G1 G2 G3 : Heap → Prop} {Q : Value → Shared → Prop} (B1 : Begins v1 o1 G1) (B2 : Begins v2 o2 G2) (B3 : Begins v3 o3 G3) (h1 : G1 s.heap) (h2 : G2 s.heap) (h3 : G3 s.heap)
    (h : ∀ h', ZipO h' (s.heap.objs.size + 5) (s.heap.objs.size + 3) (s.heap.objs.size + 4) .none true → TupO h' (s.heap.objs.size + 3) #[.ref s.heap.objs.size, .ref (s.heap.objs.size + 1), .ref (s.heap.objs.size + 2)] → TupO h' (s.heap.objs.size + 4) #[.none, .none, .none] → h'.get? s.heap.objs.size = some o1 → h'.get? (s.heap.objs.size + 1) = some o2 → h'.get? (s.heap.objs.size + 2) = some o3 → (∀ c o, s.heap.get? c = some o → h'.get? c = some o) → Q (.ref (s.heap.objs.size + 5)) { s with heap := h' }) :
    wpAny (model prog w) A (call (.type "zip") [v1, v2, v3] [(Str.ofString "strict", .bool true)]) Q E s := by
  refine callType_newKw F.called_zip (by decide) (typeCall_strict3 _ _ _ _) (newCall_strict3 _ _ _ _) (fun obj => initArgs_strict3 obj _ _ _ _) F.entry_zip_new (meets_strict3 B1 B2 B3) ⟨⟨h1, h2, h3⟩, ?_⟩
  have z1 : (s.heap.push o1).objs.size = s.heap.objs.size + 1 := by rw [Heap.size_push]
  have z2 : ((s.heap.push o1).push o2).objs.size = s.heap.objs.size + 2 := by rw [Heap.size_push, z1]
  have z3 : (((s.heap.push o1).push o2).push o3).objs.size = s.heap.objs.size + 3 := by rw [Heap.size_push, z2]
  have z4 : (sT3 s.heap o1 o2 o3).objs.size = s.heap.objs.size + 4 := by rw [Heap.size_push, z3]
  have z5 : (sO3 s.heap o1 o2 o3).objs.size = s.heap.objs.size + 5 := by rw [Heap.size_push, z4]
  have z6 : (sZ3 s.heap o1 o2 o3).objs.size = s.heap.objs.size + 6 := by rw [Heap.size_push, z5]
  have q0 : (sZ3 s.heap o1 o2 o3).get? s.heap.objs.size = some o1 := (Heap.get?_push_of_some _ (Heap.get?_push_of_some _ (Heap.get?_push_of_some _ (Heap.get?_push_of_some _ (Heap.get?_push_of_some _ (Heap.get?_push_size _ B1.free))))))
  have q1 : (sZ3 s.heap o1 o2 o3).get? (s.heap.push o1).objs.size = some o2 := (Heap.get?_push_of_some _ (Heap.get?_push_of_some _ (Heap.get?_push_of_some _ (Heap.get?_push_of_some _ (Heap.get?_push_size _ B2.free)))))
  rw [z1] at q1
  have q2 : (sZ3 s.heap o1 o2 o3).get? ((s.heap.push o1).push o2).objs.size = some o3 := (Heap.get?_push_of_some _ (Heap.get?_push_of_some _ (Heap.get?_push_of_some _ (Heap.get?_push_size _ B3.free))))
  rw [z2] at q2
  have q3 : (sZ3 s.heap o1 o2 o3).get? (((s.heap.push o1).push o2).push o3).objs.size = some ({ cls := .type "tuple", data := .seq #[.ref s.heap.objs.size, .ref (s.heap.push o1).objs.size, .ref ((s.heap.push o1).push o2).objs.size] } : Obj) := (Heap.get?_push_of_some _ (Heap.get?_push_of_some _ (Heap.get?_push_size _ rfl)))
  rw [z3] at q3
  have q4 : (sZ3 s.heap o1 o2 o3).get? (sT3 s.heap o1 o2 o3).objs.size = some ({ cls := .type "tuple", data := .seq #[.none, .none, .none] } : Obj) := (Heap.get?_push_of_some _ (Heap.get?_push_size _ rfl))
  rw [z4] at q4
  have q5 : (sZ3 s.heap o1 o2 o3).get? (sO3 s.heap o1 o2 o3).objs.size = some ({ cls := .type "zip", data := .fields #[.none, .bool false, .bool true, .ref (((s.heap.push o1).push o2).push o3).objs.size, .ref (sT3 s.heap o1 o2 o3).objs.size] } : Obj) := (Heap.get?_push_size _ rfl)
  rw [z5] at q5
  rw [z2, z1] at q3
  rw [z4, z3] at q5
  show _ ∧ _
  rw [z5]
  exact ⟨⟨_, q5, rfl⟩, h _ q5 q3 q4 q0 q1 q2 fun c o e => (Heap.get?_push_of_some _ (Heap.get?_push_of_some _ (Heap.get?_push_of_some _ (Heap.get?_push_of_some _ (Heap.get?_push_of_some _ (Heap.get?_push_of_some _ e))))))⟩
end
end CZ

namespace CZ
open PySem PySem.Spec PyProof.Rows L2
/-- a list (false) or a tuple (true) that is read -/
def SqK (K : PySem.W.Frag) (H : Hp) (p : Bool × Addr) (xs : List V) : Prop := if p.1 = true then SqT K H p.2 xs else SqL K H p.2 xs
def SqIt (h : Heap) (it : Addr) (p : Bool × Addr) (i : Nat) : Prop := if p.1 = true then h.IsTupleIter it p.2 i else h.IsListIter it p.2 i
def SeqIs (h : Heap) (p : Bool × Addr) (its : List Value) : Prop := if p.1 = true then h.IsTuple p.2 its.toArray else h.IsList p.2 its.toArray
/-- the iterator's object as it begins -/
def itO (p : Bool × Addr) : Obj := if p.1 = true then { cls := .type "tuple_iterator", data := .fields #[.ref p.2, .int 0 0] } else { cls := .type "list_iterator", data := .fields #[.ref p.2, .int 0 0] }
theorem SqIt.at {h h' : Heap} {it : Addr} {p : Bool × Addr} {i : Nat} (x : SqIt h it p i) (k : ∀ o, h.get? it = some o → h'.get? it = some o) : SqIt h' it p i := by
  obtain ⟨b, a⟩ := p
  cases b
  · exact Heap.IsListIter.at (show h.IsListIter it a i from x) k
  · exact Heap.IsTupleIter.at (show h.IsTupleIter it a i from x) k
theorem SqIt.obj {h : Heap} {it : Addr} {p : Bool × Addr} {i : Nat} (x : SqIt h it p i) : ∃ o, h.get? it = some o ∧ ∀ v, o.data ≠ .cell v := by
  obtain ⟨b, a⟩ := p
  cases b
  · obtain ⟨o, e, _, d⟩ := (show h.IsListIter it a i from x)
    exact ⟨o, e, fun v q => by rw [d] at q; cases q⟩
  · obtain ⟨o, e, _, d⟩ := (show h.IsTupleIter it a i from x)
    exact ⟨o, e, fun v q => by rw [d] at q; cases q⟩
theorem SqIt.begin {h : Heap} {it : Addr} {p : Bool × Addr} (e : h.get? it = some (itO p)) : SqIt h it p 0 := by
  obtain ⟨b, a⟩ := p
  cases b
  · exact ⟨_, e, rfl, rfl⟩
  · exact ⟨_, e, rfl, rfl⟩
theorem begins_of (p : Bool × Addr) (its : List Value) : Begins (.ref p.2) (itO p) (fun h => SeqIs h p its) := by
  obtain ⟨b, a⟩ := p
  cases b
  · exact begins_list a its.toArray
  · exact begins_tuple a its.toArray
theorem draws_of {prog : Program} {w : World} {A : Around} (hh : A.handled = none) (it : Addr) (p : Bool × Addr) (ne : p.2 ≠ it) (its : List Value) :
    Draws prog w A it [it, p.2] its.toArray.size (fun i v => its.toArray[i]? = some v) (fun i h => SqIt h it p i ∧ SeqIs h p its) := by
  obtain ⟨b, a⟩ := p
  cases b
  · exact Draws.list hh it a ne its.toArray
  · exact Draws.tuple hh it a ne its.toArray
section
variable {X : Cx} {pins : List (Addr × Obj)} {σ : L2.St} {H : Hp} {s : Shared} {p : Bool × Addr} {xs ys : List V}
theorem sq_seq (I : Inv X pins σ H s) (h : SqK X.K H p xs) : ∃ its : List Value, Vals xs its ∧ SeqIs s.heap p its ∧ p.2 < s.heap.objs.size := by
  obtain ⟨b, a⟩ := p
  cases b
  · obtain ⟨its, rv, q, _⟩ := I.list (show SqL X.K H a xs from h)
    exact ⟨its, rv, q.isList, q.lt⟩
  · obtain ⟨its, rv, q, _⟩ := I.tuple (show SqT X.K H a xs from h)
    obtain ⟨o, ho, _⟩ := id q
    exact ⟨its, rv, q, Heap.lt_size ho⟩
theorem sq_inj (I : Inv X pins σ H s) (h : SqK X.K H p xs) (h2 : SqK X.K H p ys) : xs = ys := by
  obtain ⟨b, a⟩ := p
  cases b
  · exact I.list_inj (show SqL X.K H a xs from h) h2
  · exact I.tuple_inj (show SqT X.K H a xs from h) h2
end
/-- what a zip of lists and tuples of one length gives -/
def ItZ (K : PySem.W.Frag) (l : List (Bool × Addr)) : It :=
  ⟨fun i H => ∃ vs : List V, Paired (fun p v => ∃ xs, SqK K H p xs ∧ xs[i]? = some v) l vs,
    fun i H v H2 => ∃ (T : Addr) (vs : List V), v = .ref T ∧ H T = none ∧ H2 = upd H T (.tup vs) ∧ Paired (fun p v => ∀ xs, SqK K H p xs → xs[i]? = some v) l vs,
    fun i H => ∀ p ∈ l, ∃ xs, SqK K H p xs ∧ xs.length = i⟩
def YRow (xss : List (List V)) : Nat → Hp → V → Hp → Prop := fun i H v H2 => ∃ (T : Addr) (vs : List V), v = .ref T ∧ H T = none ∧ H2 = upd H T (.tup vs) ∧ Paired (fun (xs : List V) v => xs[i]? = some v) xss vs
theorem pair_go {K : PySem.W.Frag} {H : Hp} {i : Nat} : ∀ {l : List (Bool × Addr)} {xss : List (List V)}, Paired (fun p xs => SqK K H p xs) l xss → (∀ xs ∈ xss, i < xs.length) → ∃ vs, Paired (fun p v => ∃ xs, SqK K H p xs ∧ xs[i]? = some v) l vs
  | _, _, .nil, _ => ⟨[], .nil⟩
  | _, _, .cons (b := xs) r t, h => by
    obtain ⟨vs, q⟩ := pair_go t fun ys hy => h ys (List.mem_cons_of_mem _ hy)
    have hi := h xs List.mem_cons_self
    exact ⟨xs[i] :: vs, .cons ⟨xs, r, List.getElem?_eq_getElem hi⟩ q⟩
theorem pair_row {K : PySem.W.Frag} {H : Hp} {i : Nat} : ∀ {l : List (Bool × Addr)} {xss : List (List V)} {vs : List V}, Paired (fun p xs => SqK K H p xs) l xss → Paired (fun p v => ∀ xs, SqK K H p xs → xs[i]? = some v) l vs → Paired (fun (xs : List V) v => xs[i]? = some v) xss vs
  | _, _, _, .nil, .nil => .nil
  | _, _, _, .cons r t, .cons q u => .cons (q _ r) (pair_row t u)
theorem pair_stop {K : PySem.W.Frag} {H : Hp} {n : Nat} : ∀ {l : List (Bool × Addr)} {xss : List (List V)}, Paired (fun p xs => SqK K H p xs) l xss → (∀ xs ∈ xss, xs.length = n) → ∀ p ∈ l, ∃ xs, SqK K H p xs ∧ xs.length = n
  | _, _, .nil, _, _, hp => nomatch hp
  | _, _, .cons r t, h, p, hp => by
    rcases List.mem_cons.mp hp with e | hp
    · rw [e]
      exact ⟨_, r, h _ List.mem_cons_self⟩
    · exact pair_stop t (fun ys hy => h ys (List.mem_cons_of_mem _ hy)) p hp
theorem walk_rows {K : PySem.W.Frag} {l : List (Bool × Addr)} {xss : List (List V)} {n : Nat} (hn : ∀ xs ∈ xss, xs.length = n) : Walk (ItZ K l) n (fun H => Paired (fun p xs => SqK K H p xs) l xss) (YRow xss) :=
  ⟨fun i H hi q => pair_go q fun xs hx => by rw [hn xs hx]; exact hi, fun H q => pair_stop q hn, fun i H x H2 _ q y => by
    obtain ⟨T, vs, h1, h2, h3, h4⟩ := y
    exact ⟨T, vs, h1, h2, h3, pair_row q h4⟩⟩
/-- the reading of zip(..): which are tuples is told by the flags -/
def iZ (K : PySem.W.Frag) (fl : List Bool) (ta : TA) : TI := fun σ H R => ta σ H fun vs H1 => ∃ l : List Addr, vs = l.map V.ref ∧ l.length = fl.length ∧ (∀ p ∈ fl.zip l, ∃ xs, SqK K H1 p xs) ∧ R (ItZ K (fl.zip l)) H1
theorem nin_new {M a : Nat} (j k : Nat) (h : a < M) (hjk : j ≠ k) : M + j ∉ [M + k, a] := by
  simp only [List.mem_cons, List.mem_nil_iff, or_false, not_or]
  omega
theorem looks_ty {M : Model} {h : Heap} (T : String) (_ : True) : ∃ k, (k = Keeper.frame ∨ k = Keeper.machine ∨ k = Keeper.boundFrame) ∧ PySem.W.Looks M h (keeperOf (.type T)) k := ⟨_, .inr (.inl rfl), PySem.W.Looks.of_pure rfl⟩
end CZ

namespace CZ
open PySem PySem.Spec PyProof.Rows L2
theorem turn_z2 {P : Program} {w : World} {K : PySem.W.Frag} {elts : List Expr} {kk : Nat} {tpos : Pos} {z TI TO i1 i2 : Addr} {p1 p2 : Bool × Addr} {b : Bool} (S : Sep2 z TI TO i1 i2 [i1, p1.2] [i2, p2.2]) (ne1 : p1.2 ≠ i1) (ne2 : p2.2 ≠ i2) :
    Turn P w K (.Tuple elts kk tpos) (ItZ K [p1, p2]) [z, TI, TO, i1, i2] z (fun i h => ZipO h z TI TO .none b ∧ TupO h TI #[.ref i1, .ref i2] ∧ (∃ a1 a2, TupO h TO #[a1, a2]) ∧ SqIt h i1 p1 i ∧ SqIt h i2 p2 i) where
  mem := by simp
  obj := fun i h st c hc => by
    obtain ⟨hz, hTI, ⟨a1, a2, hTO⟩, h1, h2⟩ := st
    have e : c = z ∨ c = TI ∨ c = TO ∨ c = i1 ∨ c = i2 := by simpa using hc
    rcases e with q | q | q | q | q
    · rw [q]; exact ⟨_, hz, fun v q => nomatch q⟩
    · rw [q]; exact ⟨_, hTI, fun v q => nomatch q⟩
    · rw [q]; exact ⟨_, hTO, fun v q => nomatch q⟩
    · rw [q]; exact h1.obj
    · rw [q]; exact h2.obj
  keep := fun i h h2 st k => by
    obtain ⟨hz, hTI, ⟨a1, a2, hTO⟩, h1, h2⟩ := st
    exact ⟨k z (by simp) _ hz, k TI (by simp) _ hTI, ⟨a1, a2, k TO (by simp) _ hTO⟩, h1.at fun o q => k i1 (by simp) o q, h2.at fun o q => k i2 (by simp) o q⟩
  item := by
    intro X hP hw hK hc i pins s σ H E I hf st hg
    subst hP hw hK
    obtain ⟨hz, hTI, ⟨a1, a2, hTO⟩, h1, h2⟩ := st
    obtain ⟨vs, hv⟩ := hg
    cases hv with
    | cons r1 hv1 =>
      rename_i v1 ws1
      obtain ⟨xs1, hq1, hx1⟩ := r1
      obtain ⟨its1, rv1, q1, _⟩ := sq_seq I hq1
      obtain ⟨u1, hu1, ru1⟩ := rv1.get hx1
      have g1 : its1.toArray[i]? = some u1 := by simpa using hu1
      have l1 : i < its1.toArray.size := by have := (List.getElem?_eq_some_iff.mp hu1).1; simpa using this
      cases hv1 with
      | cons r2 hv2 =>
        rename_i v2 ws2
        obtain ⟨xs2, hq2, hx2⟩ := r2
        obtain ⟨its2, rv2, q2, _⟩ := sq_seq I hq2
        obtain ⟨u2, hu2, ru2⟩ := rv2.get hx2
        have g2 : its2.toArray[i]? = some u2 := by simpa using hu2
        have l2 : i < its2.toArray.size := by have := (List.getElem?_eq_some_iff.mp hu2).1; simpa using this
        cases hv2
        have hzl : z < s.heap.objs.size := Heap.lt_size hz
        refine py_item2 S (draws_of (A := X.A.in1) (I.ok.hd hc) i1 p1 ne1 its1) (draws_of (A := X.A.in1) (I.ok.hd hc) i2 p2 ne2 its2) hz hTI hTO ⟨h1, q1⟩ ⟨h2, q2⟩ l1 l2 fun x1 x2 hA tk y1 y2 z2 TO2 n1 n2 hT hk => ?_
        obtain rfl : u1 = x1 := Option.some.inj (g1.symm.trans y1)
        obtain rfl : u2 = x2 := Option.some.inj (g2.symm.trans y2)
        refine ⟨_, rfl, go_zip (s := { s with heap := hA, toks := tk }) z2 fun hB z3 sb => ?_⟩
        replace sb : Heap.SameBut z hA hB := sb
        have hT2 : hB.get? s.heap.objs.size = some { cls := .type "tuple", data := .seq #[u1, u2] } := (sb.2 _ (Nat.ne_of_gt hzl)).trans hT
        have new : ObjOk X.prog X.w (upd H s.heap.objs.size (.tup [v1, v2])) hB s.heap.objs.size (.tup [v1, v2]) := ⟨by show 2 ≤ sizeLine; decide, [u1, u2], (.cons ru1 (.cons ru2 .nil)), ⟨_, hT2, rfl, _, rfl⟩⟩
        have I1 : Inv X pins σ (upd H s.heap.objs.size (.tup [v1, v2])) { s with heap := hB, toks := tk } := I.turnedNew (t' := tk) (ch := [z, TI, TO, i1, i2]) (fun c o hb q => (sb.2 c (fun q => hb (by simp [q]))).trans (hk c o (fun q => hb (by simp [q])) (fun q => hb (by simp [q])) (fun q => hb (by simp [q])) (fun q => hb (by simp [q])) q)) hf (Nat.le_refl _) new
        refine ⟨.ref s.heap.objs.size, _, I1, rfl, ⟨_, _, rfl, I.hok.fresh (Nat.le_refl _), rfl, (.cons (fun l hl => by rw [sq_inj I hl hq1]; exact hx1) (.cons (fun l hl => by rw [sq_inj I hl hq2]; exact hx2) .nil))⟩, ⟨z3, (sb.2 _ S.zTI.symm).trans (hk _ _ S.zTI.symm S.TOTI.symm S.I1 S.I2 hTI), ⟨u1, u2, (sb.2 _ S.zTO.symm).trans TO2⟩, (n1.1.at fun o q => (sb.2 _ (fun q => S.z1 (by rw [← q]; exact S.m1))).trans q), (n2.1.at fun o q => (sb.2 _ (fun q => S.z2 (by rw [← q]; exact S.m2))).trans q)⟩, fun c hcm => ?_⟩
        have hlt : c < s.heap.objs.size := by
          have e : c = z ∨ c = TI ∨ c = TO ∨ c = i1 ∨ c = i2 := by simpa using hcm
          rcases e with q | q | q | q | q
          · rw [q]; exact hzl
          · rw [q]; exact Heap.lt_size hTI
          · rw [q]; exact Heap.lt_size hTO
          · rw [q]; obtain ⟨_, e1, _⟩ := h1.obj; exact Heap.lt_size e1
          · rw [q]; obtain ⟨_, e1, _⟩ := h2.obj; exact Heap.lt_size e1
        rw [upd_ne (Nat.ne_of_lt hlt)]
        exact (hf c hcm).1
  done := by
    intro X hP hw hK hc i pins s σ H E I hf st hg
    subst hP hw hK
    obtain ⟨hz, hTI, ⟨a1, a2, hTO⟩, h1, h2⟩ := st
    obtain ⟨xs1, hq1, hx1⟩ := hg p1 (by simp)
    obtain ⟨its1, rv1, q1, _⟩ := sq_seq I hq1
    have l1 : its1.toArray.size = i := by have := rv1.length; simp; omega
    have D1 := draws_of (prog := X.prog) (w := X.w) (A := X.A.in1) (I.ok.hd hc) i1 p1 ne1 its1
    rw [l1] at D1
    obtain ⟨xs2, hq2, hx2⟩ := hg p2 (by simp)
    obtain ⟨its2, rv2, q2, _⟩ := sq_seq I hq2
    have l2 : its2.toArray.size = i := by have := rv2.length; simp; omega
    have D2 := draws_of (prog := X.prog) (w := X.w) (A := X.A.in1) (I.ok.hd hc) i2 p2 ne2 its2
    rw [l2] at D2
    exact py_end2 (I.ok.hd hc) S D1 D2 hz hTI hTO ⟨h1, q1⟩ ⟨h2, q2⟩ fun h2 hk => ⟨rfl, I.turnedL (t' := s.toks) (ch := [z, TI, TO, i1, i2]) (fun c o hb q => hk c o (fun q => hb (by simp [q])) (fun q => hb (by simp [q])) (fun q => hb (by simp [q])) (fun q => hb (by simp [q])) q) hf⟩
  self := fun A i s Q E st h => iter_zip st.1 h
theorem sep_new2 {M : Nat} {p1 p2 : Bool × Addr} (h1 : p1.2 < M) (h2 : p2.2 < M) : Sep2 (M + 4) (M + 2) (M + 3) M (M + 1) [M, p1.2] [M + 1, p2.2] where
  zTO := by show (M + 4 : Nat) ≠ M + 3; omega
  zTI := by show (M + 4 : Nat) ≠ M + 2; omega
  TOTI := by show (M + 3 : Nat) ≠ M + 2; omega
  m1 := by simp
  z1 := nin_new (a := p1.2) 4 0 h1 (by decide)
  T1 := nin_new (a := p1.2) 3 0 h1 (by decide)
  I1 := by show (M + 2 : Nat) ≠ M; omega
  s2_1 := nin_new (a := p1.2) 1 0 h1 (by decide)
  m2 := by simp
  z2 := nin_new (a := p2.2) 4 1 h2 (by decide)
  T2 := nin_new (a := p2.2) 3 1 h2 (by decide)
  I2 := by show (M + 2 : Nat) ≠ M + 1; omega
  s1_2 := nin_new (a := p2.2) 0 1 h2 (by decide)
theorem pi_z2s {X : Cx} {e1 e2 : Expr} {ta : TA} {p pos tpos : Pos} {elts : List Expr} {kk : Nat} {jj : Nat} {kp kp2 : Pos} {fl : List Bool} (hfl : fl.length = 2) (hg : Gl X "zip") (hm : X.mg "zip" = none) (ha : PA X [e1, e2] ta)
    (hs : starEach [e1, e2] X.env = (false, eval e1 X.env) :: starEach [e2] X.env := by rfl) (hpl : (backTo pos (starEach [e2] X.env)).any (·.1) = false := by rfl) :
    PI X (.Tuple elts kk tpos) (.Call (.Name "zip" p) [e1, e2] [⟨some "strict", .Constant (.bool true) jj kp, kp2⟩] pos) (iZ X.K fl ta) := by
  refine ⟨fun pins s σ H R I h => ?_⟩
  refine wpAny_Call_Name_kw (ld_blt I hg hm PyProof.Rows.boot_zip ?_)
  refine PySem.W.callWith_of (P := fun _ => True) ?_ (fun h _ => looks_ty "zip" True.intro) ?_
  · show ((backTo pos (starEach _ X.env)).any (·.1) || false) = false
    rw [hs, Bool.or_false]
    exact hpl
  have he : backTo pos (starEach [e1, e2] X.env) = (false, eval e1 X.env) :: backTo pos (starEach [e2] X.env) := by rw [hs]; rfl
  rw [he]
  refine PyProof.Rows.evalArgs_kwB rfl ?_
  rw [← he]
  refine thn (ha.run pos pins s σ H _ I h) fun us s0 ⟨vs, H1, I0, r1, q1⟩ => ?_
  refine PyProof.Rows.kws_cons (Constant_bool (PyProof.Rows.kws_nil ⟨True.intro, ?_⟩))
  have I1 := I0
  obtain ⟨l, ev, el, hl, q1⟩ := q1
  subst ev
  obtain ⟨b1, b2, rfl⟩ : ∃ b1 b2 : Bool, fl = [b1, b2] := match fl, hfl with | [_, _], _ => ⟨_, _, rfl⟩
  obtain ⟨c1, c2, rfl⟩ : ∃ c1 c2 : Addr, l = [c1, c2] := match l, el with | [_, _], _ => ⟨_, _, rfl⟩
  cases r1 with
  | cons r_1 rr1 =>
    cases r_1
    cases rr1 with
    | cons r_2 rr2 =>
      cases r_2
      cases rr2
      obtain ⟨xs1, hq1⟩ := hl (b1, c1) (by simp)
      obtain ⟨its1, rv1, g1, lt1⟩ := sq_seq I1 hq1
      obtain ⟨xs2, hq2⟩ := hl (b2, c2) (by simp)
      obtain ⟨its2, rv2, g2, lt2⟩ := sq_seq I1 hq2
      have frs : ∀ c, c ∈ [s0.heap.objs.size + 4, s0.heap.objs.size + 2, s0.heap.objs.size + 3, s0.heap.objs.size, s0.heap.objs.size + 1] → FpOk X pins H1 c := fun c hcm => by
        have e : c = s0.heap.objs.size + 4 ∨ c = s0.heap.objs.size + 2 ∨ c = s0.heap.objs.size + 3 ∨ c = s0.heap.objs.size ∨ c = s0.heap.objs.size + 1 := by simpa using hcm
        have hle : s0.heap.objs.size ≤ c := by
          rcases e with q | q | q | q | q
          · rw [q]; exact Nat.le_add_right _ _
          · rw [q]; exact Nat.le_add_right _ _
          · rw [q]; exact Nat.le_add_right _ _
          · rw [q]; exact Nat.le_refl _
          · rw [q]; exact Nat.le_add_right _ _
        exact I1.fpOk hle (I1.hok.fresh hle)
      refine begins_strict2 (begins_of (b1, c1) its1) (begins_of (b2, c2) its2) g1 g2 fun hA hz hTI hTO y1 y2 kk => iter_zip hz ?_
      have I2 : Inv X pins σ H1 { s0 with heap := hA } := I1.kept (t' := s0.toks) kk
      exact ⟨_, [s0.heap.objs.size + 4, s0.heap.objs.size + 2, s0.heap.objs.size + 3, s0.heap.objs.size, s0.heap.objs.size + 1], _, _, H1, rfl, I2, turn_z2 (sep_new2 lt1 lt2) (Nat.ne_of_lt lt1) (Nat.ne_of_lt (Nat.lt_of_lt_of_le lt2 (Nat.le_add_right _ 1))), ⟨hz, hTI, ⟨_, _, hTO⟩, SqIt.begin y1, SqIt.begin y2⟩, frs, q1⟩
theorem pi_z2 {X : Cx} {e1 e2 : Expr} {ta : TA} {p pos tpos : Pos} {elts : List Expr} {kk : Nat} {fl : List Bool} (hfl : fl.length = 2) (hg : Gl X "zip") (hm : X.mg "zip" = none) (ha : PA X [e1, e2] ta)
    (hs : starEach [e1, e2] X.env = (false, eval e1 X.env) :: starEach [e2] X.env := by rfl) (hpl : (backTo pos (starEach [e2] X.env)).any (·.1) = false := by rfl) :
    PI X (.Tuple elts kk tpos) (.Call (.Name "zip" p) [e1, e2] [] pos) (iZ X.K fl ta) := by
  refine ⟨fun pins s σ H R I h => ?_⟩
  refine Call_ (ld_blt I hg hm PyProof.Rows.boot_zip (PyProof.Rows.callWith_type1 (thn (ha.run pos pins s σ H _ I h) fun us s0 ⟨vs, H1, I1, r1, q1⟩ => ?_) hs hpl))
  obtain ⟨l, ev, el, hl, q1⟩ := q1
  subst ev
  obtain ⟨b1, b2, rfl⟩ : ∃ b1 b2 : Bool, fl = [b1, b2] := match fl, hfl with | [_, _], _ => ⟨_, _, rfl⟩
  obtain ⟨c1, c2, rfl⟩ : ∃ c1 c2 : Addr, l = [c1, c2] := match l, el with | [_, _], _ => ⟨_, _, rfl⟩
  cases r1 with
  | cons r_1 rr1 =>
    cases r_1
    cases rr1 with
    | cons r_2 rr2 =>
      cases r_2
      cases rr2
      obtain ⟨xs1, hq1⟩ := hl (b1, c1) (by simp)
      obtain ⟨its1, rv1, g1, lt1⟩ := sq_seq I1 hq1
      obtain ⟨xs2, hq2⟩ := hl (b2, c2) (by simp)
      obtain ⟨its2, rv2, g2, lt2⟩ := sq_seq I1 hq2
      have frs : ∀ c, c ∈ [s0.heap.objs.size + 4, s0.heap.objs.size + 2, s0.heap.objs.size + 3, s0.heap.objs.size, s0.heap.objs.size + 1] → FpOk X pins H1 c := fun c hcm => by
        have e : c = s0.heap.objs.size + 4 ∨ c = s0.heap.objs.size + 2 ∨ c = s0.heap.objs.size + 3 ∨ c = s0.heap.objs.size ∨ c = s0.heap.objs.size + 1 := by simpa using hcm
        have hle : s0.heap.objs.size ≤ c := by
          rcases e with q | q | q | q | q
          · rw [q]; exact Nat.le_add_right _ _
          · rw [q]; exact Nat.le_add_right _ _
          · rw [q]; exact Nat.le_add_right _ _
          · rw [q]; exact Nat.le_refl _
          · rw [q]; exact Nat.le_add_right _ _
        exact I1.fpOk hle (I1.hok.fresh hle)
      refine zip_begins2 (begins_of (b1, c1) its1) (begins_of (b2, c2) its2) g1 g2 fun hA hz hTI hTO y1 y2 _ kk => iter_zip (b := false) hz ?_
      have I2 : Inv X pins σ H1 { s0 with heap := hA } := I1.kept (t' := s0.toks) kk
      exact ⟨_, [s0.heap.objs.size + 4, s0.heap.objs.size + 2, s0.heap.objs.size + 3, s0.heap.objs.size, s0.heap.objs.size + 1], _, _, H1, rfl, I2, turn_z2 (sep_new2 lt1 lt2) (Nat.ne_of_lt lt1) (Nat.ne_of_lt (Nat.lt_of_lt_of_le lt2 (Nat.le_add_right _ 1))), ⟨hz, hTI, ⟨_, _, hTO⟩, SqIt.begin y1, SqIt.begin y2⟩, frs, q1⟩
theorem turn_z3 {P : Program} {w : World} {K : PySem.W.Frag} {elts : List Expr} {kk : Nat} {tpos : Pos} {z TI TO i1 i2 i3 : Addr} {p1 p2 p3 : Bool × Addr} {b : Bool} (S : Sep3 z TI TO i1 i2 i3 [i1, p1.2] [i2, p2.2] [i3, p3.2]) (ne1 : p1.2 ≠ i1) (ne2 : p2.2 ≠ i2) (ne3 : p3.2 ≠ i3) :
    Turn P w K (.Tuple elts kk tpos) (ItZ K [p1, p2, p3]) [z, TI, TO, i1, i2, i3] z (fun i h => ZipO h z TI TO .none b ∧ TupO h TI #[.ref i1, .ref i2, .ref i3] ∧ (∃ a1 a2 a3, TupO h TO #[a1, a2, a3]) ∧ SqIt h i1 p1 i ∧ SqIt h i2 p2 i ∧ SqIt h i3 p3 i) where
  mem := by simp
  obj := fun i h st c hc => by
    obtain ⟨hz, hTI, ⟨a1, a2, a3, hTO⟩, h1, h2, h3⟩ := st
    have e : c = z ∨ c = TI ∨ c = TO ∨ c = i1 ∨ c = i2 ∨ c = i3 := by simpa using hc
    rcases e with q | q | q | q | q | q
    · rw [q]; exact ⟨_, hz, fun v q => nomatch q⟩
    · rw [q]; exact ⟨_, hTI, fun v q => nomatch q⟩
    · rw [q]; exact ⟨_, hTO, fun v q => nomatch q⟩
    · rw [q]; exact h1.obj
    · rw [q]; exact h2.obj
    · rw [q]; exact h3.obj
  keep := fun i h h2 st k => by
    obtain ⟨hz, hTI, ⟨a1, a2, a3, hTO⟩, h1, h2, h3⟩ := st
    exact ⟨k z (by simp) _ hz, k TI (by simp) _ hTI, ⟨a1, a2, a3, k TO (by simp) _ hTO⟩, h1.at fun o q => k i1 (by simp) o q, h2.at fun o q => k i2 (by simp) o q, h3.at fun o q => k i3 (by simp) o q⟩
  item := by
    intro X hP hw hK hc i pins s σ H E I hf st hg
    subst hP hw hK
    obtain ⟨hz, hTI, ⟨a1, a2, a3, hTO⟩, h1, h2, h3⟩ := st
    obtain ⟨vs, hv⟩ := hg
    cases hv with
    | cons r1 hv1 =>
      rename_i v1 ws1
      obtain ⟨xs1, hq1, hx1⟩ := r1
      obtain ⟨its1, rv1, q1, _⟩ := sq_seq I hq1
      obtain ⟨u1, hu1, ru1⟩ := rv1.get hx1
      have g1 : its1.toArray[i]? = some u1 := by simpa using hu1
      have l1 : i < its1.toArray.size := by have := (List.getElem?_eq_some_iff.mp hu1).1; simpa using this
      cases hv1 with
      | cons r2 hv2 =>
        rename_i v2 ws2
        obtain ⟨xs2, hq2, hx2⟩ := r2
        obtain ⟨its2, rv2, q2, _⟩ := sq_seq I hq2
        obtain ⟨u2, hu2, ru2⟩ := rv2.get hx2
        have g2 : its2.toArray[i]? = some u2 := by simpa using hu2
        have l2 : i < its2.toArray.size := by have := (List.getElem?_eq_some_iff.mp hu2).1; simpa using this
        cases hv2 with
        | cons r3 hv3 =>
          rename_i v3 ws3
          obtain ⟨xs3, hq3, hx3⟩ := r3
          obtain ⟨its3, rv3, q3, _⟩ := sq_seq I hq3
          obtain ⟨u3, hu3, ru3⟩ := rv3.get hx3
          have g3 : its3.toArray[i]? = some u3 := by simpa using hu3
          have l3 : i < its3.toArray.size := by have := (List.getElem?_eq_some_iff.mp hu3).1; simpa using this
          cases hv3
          have hzl : z < s.heap.objs.size := Heap.lt_size hz
          refine py_item3 S (draws_of (A := X.A.in1) (I.ok.hd hc) i1 p1 ne1 its1) (draws_of (A := X.A.in1) (I.ok.hd hc) i2 p2 ne2 its2) (draws_of (A := X.A.in1) (I.ok.hd hc) i3 p3 ne3 its3) hz hTI hTO ⟨h1, q1⟩ ⟨h2, q2⟩ ⟨h3, q3⟩ l1 l2 l3 fun x1 x2 x3 hA tk y1 y2 y3 z2 TO2 n1 n2 n3 hT hk => ?_
          obtain rfl : u1 = x1 := Option.some.inj (g1.symm.trans y1)
          obtain rfl : u2 = x2 := Option.some.inj (g2.symm.trans y2)
          obtain rfl : u3 = x3 := Option.some.inj (g3.symm.trans y3)
          refine ⟨_, rfl, go_zip (s := { s with heap := hA, toks := tk }) z2 fun hB z3 sb => ?_⟩
          replace sb : Heap.SameBut z hA hB := sb
          have hT2 : hB.get? s.heap.objs.size = some { cls := .type "tuple", data := .seq #[u1, u2, u3] } := (sb.2 _ (Nat.ne_of_gt hzl)).trans hT
          have new : ObjOk X.prog X.w (upd H s.heap.objs.size (.tup [v1, v2, v3])) hB s.heap.objs.size (.tup [v1, v2, v3]) := ⟨by show 3 ≤ sizeLine; decide, [u1, u2, u3], (.cons ru1 (.cons ru2 (.cons ru3 .nil))), ⟨_, hT2, rfl, _, rfl⟩⟩
          have I1 : Inv X pins σ (upd H s.heap.objs.size (.tup [v1, v2, v3])) { s with heap := hB, toks := tk } := I.turnedNew (t' := tk) (ch := [z, TI, TO, i1, i2, i3]) (fun c o hb q => (sb.2 c (fun q => hb (by simp [q]))).trans (hk c o (fun q => hb (by simp [q])) (fun q => hb (by simp [q])) (fun q => hb (by simp [q])) (fun q => hb (by simp [q])) (fun q => hb (by simp [q])) q)) hf (Nat.le_refl _) new
          refine ⟨.ref s.heap.objs.size, _, I1, rfl, ⟨_, _, rfl, I.hok.fresh (Nat.le_refl _), rfl, (.cons (fun l hl => by rw [sq_inj I hl hq1]; exact hx1) (.cons (fun l hl => by rw [sq_inj I hl hq2]; exact hx2) (.cons (fun l hl => by rw [sq_inj I hl hq3]; exact hx3) .nil)))⟩, ⟨z3, (sb.2 _ S.zTI.symm).trans (hk _ _ S.zTI.symm S.TOTI.symm S.I1 S.I2 S.I3 hTI), ⟨u1, u2, u3, (sb.2 _ S.zTO.symm).trans TO2⟩, (n1.1.at fun o q => (sb.2 _ (fun q => S.z1 (by rw [← q]; exact S.m1))).trans q), (n2.1.at fun o q => (sb.2 _ (fun q => S.z2 (by rw [← q]; exact S.m2))).trans q), (n3.1.at fun o q => (sb.2 _ (fun q => S.z3 (by rw [← q]; exact S.m3))).trans q)⟩, fun c hcm => ?_⟩
          have hlt : c < s.heap.objs.size := by
            have e : c = z ∨ c = TI ∨ c = TO ∨ c = i1 ∨ c = i2 ∨ c = i3 := by simpa using hcm
            rcases e with q | q | q | q | q | q
            · rw [q]; exact hzl
            · rw [q]; exact Heap.lt_size hTI
            · rw [q]; exact Heap.lt_size hTO
            · rw [q]; obtain ⟨_, e1, _⟩ := h1.obj; exact Heap.lt_size e1
            · rw [q]; obtain ⟨_, e1, _⟩ := h2.obj; exact Heap.lt_size e1
            · rw [q]; obtain ⟨_, e1, _⟩ := h3.obj; exact Heap.lt_size e1
          rw [upd_ne (Nat.ne_of_lt hlt)]
          exact (hf c hcm).1
  done := by
    intro X hP hw hK hc i pins s σ H E I hf st hg
    subst hP hw hK
    obtain ⟨hz, hTI, ⟨a1, a2, a3, hTO⟩, h1, h2, h3⟩ := st
    obtain ⟨xs1, hq1, hx1⟩ := hg p1 (by simp)
    obtain ⟨its1, rv1, q1, _⟩ := sq_seq I hq1
    have l1 : its1.toArray.size = i := by have := rv1.length; simp; omega
    have D1 := draws_of (prog := X.prog) (w := X.w) (A := X.A.in1) (I.ok.hd hc) i1 p1 ne1 its1
    rw [l1] at D1
    obtain ⟨xs2, hq2, hx2⟩ := hg p2 (by simp)
    obtain ⟨its2, rv2, q2, _⟩ := sq_seq I hq2
    have l2 : its2.toArray.size = i := by have := rv2.length; simp; omega
    have D2 := draws_of (prog := X.prog) (w := X.w) (A := X.A.in1) (I.ok.hd hc) i2 p2 ne2 its2
    rw [l2] at D2
    obtain ⟨xs3, hq3, hx3⟩ := hg p3 (by simp)
    obtain ⟨its3, rv3, q3, _⟩ := sq_seq I hq3
    have l3 : its3.toArray.size = i := by have := rv3.length; simp; omega
    have D3 := draws_of (prog := X.prog) (w := X.w) (A := X.A.in1) (I.ok.hd hc) i3 p3 ne3 its3
    rw [l3] at D3
    exact py_end3 (I.ok.hd hc) S D1 D2 D3 hz hTI hTO ⟨h1, q1⟩ ⟨h2, q2⟩ ⟨h3, q3⟩ fun h2 hk => ⟨rfl, I.turnedL (t' := s.toks) (ch := [z, TI, TO, i1, i2, i3]) (fun c o hb q => hk c o (fun q => hb (by simp [q])) (fun q => hb (by simp [q])) (fun q => hb (by simp [q])) (fun q => hb (by simp [q])) (fun q => hb (by simp [q])) q) hf⟩
  self := fun A i s Q E st h => iter_zip st.1 h
theorem sep_new3 {M : Nat} {p1 p2 p3 : Bool × Addr} (h1 : p1.2 < M) (h2 : p2.2 < M) (h3 : p3.2 < M) : Sep3 (M + 5) (M + 3) (M + 4) M (M + 1) (M + 2) [M, p1.2] [M + 1, p2.2] [M + 2, p3.2] where
  zTO := by show (M + 5 : Nat) ≠ M + 4; omega
  zTI := by show (M + 5 : Nat) ≠ M + 3; omega
  TOTI := by show (M + 4 : Nat) ≠ M + 3; omega
  m1 := by simp
  z1 := nin_new (a := p1.2) 5 0 h1 (by decide)
  T1 := nin_new (a := p1.2) 4 0 h1 (by decide)
  I1 := by show (M + 3 : Nat) ≠ M; omega
  s2_1 := nin_new (a := p1.2) 1 0 h1 (by decide)
  s3_1 := nin_new (a := p1.2) 2 0 h1 (by decide)
  m2 := by simp
  z2 := nin_new (a := p2.2) 5 1 h2 (by decide)
  T2 := nin_new (a := p2.2) 4 1 h2 (by decide)
  I2 := by show (M + 3 : Nat) ≠ M + 1; omega
  s1_2 := nin_new (a := p2.2) 0 1 h2 (by decide)
  s3_2 := nin_new (a := p2.2) 2 1 h2 (by decide)
  m3 := by simp
  z3 := nin_new (a := p3.2) 5 2 h3 (by decide)
  T3 := nin_new (a := p3.2) 4 2 h3 (by decide)
  I3 := by show (M + 3 : Nat) ≠ M + 2; omega
  s1_3 := nin_new (a := p3.2) 0 2 h3 (by decide)
  s2_3 := nin_new (a := p3.2) 1 2 h3 (by decide)
theorem pi_z3s {X : Cx} {e1 e2 e3 : Expr} {ta : TA} {p pos tpos : Pos} {elts : List Expr} {kk : Nat} {jj : Nat} {kp kp2 : Pos} {fl : List Bool} (hfl : fl.length = 3) (hg : Gl X "zip") (hm : X.mg "zip" = none) (ha : PA X [e1, e2, e3] ta)
    (hs : starEach [e1, e2, e3] X.env = (false, eval e1 X.env) :: starEach [e2, e3] X.env := by rfl) (hpl : (backTo pos (starEach [e2, e3] X.env)).any (·.1) = false := by rfl) :
    PI X (.Tuple elts kk tpos) (.Call (.Name "zip" p) [e1, e2, e3] [⟨some "strict", .Constant (.bool true) jj kp, kp2⟩] pos) (iZ X.K fl ta) := by
  refine ⟨fun pins s σ H R I h => ?_⟩
  refine wpAny_Call_Name_kw (ld_blt I hg hm PyProof.Rows.boot_zip ?_)
  refine PySem.W.callWith_of (P := fun _ => True) ?_ (fun h _ => looks_ty "zip" True.intro) ?_
  · show ((backTo pos (starEach _ X.env)).any (·.1) || false) = false
    rw [hs, Bool.or_false]
    exact hpl
  have he : backTo pos (starEach [e1, e2, e3] X.env) = (false, eval e1 X.env) :: backTo pos (starEach [e2, e3] X.env) := by rw [hs]; rfl
  rw [he]
  refine PyProof.Rows.evalArgs_kwB rfl ?_
  rw [← he]
  refine thn (ha.run pos pins s σ H _ I h) fun us s0 ⟨vs, H1, I0, r1, q1⟩ => ?_
  refine PyProof.Rows.kws_cons (Constant_bool (PyProof.Rows.kws_nil ⟨True.intro, ?_⟩))
  have I1 := I0
  obtain ⟨l, ev, el, hl, q1⟩ := q1
  subst ev
  obtain ⟨b1, b2, b3, rfl⟩ : ∃ b1 b2 b3 : Bool, fl = [b1, b2, b3] := match fl, hfl with | [_, _, _], _ => ⟨_, _, _, rfl⟩
  obtain ⟨c1, c2, c3, rfl⟩ : ∃ c1 c2 c3 : Addr, l = [c1, c2, c3] := match l, el with | [_, _, _], _ => ⟨_, _, _, rfl⟩
  cases r1 with
  | cons r_1 rr1 =>
    cases r_1
    cases rr1 with
    | cons r_2 rr2 =>
      cases r_2
      cases rr2 with
      | cons r_3 rr3 =>
        cases r_3
        cases rr3
        obtain ⟨xs1, hq1⟩ := hl (b1, c1) (by simp)
        obtain ⟨its1, rv1, g1, lt1⟩ := sq_seq I1 hq1
        obtain ⟨xs2, hq2⟩ := hl (b2, c2) (by simp)
        obtain ⟨its2, rv2, g2, lt2⟩ := sq_seq I1 hq2
        obtain ⟨xs3, hq3⟩ := hl (b3, c3) (by simp)
        obtain ⟨its3, rv3, g3, lt3⟩ := sq_seq I1 hq3
        have frs : ∀ c, c ∈ [s0.heap.objs.size + 5, s0.heap.objs.size + 3, s0.heap.objs.size + 4, s0.heap.objs.size, s0.heap.objs.size + 1, s0.heap.objs.size + 2] → FpOk X pins H1 c := fun c hcm => by
          have e : c = s0.heap.objs.size + 5 ∨ c = s0.heap.objs.size + 3 ∨ c = s0.heap.objs.size + 4 ∨ c = s0.heap.objs.size ∨ c = s0.heap.objs.size + 1 ∨ c = s0.heap.objs.size + 2 := by simpa using hcm
          have hle : s0.heap.objs.size ≤ c := by
            rcases e with q | q | q | q | q | q
            · rw [q]; exact Nat.le_add_right _ _
            · rw [q]; exact Nat.le_add_right _ _
            · rw [q]; exact Nat.le_add_right _ _
            · rw [q]; exact Nat.le_refl _
            · rw [q]; exact Nat.le_add_right _ _
            · rw [q]; exact Nat.le_add_right _ _
          exact I1.fpOk hle (I1.hok.fresh hle)
        refine begins_strict3 (begins_of (b1, c1) its1) (begins_of (b2, c2) its2) (begins_of (b3, c3) its3) g1 g2 g3 fun hA hz hTI hTO y1 y2 y3 kk => iter_zip hz ?_
        have I2 : Inv X pins σ H1 { s0 with heap := hA } := I1.kept (t' := s0.toks) kk
        exact ⟨_, [s0.heap.objs.size + 5, s0.heap.objs.size + 3, s0.heap.objs.size + 4, s0.heap.objs.size, s0.heap.objs.size + 1, s0.heap.objs.size + 2], _, _, H1, rfl, I2, turn_z3 (sep_new3 lt1 lt2 lt3) (Nat.ne_of_lt lt1) (Nat.ne_of_lt (Nat.lt_of_lt_of_le lt2 (Nat.le_add_right _ 1))) (Nat.ne_of_lt (Nat.lt_of_lt_of_le lt3 (Nat.le_add_right _ 2))), ⟨hz, hTI, ⟨_, _, _, hTO⟩, SqIt.begin y1, SqIt.begin y2, SqIt.begin y3⟩, frs, q1⟩
theorem pi_z3 {X : Cx} {e1 e2 e3 : Expr} {ta : TA} {p pos tpos : Pos} {elts : List Expr} {kk : Nat} {fl : List Bool} (hfl : fl.length = 3) (hg : Gl X "zip") (hm : X.mg "zip" = none) (ha : PA X [e1, e2, e3] ta)
    (hs : starEach [e1, e2, e3] X.env = (false, eval e1 X.env) :: starEach [e2, e3] X.env := by rfl) (hpl : (backTo pos (starEach [e2, e3] X.env)).any (·.1) = false := by rfl) :
    PI X (.Tuple elts kk tpos) (.Call (.Name "zip" p) [e1, e2, e3] [] pos) (iZ X.K fl ta) := by
  refine ⟨fun pins s σ H R I h => ?_⟩
  refine Call_ (ld_blt I hg hm PyProof.Rows.boot_zip (PyProof.Rows.callWith_type1 (thn (ha.run pos pins s σ H _ I h) fun us s0 ⟨vs, H1, I1, r1, q1⟩ => ?_) hs hpl))
  obtain ⟨l, ev, el, hl, q1⟩ := q1
  subst ev
  obtain ⟨b1, b2, b3, rfl⟩ : ∃ b1 b2 b3 : Bool, fl = [b1, b2, b3] := match fl, hfl with | [_, _, _], _ => ⟨_, _, _, rfl⟩
  obtain ⟨c1, c2, c3, rfl⟩ : ∃ c1 c2 c3 : Addr, l = [c1, c2, c3] := match l, el with | [_, _, _], _ => ⟨_, _, _, rfl⟩
  cases r1 with
  | cons r_1 rr1 =>
    cases r_1
    cases rr1 with
    | cons r_2 rr2 =>
      cases r_2
      cases rr2 with
      | cons r_3 rr3 =>
        cases r_3
        cases rr3
        obtain ⟨xs1, hq1⟩ := hl (b1, c1) (by simp)
        obtain ⟨its1, rv1, g1, lt1⟩ := sq_seq I1 hq1
        obtain ⟨xs2, hq2⟩ := hl (b2, c2) (by simp)
        obtain ⟨its2, rv2, g2, lt2⟩ := sq_seq I1 hq2
        obtain ⟨xs3, hq3⟩ := hl (b3, c3) (by simp)
        obtain ⟨its3, rv3, g3, lt3⟩ := sq_seq I1 hq3
        have frs : ∀ c, c ∈ [s0.heap.objs.size + 5, s0.heap.objs.size + 3, s0.heap.objs.size + 4, s0.heap.objs.size, s0.heap.objs.size + 1, s0.heap.objs.size + 2] → FpOk X pins H1 c := fun c hcm => by
          have e : c = s0.heap.objs.size + 5 ∨ c = s0.heap.objs.size + 3 ∨ c = s0.heap.objs.size + 4 ∨ c = s0.heap.objs.size ∨ c = s0.heap.objs.size + 1 ∨ c = s0.heap.objs.size + 2 := by simpa using hcm
          have hle : s0.heap.objs.size ≤ c := by
            rcases e with q | q | q | q | q | q
            · rw [q]; exact Nat.le_add_right _ _
            · rw [q]; exact Nat.le_add_right _ _
            · rw [q]; exact Nat.le_add_right _ _
            · rw [q]; exact Nat.le_refl _
            · rw [q]; exact Nat.le_add_right _ _
            · rw [q]; exact Nat.le_add_right _ _
          exact I1.fpOk hle (I1.hok.fresh hle)
        refine zip_begins3 (begins_of (b1, c1) its1) (begins_of (b2, c2) its2) (begins_of (b3, c3) its3) g1 g2 g3 fun hA hz hTI hTO y1 y2 y3 _ kk => iter_zip (b := false) hz ?_
        have I2 : Inv X pins σ H1 { s0 with heap := hA } := I1.kept (t' := s0.toks) kk
        exact ⟨_, [s0.heap.objs.size + 5, s0.heap.objs.size + 3, s0.heap.objs.size + 4, s0.heap.objs.size, s0.heap.objs.size + 1, s0.heap.objs.size + 2], _, _, H1, rfl, I2, turn_z3 (sep_new3 lt1 lt2 lt3) (Nat.ne_of_lt lt1) (Nat.ne_of_lt (Nat.lt_of_lt_of_le lt2 (Nat.le_add_right _ 1))) (Nat.ne_of_lt (Nat.lt_of_lt_of_le lt3 (Nat.le_add_right _ 2))), ⟨hz, hTI, ⟨_, _, _, hTO⟩, SqIt.begin y1, SqIt.begin y2, SqIt.begin y3⟩, frs, q1⟩
end CZ

namespace CS
open PySem PySem.Spec PyProof.Rows L2
/-! ### rules beside the layer's -/
section
variable {X : Cx}
/-- a product, whatever the reason that it fits -/
theorem op_mulI : OpR X (binaryOp .Mult) (rI IntMulOk fun i j => .int (i * j)) := opI fun _ _ _ _ _ _ _ hc q => mul_int q hc
/-- list + list, however each is known -/
def rCatR (K : PySem.W.Frag) : R2 := fun x y H Q => ∃ l b xs zs, x = .ref l ∧ y = .ref b ∧ SqL K H l xs ∧ SqL K H b zs ∧ xs.length + zs.length ≤ sizeLine ∧ ∀ p, H p = none → Q (.ref p) (upd H p (.lst (xs ++ zs)))
theorem op_catR : OpR X (binaryOp .Add) (rCatR X.K) := by
  intro pins s σ H x y v u Q I rx ry h
  obtain ⟨l, b, xs, zs, rfl, rfl, hH, hB, hz, q⟩ := h
  cases rx
  cases ry
  obtain ⟨its, r, p1, _⟩ := I.list hH
  obtain ⟨its2, r2, p2, _⟩ := I.list hB
  obtain ⟨⟨cls, dd, data, sl⟩, ho, hc, n, hd⟩ := id p1.isList
  obtain ⟨⟨cls2, dd2, data2, sl2⟩, ho2, hc2, n2, hd2⟩ := id p2.isList
  simp only at hc hd hc2 hd2
  subst hc hd hc2 hd2
  have l1 := r.length
  have l2 := r2.length
  have ea : its.toArray ++ its2.toArray = (its ++ its2).toArray := by simp
  refine concat_meets ⟨_, ho, rfl⟩ ⟨_, ho2, rfl⟩ noFill_list_add seq_list_add PySem.F.slot_list_add PySem.F.entry_list_add (PySem.F.args_list_add_2 _ _) (list_addW l b its.toArray its2.toArray n n2 dd dd2 sl sl2 (by rw [List.size_toArray, List.size_toArray]; omega)) ⟨ho, ho2, ?_⟩
  rw [ea]
  exact ⟨.ref _, _, I.lnew (t' := s.toks) (r.append r2) (by rw [List.length_append]; omega), rfl, q _ I.fresh⟩
theorem pi_or {tg it : Expr} {w1 w2 : TI} (h1 : PI X tg it w1) (h2 : PI X tg it w2) : PI X tg it (fun σ H R => w1 σ H R ∨ w2 σ H R) :=
  ⟨fun pins s σ H R I h => h.elim (fun z => h1.run pins s σ H R I z) fun z => h2.run pins s σ H R I z⟩
end
/-! ### calls by keywords alone -/
def pick {α : Type} (js : List Nat) (l : List α) : List α := js.filterMap fun j => l[j]?
theorem vals_pick {xs : List V} {us : List Value} (r : Vals xs us) : ∀ js : List Nat, Vals (pick js xs) (pick js us)
  | [] => .nil
  | j :: js => by
    have ih := vals_pick r js
    unfold pick at ih ⊢
    cases e : xs[j]? with
    | none =>
      have e2 := r.none_of e
      rw [List.filterMap_cons_none (by rw [e]), List.filterMap_cons_none (by rw [e2])]
      exact ih
    | some x =>
      obtain ⟨u, e2, ru⟩ := r.get e
      rw [List.filterMap_cons_some (by rw [e]), List.filterMap_cons_some (by rw [e2])]
      exact .cons ru ih
theorem kbn_of {K : PySem.W.Frag} {x qual : Str} {st : Stmt} {f : Addr} {fd : FuncData} {ps : List Str} (F : Fun K x qual st f fd) (n : Nat) (ks : List Str) (js : List Nat)
    (h : ∀ (kV doc pm : Value) (an : Option Addr) (cdv ct : Value) (us ws : List Value), us.length = n → ws.length = ks.length → bindArgs (PySem.W.fnOf x qual (defArgs st) (defBody st) (defScope st) .none kV doc pm an cdv ct) ⟨us, ks.zip ws⟩ = pure (ps.zip (pick js (us ++ ws)))) :
    KBn K fd ps n ks (fun us ws => pick js (us ++ ws)) (fun vs zs => pick js (vs ++ zs)) := by
  obtain ⟨oc, od, kV, doc, pm, an, cdv, ct, osl, rfl, lk, hcd⟩ := F.ex
  exact ⟨fun s us ws _ h1 h2 => .of_eq (h kV doc pm an cdv ct us ws h1 h2), fun r1 r2 => vals_pick (r1.append r2) js⟩
section
variable {X : Cx} {CX : CXT} {k n : Nat} {f C : Addr} {fd : FuncData} {ps ks : List Str} {sp : Sp} {E : XK} {x m : Str} {p pos apos : Pos} {o : Expr} {kws : List Keyword} {ta : TE} {tk : TA} {g : List Value → List Value → List Value} {gV : List V → List V → List V}
theorem run_kw {pins : List (Addr × Obj)} {σ : L2.St} {H : Hp} {s : Shared} {Q : VK} {us ws : List Value} {vs zs : List V} (F : FnOk X.prog X.w X.K X.mg X.base CX k f fd ps sp) (hr : Room k X.A) (hb : KBn X.K fd ps n ks g gV) (hx : Passes CX X E)
    (I : Inv X pins σ H s) (r : Vals vs us) (rz : Vals zs ws) (l1 : vs.length = n) (l2 : zs.length = ks.length) (h : sp (gV vs zs) H Q E) : wpAny (model X.prog X.w) X.A (call (.ref f) us (ks.zip ws)) (EP X pins σ Q) X.xe s := by
  refine wpAny_call (codeAny_mono (F.run X.A X.stack s H ⟨us, ks.zip ws⟩ (g us ws) (gV vs zs) Q E hr I.env0 (hb.to s us ws I.kIn (r.length.symm.trans l1) (rz.length.symm.trans l2)) (hb.rel r rz) h) fun res s2 hq => ?_)
  cases res with
  | error e => exact hx pins σ H s e s2 I hq
  | ok fl =>
    cases fl with
    | ret u => exact I.after hq
    | next => exact False.elim hq
    | brk => exact False.elim hq
    | cont => exact False.elim hq
/-- f(k = v, ..) -/
def tCallKw (m : Nat) (sp : Sp) (gV : List V → List V → List V) (E : XK) (tk : TA) : TE := fun σ H Q => tk σ H fun zs H1 => zs.length = m ∧ sp (gV [] zs) H1 Q E
theorem pe_callKw (F : FnOk X.prog X.w X.K X.mg X.base CX k f fd ps sp) (hr : Room k X.A) (hg : Gl X x) (hm : X.mg x = some (.ref f)) (hk : PySem.W.keepIn X.K (.ref f) = true) (hb : KBn X.K fd ps 0 ks g gV) (hx : Passes CX X E) (hkw : PK X kws tk)
    (hall : (backToKw pos (keywordEach kws X.env)).all (·.1.isSome) = true := by rfl) (hks : (backToKw pos (keywordEach kws X.env)).filterMap (·.1) = ks := by rfl) (hdb : (x == ("__debug__" : Str)) = false := by decide)
    (hpl : ((backTo pos (starEach [] X.env)).any (·.1) || (backToKw pos (keywordEach kws X.env)).any (·.1.isNone)) = false := by rfl) :
    PE X (.Call (.Name x p) [] kws pos) (tCallKw ks.length sp gV E tk) := by
  refine ⟨fun pins s σ H Q I h => ?_⟩
  refine wpAny_Call_Name_kw (ld_glob I hg hm ?_ hdb)
  refine PySem.W.callWith_KW0 (h₀ := X.base) I.ok.mod.kin hk hall (thn (hkw.run pos pins s σ H _ I h) fun ws s2 ⟨zs, H2, I2, rz, l2, q2⟩ => ⟨I2.kIn, ?_⟩) hpl
  rw [hks]
  exact run_kw (us := []) (vs := []) F hr hb hx I2 .nil rz rfl l2 q2
/-- o.m(k = v, ..) -/
def tMethKw (C : Addr) (m : Str) (n : Nat) (sp : Sp) (gV : List V → List V → List V) (E : XK) (ta : TE) (tk : TA) : TE := fun σ H Q => ta σ H fun x H1 => ∃ a dx fs, x = .ref a ∧ H1 a = some (.ins C dx fs) ∧ fs.lookup m = none ∧
  tk σ H1 fun zs H2 => zs.length = n ∧ sp (gV [x] zs) H2 Q E
theorem pe_methKw {pl : Sem Bool} (he : PE X o ta) (c : Cls X.K C) (hm : Meth X.K C m f) (F : FnOk X.prog X.w X.K X.mg X.base CX k f fd ps sp) (hr : Room k X.A) (hb : KBn X.K fd ps 1 ks g gV) (hx : Passes CX X E) (hkw : PK X kws tk)
    (hall : (backToKw pos (keywordEach kws X.env)).all (·.1.isSome) = true := by rfl) (hks : (backToKw pos (keywordEach kws X.env)).filterMap (·.1) = ks := by rfl)
    (hpl : ((backTo pos (starEach [] X.env)).any (·.1) || (backToKw pos (keywordEach kws X.env)).any (·.1.isNone)) = false := by rfl)
    (ht : eval (.Call (.Attribute o m apos) [] kws pos) X.env = (do
      let ov ← eval o X.env
      standAt apos.atName
      let (f, first) ← holding [ov] (getMethod ov m pl)
      callWith pos f first (backTo pos (starEach [] X.env)) (backToKw pos (keywordEach kws X.env))) := by rfl) :
    PE X (.Call (.Attribute o m apos) [] kws pos) (tMethKw C m ks.length sp gV E ta tk) := by
  refine ⟨fun pins s σ H Q I h => ?_⟩
  refine PySem.W.methodCall_KW (pl := pl) (thn (he.run pins s σ H _ I h) fun u s1 ⟨x, H1, I1, rx, a, dx, fs, ex, ea, l, q⟩ => ?_) ht
  subst ex
  obtain rfl : u = Value.ref a := rx
  refine getmeth_ok I1 ea c hm l ?_
  refine PySem.W.callWith_KW0 (first := [.ref a]) (h₀ := X.base) I.ok.mod.kin hm.kp hall (thn (hkw.run pos pins s1 σ H1 _ I1 q) fun ws s2 ⟨zs, H2, I2, rz, l2, q2⟩ => ⟨I2.kIn, ?_⟩) hpl
  rw [hks]
  exact run_kw (us := [.ref a]) (vs := [.ref a]) F hr hb hx I2 (.cons rfl .nil) rz rfl l2 q2
end
/-! ### heaps that grow -/
abbrev Ex (H H2 : Hp) : Prop := Evl.Ex H H2
theorem exr {H : Hp} : Ex H H := fun _ _ h => h
theorem exn {H : Hp} {p : Addr} {o : HO} (h : H p = none) : Ex H (upd H p o) := Evl.Ex.new h
theorem SqK.mono {K : PySem.W.Frag} {H H2 : Hp} {p : Bool × Addr} {xs : List V} (e : Ex H H2) (h : CZ.SqK K H p xs) : CZ.SqK K H2 p xs := by
  obtain ⟨b, a⟩ := p
  cases b
  · exact Evl.ex_l e h
  · exact Evl.ex_t e h
/-- a comprehension whose element and tests leave all that stood: out i is what stands behind i turns -/
theorem lc_out {J : It} {n : Nat} {G : Hp → Prop} {Y : Nat → Hp → V → Hp → Prop} (w : Walk J n G Y) {g : TG} {tt : TT} {te : TE} {vs : List Nat} {σ : L2.St} {H1 : Hp} {D : Addr} {Qd : Hp → Prop} (out : Nat → List V) (h0 : out 0 = []) (hD : H1 D = none)
    (hlen : ∀ i, i < n → (out i).length < sizeLine) (hG : ∀ H, Ex H1 H → G H)
    (hs : ∀ i x H H2 (Nx : Hp → Prop), i < n → Ex H1 H → H D = some (.lst (out i)) → Y i H x H2 →
      (∀ y H5, Ex H H5 → out (i + 1) = out i ++ [y] → ∃ acc, H5 D = some (.lst acc) ∧ acc.length < sizeLine ∧ Nx (upd H5 D (.lst (acc ++ [y])))) → (∀ H4, Ex H H4 → out (i + 1) = out i → Nx H4) →
      g x (wipe σ vs) H2 fun σ2 H3 => wipe σ2 vs = wipe σ vs ∧ tt σ2 H3 fun b H4 => if b = true then te σ2 H4 fun y H5 => ∃ acc, H5 D = some (.lst acc) ∧ acc.length < sizeLine ∧ Nx (upd H5 D (.lst (acc ++ [y]))) else Nx H4)
    (hd : ∀ H, Ex H1 H → H D = some (.lst (out n)) → Qd H) :
    ∃ W : Nat → Nat → Hp → Prop, (∃ m, W 0 m (upd H1 D (.lst []))) ∧ ∀ i m H, W i m H →
      (J.stop i H ∧ Qd H) ∨ (J.go i H ∧ ∃ Nx : Hp → Prop, (∀ H2, Nx H2 → ∃ m2, m2 < m ∧ W (i + 1) m2 H2) ∧ ∀ x H2, J.yld i H x H2 → g x (wipe σ vs) H2 fun σ2 H3 => wipe σ2 vs = wipe σ vs ∧ tt σ2 H3 fun b H4 =>
        if b = true then te σ2 H4 fun y H5 => ∃ acc, H5 D = some (.lst acc) ∧ acc.length < sizeLine ∧ Nx (upd H5 D (.lst (acc ++ [y]))) else Nx H4) := by
  refine lc_it w (fun i H => Ex H1 H ∧ H D = some (.lst (out i))) ⟨exn hD, by rw [upd_same, h0]⟩ (fun i H _ p => hG H p.1) (fun i x H H2 hi p y => ?_) (fun H p => hd H p.1 p.2)
  refine hs i x H H2 _ hi p.1 p.2 y (fun y2 H5 e eo => ⟨out i, e D _ p.2, hlen i hi, fun b o q => ?_, by rw [upd_same, eo]⟩) (fun H4 e eo => ⟨fun b o q => e b o (p.1 b o q), by rw [eo]; exact e D _ p.2⟩)
  rw [upd_ne (ne_of_none q hD)]
  exact e b o (p.1 b o q)
/-- .. whose list is known: vals -/
theorem lc_vals {J : It} {n : Nat} {G : Hp → Prop} {Y : Nat → Hp → V → Hp → Prop} (w : Walk J n G Y) {g : TG} {te : TE} {vs : List Nat} {σ : L2.St} {H1 : Hp} {D : Addr} {Qd : Hp → Prop} (vals : List V) (hn : vals.length = n) (hl : n ≤ 10000000) (hD : H1 D = none)
    (hG : ∀ H, Ex H1 H → G H)
    (hs : ∀ i x H H2 (R : VK), i < n → Ex H1 H → Y i H x H2 → (∀ y H5, Ex H H5 → vals[i]? = some y → R y H5) → g x (wipe σ vs) H2 fun σ2 H3 => wipe σ2 vs = wipe σ vs ∧ te σ2 H3 R)
    (hg : ∀ x σ2 H2 (R R2 : L2.St → Hp → Prop), (∀ σ3 H3, R σ3 H3 → R2 σ3 H3) → g x σ2 H2 R → g x σ2 H2 R2)
    (hd : ∀ H, Ex H1 H → H D = some (.lst vals) → Qd H) :
    ∃ W : Nat → Nat → Hp → Prop, (∃ m, W 0 m (upd H1 D (.lst []))) ∧ ∀ i m H, W i m H →
      (J.stop i H ∧ Qd H) ∨ (J.go i H ∧ ∃ Nx : Hp → Prop, (∀ H2, Nx H2 → ∃ m2, m2 < m ∧ W (i + 1) m2 H2) ∧ ∀ x H2, J.yld i H x H2 → g x (wipe σ vs) H2 fun σ2 H3 => wipe σ2 vs = wipe σ vs ∧ tYes σ2 H3 fun b H4 =>
        if b = true then te σ2 H4 fun y H5 => ∃ acc, H5 D = some (.lst acc) ∧ acc.length < sizeLine ∧ Nx (upd H5 D (.lst (acc ++ [y]))) else Nx H4) := by
  refine lc_out w (fun i => vals.take i) rfl hD (fun i hi => ?_) hG (fun i x H H2 Nx hi e hDi y kA _ => ?_) (fun H e h => hd H e ?_)
  · rw [List.length_take]
    exact Nat.lt_of_le_of_lt (Nat.le_trans (Nat.min_le_right _ _) (by rw [hn]; exact hl)) (by decide)
  · refine hg _ _ _ _ _ (fun σ3 H3 q => ⟨q.1, ?_⟩) (hs i x H H2 (fun y H5 => ∃ acc, H5 D = some (.lst acc) ∧ acc.length < sizeLine ∧ Nx (upd H5 D (.lst (acc ++ [y])))) hi e y fun y2 H5 e5 ev => kA y2 H5 e5 ?_)
    · exact q.2
    · rw [List.take_add_one, ev]
      rfl
  · rw [h, List.take_of_length_le (by rw [hn]; exact Nat.le_refl _)]
theorem gmono_name {i : Nat} : ∀ x σ2 H2 (R R2 : L2.St → Hp → Prop), (∀ σ3 H3, R σ3 H3 → R2 σ3 H3) → gName i x σ2 H2 R → gName i x σ2 H2 R2 := fun _ _ _ _ _ h q => h _ _ q
theorem gmono_nil : ∀ vs σ2 H2 (R R2 : L2.St → Hp → Prop), (∀ σ3 H3, R σ3 H3 → R2 σ3 H3) → gNil vs σ2 H2 R → gNil vs σ2 H2 R2 := fun _ _ _ _ _ h q => ⟨q.1, h _ _ q.2⟩
theorem gmono_cons {t : TG} {u : TGs} (ht : ∀ x σ2 H2 (R R2 : L2.St → Hp → Prop), (∀ σ3 H3, R σ3 H3 → R2 σ3 H3) → t x σ2 H2 R → t x σ2 H2 R2) (hu : ∀ x σ2 H2 (R R2 : L2.St → Hp → Prop), (∀ σ3 H3, R σ3 H3 → R2 σ3 H3) → u x σ2 H2 R → u x σ2 H2 R2) :
    ∀ vs σ2 H2 (R R2 : L2.St → Hp → Prop), (∀ σ3 H3, R σ3 H3 → R2 σ3 H3) → gCons t u vs σ2 H2 R → gCons t u vs σ2 H2 R2 := fun vs σ2 H2 R R2 h q => by
  obtain ⟨v, r, e, q⟩ := q
  exact ⟨v, r, e, ht _ _ _ _ _ (fun σ3 H3 z => hu _ _ _ _ _ h z) q⟩
theorem gmono_tup {K : PySem.W.Frag} {n : Nat} {t : TGs} (ht : ∀ x σ2 H2 (R R2 : L2.St → Hp → Prop), (∀ σ3 H3, R σ3 H3 → R2 σ3 H3) → t x σ2 H2 R → t x σ2 H2 R2) :
    ∀ v σ2 H2 (R R2 : L2.St → Hp → Prop), (∀ σ3 H3, R σ3 H3 → R2 σ3 H3) → gTup K n t v σ2 H2 R → gTup K n t v σ2 H2 R2 := fun v σ2 H2 R R2 h q => by
  obtain ⟨a, xs, e, h1, h2, q⟩ := q
  exact ⟨a, xs, e, h1, h2, ht _ _ _ _ _ h q⟩
/-! ### a list or a tuple walked -/
def ItS (K : PySem.W.Frag) (p : Bool × Addr) : It := if p.1 = true then Itt K p.2 else Itl K p.2
def iSeq (K : PySem.W.Frag) (tl : TE) : TI := fun σ H R => tl σ H fun x H1 => ∃ p : Bool × Addr, x = .ref p.2 ∧ (∃ xs, CZ.SqK K H1 p xs) ∧ R (ItS K p) H1
theorem pi_seq {X : Cx} {tg l : Expr} {tl : TE} (hl : PE X l tl) : PI X tg l (iSeq X.K tl) := by
  refine ⟨fun pins s σ H R I h => ?_⟩
  refine thn (hl.run pins s σ H _ I h) fun v s1 ⟨x, H1, I1, r1, q1⟩ => ?_
  obtain ⟨⟨b, a⟩, ex, ⟨xs, hq⟩, q⟩ := q1
  subst ex
  cases r1
  obtain ⟨its, rv, g, lt⟩ := CZ.sq_seq I1 hq
  have fp : ∀ c ∈ [s1.heap.objs.size], FpOk X pins H1 c := fun c hc => by
    have e : c = s1.heap.objs.size := by simpa using hc
    rw [e]
    exact I1.fpOk (Nat.le_refl _) (I1.hok.fresh (Nat.le_refl _))
  refine (CZ.begins_of (b, a) its).iter _ _ _ _ s1 _ g ?_
  have I2 : Inv X pins σ H1 { s1 with heap := s1.heap.push (CZ.itO (b, a)) } := I1.kept (t' := s1.toks) fun c o e => Heap.get?_push_of_some _ e
  cases b
  · exact ⟨_, [s1.heap.objs.size], _, _, H1, rfl, I2, turn_list a _, ⟨_, Heap.get?_push_size _ rfl, rfl, rfl⟩, fp, q⟩
  · exact ⟨_, [s1.heap.objs.size], _, _, H1, rfl, I2, turn_tuple a _, ⟨_, Heap.get?_push_size _ rfl, rfl, rfl⟩, fp, q⟩
theorem walk_seq {K : PySem.W.Frag} {p : Bool × Addr} {xs : List V} : Walk (ItS K p) xs.length (fun H => CZ.SqK K H p xs) (YAt xs) := by
  obtain ⟨b, a⟩ := p
  cases b
  · exact walk_list
  · exact walk_tup
theorem itt {c : Bool} {A B : Prop} (h : c = true) (a : A) : if c = true then A else B := by rw [if_pos h]; exact a
theorem itf {c : Bool} {A B : Prop} (h : c = false) (b : B) : if c = true then A else B := by rw [h, if_neg Bool.false_ne_true]; exact b
theorem map_get {α : Type} {f : α → V} {l : List α} {i : Nat} {x : V} (h : (l.map f)[i]? = some x) : ∃ n, l[i]? = some n ∧ x = f n := by
  rw [List.getElem?_map] at h
  cases e : l[i]? with
  | none => rw [e] at h; cases h
  | some n => rw [e] at h; exact ⟨n, rfl, (Option.some.inj h).symm⟩
end CS

namespace CE
open PySem PySem.Spec PyProof.Rows L2 CZ
/-! ### enumerate over a list or a tuple -/
theorem enumO_new {v : Value} {oo : Obj} {Hq : Heap → Prop} (bg : Begins v oo Hq) :
    Meets (Builtin.«enumerate.__new__» ⟨[.type "enumerate", v], []⟩) (fun _ R t => Hq t.heap ∧
      R (.ok (.ret (.ref (t.heap.push oo).objs.size))) { t with heap := (t.heap.push oo).push { cls := .type "enumerate", data := .fields #[.none, .bool false, .ref t.heap.objs.size, rawInt 0, .none, .none] } }) :=
  .of_wp fun pg wo Ar R t hyp => by
    obtain ⟨hh, gg, dd, tt, oq⟩ := t
    obtain ⟨start, goal⟩ := hyp
    have es := PySem.sub_enumerate
    have go1 : ∀ {A2 : Around} {E2 : Value → Shared → Prop} {Q2 : Value → Shared → Prop}, Q2 (.ref hh.objs.size) ⟨hh.push oo, gg, dd, tt, oq⟩ → wpAny (model pg wo) A2 (pyIter v) Q2 E2 ⟨hh, gg, dd, tt, oq⟩ :=
      fun z => bg.iter pg wo _ _ ⟨hh, gg, dd, tt, oq⟩ _ start z
    wp_walk using go1
    refine wpAny_stack_any fun stk => wpAny_pure ?_
    split
    · rename_i cc _ _ _ _ _
      cases (cc == Value.type "enumerate")
      all_goals
        wp_walk using go1
        exact ⟨_, rfl, goal⟩
    · wp_walk using go1
      exact ⟨_, rfl, goal⟩
theorem enum_of {pg : Program} {wo : World} {Ar : Around} {Ex1 : Value → Shared → Prop} {t : Shared} {v : Value} {oo : Obj} {Hq : Heap → Prop} {Qe : Value → Shared → Prop} (bg : Begins v oo Hq) (start : Hq t.heap)
    (goal : ∀ hN, IsEnum hN (t.heap.objs.size + 1) t.heap.objs.size 0 .none → hN.get? t.heap.objs.size = some oo → (∀ c ob, t.heap.get? c = some ob → hN.get? c = some ob) → Qe (.ref (t.heap.objs.size + 1)) { t with heap := hN }) :
    wpAny (model pg wo) Ar (call (.type "enumerate") [v]) Qe Ex1 t := by
  refine callType_new F.called_enumerate (by decide) (F.typeCall_enumerate_1 _) (F.newCall_enumerate_1 _) (fun ob => F.args_object_init_2 ob _) F.entry_enumerate_new (enumO_new bg) ⟨start, ?_⟩
  have size1 : (t.heap.push oo).objs.size = t.heap.objs.size + 1 := Heap.size_push ..
  have isE : IsEnum ((t.heap.push oo).push { cls := .type "enumerate", data := .fields #[.none, .bool false, .ref t.heap.objs.size, rawInt 0, .none, .none] }) (t.heap.objs.size + 1) t.heap.objs.size 0 .none := by
    have at1 := Heap.get?_push_size (t.heap.push oo) (o := { cls := .type "enumerate", data := .fields #[.none, .bool false, .ref t.heap.objs.size, rawInt 0, .none, .none] }) rfl
    rw [size1] at at1
    exact at1
  show _ ∧ _
  rw [size1]
  exact ⟨⟨_, isE, rfl⟩, goal _ isE (Heap.get?_push_of_some _ (Heap.get?_push_size _ bg.free)) fun c ob z => Heap.get?_push_of_some _ (Heap.get?_push_of_some _ z)⟩
/-- what stands at p, each item in a new pair -/
def ItE (K : PySem.W.Frag) (p : Bool × Addr) : It :=
  ⟨fun i H => ∃ (xs : List V) (x : V), SqK K H p xs ∧ xs[i]? = some x, fun i H v H2 => ∃ T x, v = .ref T ∧ H T = none ∧ H2 = upd H T (.tup [.int (i : Nat), x]) ∧ ∀ xs, SqK K H p xs → xs[i]? = some x, fun i H => ∃ xs : List V, SqK K H p xs ∧ xs.length = i⟩
theorem turn_e {P : Program} {w : World} {K : PySem.W.Frag} {elts : List Expr} {kk : Nat} {tpos : Pos} {en it : Addr} {p : Bool × Addr} (n1 : p.2 ≠ it) (n2 : en ≠ it) (n3 : en ≠ p.2) :
    Turn P w K (.Tuple elts kk tpos) (ItE K p) [en, it] en (fun i h => (∃ old, IsEnum h en it ((i : Nat) : Int) old) ∧ SqIt h it p i) where
  mem := by simp
  obj := fun i h st c hc => by
    obtain ⟨⟨old, ie⟩, si⟩ := st
    have e : c = en ∨ c = it := by simpa using hc
    rcases e with q | q
    · rw [q]; exact ⟨_, ie, fun v q => nomatch q⟩
    · rw [q]; exact si.obj
  keep := fun i h h2 st k => by
    obtain ⟨⟨old, ie⟩, si⟩ := st
    exact ⟨⟨old, k en (by simp) _ ie⟩, si.at fun o q => k it (by simp) o q⟩
  item := by
    intro X hP hw hK hc i pins s σ H E I hf st hg
    subst hP hw hK
    obtain ⟨⟨old, ie⟩, si⟩ := st
    obtain ⟨xs, x, hq, hx⟩ := hg
    obtain ⟨its, rv, sq, _⟩ := sq_seq I hq
    obtain ⟨u, hu, ru⟩ := rv.get hx
    have gu : its.toArray[i]? = some u := by simpa using hu
    have lu : i < its.toArray.size := by
      have := (List.getElem?_eq_some_iff.mp hu).1
      simpa using this
    have enl : en < s.heap.objs.size := Heap.lt_size ie
    have itl : it < s.heap.objs.size := by
      obtain ⟨_, q, _⟩ := si.obj
      exact Heap.lt_size q
    refine PySem.wpAny_pyNext_enum_itemD (draws_of (A := X.A.in1) (I.ok.hd hc) it p n1 its) ie ⟨si, sq⟩ lu n2 (by simp [n2, n3]) fun x1 hA tk hx1 out ⟨si2, _⟩ hT hsz hk => ?_
    obtain rfl : u = x1 := Option.some.inj (gu.symm.trans hx1)
    refine ⟨_, rfl, wpAny_letOwnedTupleGo_enum (s := { s with heap := hA, toks := tk + 1 }) out fun hB isB sb => ?_⟩
    replace sb : Heap.SameBut en hA hB := sb
    have hT2 : hB.get? s.heap.objs.size = some { cls := .type "tuple", data := .seq #[.int i tk, u] } := (sb.2 _ (Nat.ne_of_gt enl)).trans hT
    have made : ObjOk X.prog X.w (upd H s.heap.objs.size (.tup [.int (i : Nat), x])) hB s.heap.objs.size (.tup [.int (i : Nat), x]) := ⟨by show 2 ≤ sizeLine; decide, [.int i tk, u], .cons ⟨_, rfl⟩ (.cons ru .nil), ⟨_, hT2, rfl, _, rfl⟩⟩
    have I1 : Inv X pins σ (upd H s.heap.objs.size (.tup [.int (i : Nat), x])) { s with heap := hB, toks := tk + 1 } :=
      I.turnedNew (t' := tk + 1) (ch := [en, it]) (fun c ob hb q => (sb.2 c (fun z => hb (by simp [z]))).trans (hk c ob (fun z => hb (by simp [z])) (fun z => hb (by simp [z])) q)) hf (Nat.le_refl _) made
    refine ⟨.ref s.heap.objs.size, _, I1, rfl, ⟨_, x, rfl, I.hok.fresh (Nat.le_refl _), rfl, fun ys hy => by rw [sq_inj I hy hq]; exact hx⟩, ⟨⟨u, ?_⟩, si2.at fun o q => (sb.2 it n2.symm).trans q⟩, fun c hcm => ?_⟩
    · have next : ((i + 1 : Nat) : Int) = (i : Int) + 1 := by omega
      rw [next]
      exact isB
    · have small : c < s.heap.objs.size := by
        have e : c = en ∨ c = it := by simpa using hcm
        rcases e with q | q
        · rw [q]; exact enl
        · rw [q]; exact itl
      rw [upd_ne (Nat.ne_of_lt small)]
      exact (hf c hcm).1
  done := by
    intro X hP hw hK hc i pins s σ H E I hf st hg
    subst hP hw hK
    obtain ⟨⟨old, ie⟩, si⟩ := st
    obtain ⟨xs, hq, hx⟩ := hg
    obtain ⟨its, rv, sq, _⟩ := sq_seq I hq
    have li : its.toArray.size = i := by
      have := rv.length
      simp
      omega
    have dr := draws_of (prog := X.prog) (w := X.w) (A := X.A.in1) (I.ok.hd hc) it p n1 its
    rw [li] at dr
    exact PySem.wpAny_pyNext_enum_endD dr ie ⟨si, sq⟩ fun hA eb => ⟨rfl, I.turnedL (t' := s.toks) (ch := [en, it]) (fun c ob hb q => eb c ob (fun z => hb (by simp [z])) q) hf⟩
  self := fun A i s Q E st h => let ⟨⟨_, ie⟩, _⟩ := st; wpAny_pyIter_enum ie h
theorem walk_e {K : PySem.W.Frag} {p : Bool × Addr} {xs : List V} : Walk (ItE K p) xs.length (fun H => SqK K H p xs) (YPair (fun i => some (.int (i : Nat))) (fun i => xs[i]?)) :=
  ⟨fun i _ hi q => ⟨xs, xs[i], q, by simp [hi]⟩, fun _ q => ⟨xs, q, rfl⟩, fun i H v H2 _ q y => by
    obtain ⟨T, x, h1, h2, h3, h4⟩ := y
    exact ⟨T, _, x, h1, h2, h3, rfl, h4 xs q⟩⟩
/-- enumerate(e), e a list or a tuple -/
def iE (K : PySem.W.Frag) (ta : TA) : TI := fun σ H R => ta σ H fun vs H1 => ∃ p : Bool × Addr, vs = [.ref p.2] ∧ (∃ xs, SqK K H1 p xs) ∧ R (ItE K p) H1
theorem pi_e {X : Cx} {e : Expr} {ta : TA} {po pos tpos : Pos} {elts : List Expr} {kk : Nat} (hg : Gl X "enumerate") (hm : X.mg "enumerate" = none) (ha : PA X [e] ta) (hs : starEach [e] X.env = [(false, eval e X.env)] := by rfl) :
    PI X (.Tuple elts kk tpos) (.Call (.Name "enumerate" po) [e] [] pos) (iE X.K ta) := by
  refine ⟨fun pins s σ H R I h => ?_⟩
  refine Call_ (ld_blt I hg hm boot_enumerate (PyProof.Rows.callWith_type1 (thn (ha.run pos pins s σ H _ I h) fun us s0 ⟨vs, H1, I1, r1, q1⟩ => ?_) hs rfl))
  obtain ⟨p, ev, ⟨xs, hq⟩, q1⟩ := q1
  subst ev
  cases r1 with
  | cons r rr =>
    cases rr
    cases r
    obtain ⟨its, rv, sq, lt⟩ := sq_seq I1 hq
    refine enum_of (begins_of p its) sq fun hN ie io kk2 => wpAny_pyIter_enum ie ?_
    have I2 : Inv X pins σ H1 { s0 with heap := hN } := I1.kept (t' := s0.toks) kk2
    refine ⟨s0.heap.objs.size + 1, [s0.heap.objs.size + 1, s0.heap.objs.size], _, _, H1, rfl, I2, turn_e (Nat.ne_of_lt lt) (Nat.succ_ne_self _) (Nat.ne_of_gt (Nat.lt_succ_of_lt lt)), ⟨⟨.none, ie⟩, SqIt.begin io⟩, fun c hc => ?_, q1⟩
    have le : s0.heap.objs.size ≤ c := by
      have e : c = s0.heap.objs.size + 1 ∨ c = s0.heap.objs.size := by simpa using hc
      rcases e with z | z
      · rw [z]; exact Nat.le_add_right _ _
      · rw [z]; exact Nat.le_refl _
    exact I1.fpOk le (I1.hok.fresh le)
end CE

namespace CL
open PySem PySem.Spec PyProof.Rows L2
/-! ### set(l) of a list of ints -/
section
variable {pg : Program} {wo : World} {Ar : Around} {Ee : Value → Shared → Prop} {t : Shared}
set_option maxRecDepth 100000 in
set_option maxHeartbeats 3200000 in
theorem set_of_list {l : Addr} {its : Array Value} (ns : List Int) {Qe : Value → Shared → Prop} (calm : Ar.handled = none) (isl : t.heap.IsList l its) (intsA : IntsAre its.toList ns) (few : ns.length + 1 < scanBound)
    (goal : ∀ (hN : Heap) (k c : Nat), SetR wo hN t.heap.objs.size (fun j => decide (j ∈ ns)) c → c ≤ ns.length → (∀ b ob, t.heap.get? b = some ob → hN.get? b = some ob) → Qe (.ref t.heap.objs.size) { t with heap := hN, toks := k }) :
    wpAny (model pg wo) Ar (call (.type "set") [.ref l]) Qe Ee t := by
  have len : its.size = ns.length := by
    have z := IntsAre.length intsA
    rw [Array.length_toList] at z
    exact z
  obtain ⟨cc, tail, mro⟩ := PySem.F.called_set.mro
  have made := PySem.F.called_set.made
  have sub := PySem.F.called_set.sub
  refine wpAny_call (codeAny_of_tree ?_)
  show wpAny _ _ (callAny (.type "set") _) _ _ _
  refine wpAny_pure ⟨Code.quiet_builtin _ (by decide +kernel), codeAny_builtin PySem.F.entry_type_call ?_⟩
  rw [Around.under_plain (weight_type_call_type "set" [.ref l] []) rfl]
  have noType := PySem.F.called_set.notType
  have creates := PySem.F.called_set.canCreate
  have checked := PySem.F.typeCall_set_1 (.ref l)
  repeat (any_goals (first | assumption | wp_step))
  refine codeAny_mono (code_set_led1 (.ref l) (E := Ee) (Q₁ := fun ob t1 => ob = .ref t.heap.objs.size ∧ t1 = { t with heap := t.heap.push { cls := .type "set", dict := none, data := .set #[] 0 (.fresh 0 0 (!wo.params.followText "set-order")) } }) ⟨rfl, rfl⟩) fun r t1 hr => ?_
  cases r with
  | error e => exact hr
  | ok fl =>
    cases fl with
    | ret ob =>
      obtain ⟨rfl, rfl⟩ := hr
      have hS : (t.heap.push { cls := .type "set", dict := none, data := .set #[] 0 (.fresh 0 0 (!wo.params.followText "set-order")) }).get? t.heap.objs.size = some { cls := .type "set", dict := none, data := .set #[] 0 (.fresh 0 0 (!wo.params.followText "set-order")) } := Heap.get?_push_size _ rfl
      have tS : Shared.TypeIs { t with heap := t.heap.push { cls := .type "set", dict := none, data := .set #[] 0 (.fresh 0 0 (!wo.params.followText "set-order")) } } (.ref t.heap.objs.size) "set" := ⟨_, hS, rfl⟩
      have ini := PySem.F.called_set.init.lookup
      have bnd := PySem.F.called_set.init.bind (.ref t.heap.objs.size)
      repeat (any_goals (first | assumption | wp_step))
      refine codeAny_mono (codeAny_call_builtin (R := wants (fun r t2 => r = .none ∧ ∃ hN k c, t2 = { t with heap := hN, toks := k } ∧ SetR wo hN t.heap.objs.size (fun j => decide (j ∈ ns)) c ∧ c ≤ ns.length ∧
          (∀ b ob, t.heap.get? b = some ob → hN.get? b = some ob)) Ee) PySem.F.called_set.init.plain PySem.F.entry_set_init (check_set_init_1 tS ?_)) fun r2 t2 hr2 => ?_
      · obtain ⟨ol, hol, hcl, nl, hdl⟩ := id isl
        obtain ⟨ocls, odict, odata, oslots⟩ := ol
        simp only at hcl hdl
        subst hcl
        subst hdl
        have hol2 : (t.heap.push { cls := .type "set", dict := none, data := .set #[] 0 (.fresh 0 0 (!wo.params.followText "set-order")) }).get? l = some { cls := .type "list", dict := odict, data := .seq its nl, slots := oslots } := Heap.get?_push_of_some _ hol
        have s1 := PySem.F.sub_list_set
        have s2 := PySem.F.sub_list_frozenset
        have nd : (Value.type "list" == Value.type "dict") = false := by decide
        have isl2 : (t.heap.push { cls := .type "set", dict := none, data := .set #[] 0 (.fresh 0 0 (!wo.params.followText "set-order")) }).IsList l its := ⟨_, hol2, rfl, nl, rfl⟩
        unfold Builtin.«set.__init__» noKeywords Builtin.Frozenset.updateFrom
        generalize hPI : pyIter = PIt
        wp_walk
        subst hPI
        refine wpAny_pyIter_list isl2 ?_
        refine wpAny_bind (wpAny_runValue ?_)
        have lS : l < t.heap.objs.size := Heap.lt_size hol
        have calm3 : Ar.in1.in1.in1.handled = none := by simp [calm]
        have neI : l ≠ (t.heap.push { cls := .type "set", dict := none, data := .set #[] 0 (.fresh 0 0 (!wo.params.followText "set-order")) }).objs.size := by
          rw [Heap.size_push]
          exact Nat.ne_of_lt (Nat.lt_succ_of_lt lS)
        have notF : t.heap.objs.size ∉ [(t.heap.push { cls := .type "set", dict := none, data := .set #[] 0 (.fresh 0 0 (!wo.params.followText "set-order")) }).objs.size, l] := by
          rw [Heap.size_push]
          simp only [List.mem_cons, List.not_mem_nil, or_false, not_or]
          exact ⟨Nat.ne_of_lt (Nat.lt_succ_self _), Nat.ne_of_gt lS⟩
        have vals : ∀ (i : Nat) (v : Value), its[i]? = some v → ∃ k u, ns[i]? = some k ∧ v = .int k u := fun i v hv => by
          have hi : i < ns.length := by
            rw [← len]
            exact (Array.getElem?_eq_some_iff.mp hv).1
          obtain ⟨u, e⟩ := PyProof.Rows.IntsAre.int_at intsA i v (by rw [Array.getElem?_toList]; exact hv)
          refine ⟨ns[i], u, List.getElem?_eq_getElem hi, ?_⟩
          rw [e, List.getD_eq_getElem?_getD, List.getElem?_eq_getElem hi] <;> rfl
        refine set_update_ints ((Walks.list calm3 _ l neI its).toS) t.heap.objs.size notF ns len few vals (its.size - 0) 0 _ (by omega) (Nat.zero_le _) ⟨⟨_, Heap.get?_push_size _ rfl, rfl, rfl⟩, (isl2.push _)⟩ ?first ?last
        case first =>
          exact ⟨0, Nat.le_refl 0, setR_new_at (Heap.get?_push_of_some _ hS)⟩
        case last =>
          intro t3 c3 mv hc3 hS3
          obtain ⟨hN, g3, d3, k3, os3⟩ := t3
          obtain rfl : g3 = t.gens := mv.gens
          obtain rfl : d3 = t.drawn := mv.drawn
          obtain rfl : os3 = t.os := mv.os
          show wpAny _ _ _ _ _ _
          refine wpAny_pure ?_
          show wpAny _ _ (ret Value.none) _ _ _
          rw [len] at hc3
          refine wpAny_pure ⟨rfl, hN, k3, c3, rfl, hS3, hc3, fun b ob e => ?_⟩
          have b0 : b < t.heap.objs.size := Heap.lt_size e
          have b2 : b ≠ (t.heap.push { cls := .type "set", dict := none, data := .set #[] 0 (.fresh 0 0 (!wo.params.followText "set-order")) }).objs.size := by
            rw [Heap.size_push]
            exact Nat.ne_of_lt (Nat.lt_succ_of_lt b0)
          exact mv.heap b ob (by simp only [List.mem_cons, List.not_mem_nil, or_false, not_or]; exact ⟨Nat.ne_of_lt b0, b2⟩) (Heap.get?_push_of_some _ (Heap.get?_push_of_some _ e))
      · cases r2 with
        | error e => exact hr2
        | ok fl2 =>
          cases fl2 with
          | ret r =>
            obtain ⟨rfl, hN, k, c2, rfl, hS2, hc2, hk2⟩ := hr2
            repeat (any_goals (first | assumption | wp_step))
            exact goal _ _ _ hS2 hc2 hk2
          | _ => exact hr2.elim
    | _ => exact hr.elim
end
/-- set(l), l a list of ints -/
def rSetI (K : PySem.W.Frag) (w : World) : List V → Hp → VK → Prop := fun vs H Q => ∃ (a : Addr) (ns : List Int), vs = [V.ref a] ∧ SqL K H a (ns.map V.int) ∧ ns.length + 1 < scanBound ∧ ∀ p c, H p = none → c ≤ ns.length → Q (.ref p) (upd H p (SetO w p (fun j => decide (j ∈ ns)) c))
theorem call_setI {X : Cx} (hc : X.calm = true) : CallR X (.type "set") (rSetI X.K X.w) := by
  intro pins s σ H vs us Q I r h
  obtain ⟨a, ns, rfl, hl, few, q⟩ := h
  rw [Vals.ref1 r]
  obtain ⟨its, rv, pl, _⟩ := I.list hl
  refine set_of_list ns (I.ok.hd hc) pl.isList (by rw [List.toList_toArray]; exact intsAre_of rv) few fun hN k c new hcl keep => ?_
  exact ⟨.ref _, upd H s.heap.objs.size (SetO X.w s.heap.objs.size (fun j => decide (j ∈ ns)) c), I.laid (t' := k) keep (Nat.le_refl _) (setO_new new), rfl, q _ c (I.hok.fresh (Nat.le_refl _)) hcl⟩
end CL

namespace CS
open PySem PySem.Spec PyProof.Rows L2
/-! ### more rules beside the layer's -/
section
variable {X : Cx}
/-- o.f as a target -/
def gFld (K : PySem.W.Frag) (to : TE) (f : Str) : TG := fun v σ H Q => to σ H fun x H1 => ∃ a C dx fs, x = .ref a ∧ H1 a = some (.ins C dx fs) ∧ Cls K C ∧ NoAttr K C f ∧ fs.length < 1000 ∧ Q σ (upd H1 a (.ins C dx (putF f v fs)))
theorem pg_fld {o : Expr} {f : Str} {pos : Pos} {to : TE} (ho : PE X o to) : PG X (.Attribute o f pos) (gFld X.K to f) := by
  refine ⟨fun pins s σ H v u Q I r h => ?_⟩
  rw [assign_Attribute]
  refine wpAny_bind (wpAny_holding (thn (ho.run pins s σ H _ I h) fun ov s1 ⟨x, H1, I1, r1, a, C, dx, fs, ex, ea, c, n, l, q⟩ => ?_))
  subst ex
  obtain rfl : ov = Value.ref a := r1
  refine wpAny_bind (wpAny_standAt (wpAny_bind (wpAny_holding (setattr_ok I1 ea c n l r fun s3 I3 => ?_))))
  exact wpAny_release ⟨σ, _, I3, q⟩
theorem pe_fldK {e : Expr} {f : Str} {pos : Pos} {ta : TE} (K : PySem.W.Frag) (hk : X.K = K) (he : PE X e ta) (hb : attributeBase e f X.env (eval e X.env) = eval e X.env) : PE X (.Attribute e f pos) (tFld K ta f) := by
  subst hk
  exact pe_fld he hb
def rLenQ (K : PySem.W.Frag) : List V → Hp → VK → Prop := fun xs H Q => ∃ p ys, xs = [.ref p] ∧ (SqL K H p ys ∨ SqT K H p ys) ∧ Q (.int ys.length) H
def rListQ (K : PySem.W.Frag) : List V → Hp → VK → Prop := fun xs H Q => ∃ p ys, xs = [.ref p] ∧ (SqL K H p ys ∨ SqT K H p ys) ∧ ∀ l, H l = none → Q (.ref l) (upd H l (.lst ys))
def rTupleQ (K : PySem.W.Frag) : List V → Hp → VK → Prop := fun xs H Q => ∃ p ys, xs = [.ref p] ∧ ((SqL K H p ys ∧ ∀ l, H l = none → Q (.ref l) (upd H l (.tup ys))) ∨ (SqT K H p ys ∧ Q (.ref p) H))
/-- // by a divisor of either sign -/
def CDivNW (_ j : Int) : Prop := j ≠ 0 ∧ j.natAbs.log2 < 9000
theorem op_fdivNW : OpR X (binaryOp .FloorDiv) (rI CDivNW fun i j => .int (i.fdiv j)) := opI fun _ _ _ _ _ _ _ hc q => floordiv_int hc.1 q (.inl (PyProof.noPylong_of_log2 hc.2))
theorem wide_divN {i j : Int} {b : Nat} (h : j ≠ 0) (hb : j.natAbs < 2 ^ b) (h0 : 0 < b) (h9 : b ≤ 9000) : CDivNW i j := ⟨h, Nat.lt_of_lt_of_le (PySem.Flt.log2_lt_of h0 hb) h9⟩
theorem kit_self {K : PySem.W.Frag} {C : Addr} : PySem.W.kitOne K (.ref C) (.ref C) = some true := by
  unfold PySem.W.kitOne
  rw [if_pos (by simp)]
theorem pe_revLK {e : Expr} {te : TE} {k : Nat} {p1 p2 p3 pos : Pos} (K : PySem.W.Frag) (hk : X.K = K) (he : PE X e te) : PE X (.Subscript e (.Slice none none (some (.UnaryOp .USub (.Constant (.int 1) k p1) p2)) p3) pos) (tRevL K te) := by
  subst hk
  exact pe_revL he
/-- x in s, a list or a tuple of data -/
def rInQ (K : PySem.W.Frag) : R2 := fun x y H Q => ∃ d ds, Dp K H x d ∧ (Dp K H y (.list ds) ∨ Dp K H y (.tuple ds)) ∧ SeqAt.shaped d = true ∧ SeqAt.shaped (.list ds) = true ∧ Q (.bl (ds.any fun z => PyData.eqv z d)) H
def rNotInQ (K : PySem.W.Frag) : R2 := fun x y H Q => ∃ d ds, Dp K H x d ∧ (Dp K H y (.list ds) ∨ Dp K H y (.tuple ds)) ∧ SeqAt.shaped d = true ∧ SeqAt.shaped (.list ds) = true ∧ Q (.bl (!ds.any fun z => PyData.eqv z d)) H
theorem op_inQ (hu : X.A.units + 65 < cLine) : OpR X (compareOp .In) (rInQ X.K) := by
  intro pins s σ H x y v u Q I rx ry h
  obtain ⟨d, ds, hd, he, sd, se, q⟩ := h
  obtain ⟨as, r1⟩ := Dp.reads I d x v hd rx
  rcases he with he | he
  · obtain ⟨bs, r2⟩ := Dp.reads I (.list ds) y u he ry
    exact SeqAt.in_list_reads r2 r1 (SeqAt.canLay_of_shaped se) (SeqAt.canLay_of_shaped sd) (room_in_shaped sd hu) ⟨.bl _, H, I, rfl, q⟩
  · obtain ⟨bs, r2⟩ := Dp.reads I (.tuple ds) y u he ry
    exact SeqAt.in_tuple_reads r2 r1 (SeqAt.canLay_of_shaped se) (SeqAt.canLay_of_shaped sd) (room_in_shaped sd hu) ⟨.bl _, H, I, rfl, q⟩
theorem op_notInQ (hu : X.A.units + 65 < cLine) : OpR X (compareOp .NotIn) (rNotInQ X.K) := by
  intro pins s σ H x y v u Q I rx ry h
  obtain ⟨d, ds, hd, he, sd, se, q⟩ := h
  obtain ⟨as, r1⟩ := Dp.reads I d x v hd rx
  rcases he with he | he
  · obtain ⟨bs, r2⟩ := Dp.reads I (.list ds) y u he ry
    exact SeqAt.notIn_list_reads r2 r1 (SeqAt.canLay_of_shaped se) (SeqAt.canLay_of_shaped sd) (room_in_shaped sd hu) ⟨.bl _, H, I, rfl, q⟩
  · obtain ⟨bs, r2⟩ := Dp.reads I (.tuple ds) y u he ry
    exact SeqAt.notIn_tuple_reads r2 r1 (SeqAt.canLay_of_shaped se) (SeqAt.canLay_of_shaped sd) (room_in_shaped sd hu) ⟨.bl _, H, I, rfl, q⟩
end
end CS

-- dictcomps
namespace CD
open PySem PySem.Spec PyProof.Rows L2
/-- d[key] = v where the key is a tuple, within a comprehension -/
theorem putT {X : Cx} {pins : List (Addr × Obj)} {σ : L2.St} {H : Hp} {s : Shared} {E : Value → Shared → Prop} {D b : Addr} {kvs : List (List L2.Key × V)} {k : List L2.Key} {v : V} {r : Value} {Q : Unit → Shared → Prop} (hu : X.A.units + 1 < cLine)
    (I : Inv X pins σ H s) (hD : H D = some (.dT kvs)) (hz : kvs.length < sizeLine) (hb : H b = some (.tup (k.map kV))) (rv : RelV v r) (h : ∀ s2, Inv X pins σ (upd H D (.dT (putK kvs k v))) s2 → Q () s2) : wpAny (model X.prog X.w) X.A (dictSet D (.ref b) r) Q E s := by
  obtain ⟨z, hd, xs, rel, dd⟩ := dt_of I.hok hD
  have l1 : xs.length ≤ sizeLine := Paired.length rel ▸ z
  have l2 : (putK kvs k v).length ≤ sizeLine := Nat.le_trans (length_putK kvs k v) hz
  have hroom : (tupleKind (mixKind X.prog X.w)).room X.A := Nat.lt_of_succ_lt hu
  refine wpAny_dictSet_heap (hsz := l1) hroom (key_of I.hok hb) dd fun g dg sb => h _ ?_
  obtain ⟨q, es, ep, hq, c2, c3, c4, _, c5⟩ := dg
  refine d_write I (by rw [hD]; exact True.intro) sb ⟨q, hq⟩ ⟨l2, hd, _, (rel.put k hb rv).keeps (fun c ys ec => ?_), q, es, ep, hq, c2, c3, c4, c5⟩
  rw [upd_ne (ne_of ec hD (fun z => nomatch z))]
  exact ec
section
variable {X : Cx}
/-- {k: v for target in iter if ..} where the keys are tuples -/
def tDcT (wi : TI) (g : TG) (tt : TT) (tk tv : TE) (vs : List Nat) : TE := fun σ H Q => wi σ H fun J H1 => ∀ D, H1 D = none → ∃ W : Nat → Nat → Hp → Prop, (∃ m, W 0 m (upd H1 D (.dT []))) ∧ ∀ i m H, W i m H →
  (J.stop i H ∧ Q (.ref D) H) ∨ (J.go i H ∧ ∃ Nx : Hp → Prop, (∀ H', Nx H' → ∃ m', m' < m ∧ W (i + 1) m' H') ∧ ∀ x H', J.yld i H x H' → g x (wipe σ vs) H' fun σ2 H2 => wipe σ2 vs = wipe σ vs ∧ tt σ2 H2 fun b H3 =>
    if b = true then tk σ2 H3 fun y H4 => tv σ2 H4 fun z H5 => ∃ kvs k b, y = .ref b ∧ H5 b = some (.tup (k.map kV)) ∧ H5 D = some (.dT kvs) ∧ kvs.length < sizeLine ∧ Nx (upd H5 D (.dT (putK kvs k z))) else Nx H3)
theorem dcT_run {pins : List (Addr × Obj)} {s : Shared} {σ : L2.St} {H : Hp} {Q : VK} {kx vx tg iter : Expr} {ifs : List Expr} {scope : Scope} {own : List (Str × Nat)} {pos pos' : Pos} {wi : TI} {g : TG} {tt : TT} {tk tv : TE} {use : Option (Value → Sem Unit)} {Qf : Value → Shared → Prop}
    (hu : X.A.units + 1 < cLine) (calm : X.calm = true) (nod : X.N.Nodup) (I : Inv X pins σ H s) (hi : PI X tg iter wi) (ok : BlkOk X.N X.env.scope scope own)
    (gg : ∀ (s : Shared) (H : Hp) (C : Addr) (cl : List (Str × Addr)) (fp : List Addr), PG (X.blk s H scope (compEnvC scope cl C X.env) fp) tg g)
    (gt : ∀ (s : Shared) (H : Hp) (C : Addr) (cl : List (Str × Addr)) (fp : List Addr), PTs (X.blk s H scope (compEnvC scope cl C X.env) fp) ifs tt)
    (gk : ∀ (s : Shared) (H : Hp) (C : Addr) (cl : List (Str × Addr)) (fp : List Addr), PE (X.blk s H scope (compEnvC scope cl C X.env) fp) kx tk)
    (gv : ∀ (s : Shared) (H : Hp) (C : Addr) (cl : List (Str × Addr)) (fp : List Addr), PE (X.blk s H scope (compEnvC scope cl C X.env) fp) vx tv) (fold : ∀ x, foldedSetIterable iter X.env x = pure x)
    (h : tDcT wi g tt tk tv (own.map (·.2)) σ H Q)
    (post : ∀ D C s' m H', Inv X pins σ H' s' → Q (.ref D) H' → s'.heap.Ns C m → FpOk X pins H' C → compPost (model X.prog X.w) X.A X.xe use Qf (.ref D) C (.ok .next) s') :
    wpAny (model X.prog X.w) X.A (comprehension (.DictComp kx vx [⟨tg, iter, ifs, 0⟩] scope pos) scope X.env pos' newDict false (eval iter X.env) use) Qf X.xe s := by
  have hasC : ∀ y ∈ scope.names, y.2 = .free → ∃ c, X.env.cells.lookup y.1 = some c := fun y hy e => I.ok.has _ (ok.free y hy e)
  refine wpAny_comprehension_free (use := use) rfl fold (closure_ok hasC) ok.kind (fun y hy e => by rw [ok.uniq y hy, e]) (thn (hi.run pins s σ H _ I h) fun xv s1 hx => thn hx fun itv s2 h2 => ?_)
  obtain ⟨it, fp, tn, J, H2, rfl, I2, T, at2, free2, q⟩ := h2
  refine wpAny_newObj_type (newEnv_comp ?_)
  generalize eD : s2.heap.objs.size = D
  have newD : H2 D = none := I2.hok.fresh (Nat.le_of_eq eD)
  obtain ⟨W, ⟨m0, w0⟩, turn⟩ := q D newD
  generalize es3 : ({ s2 with heap := s2.heap.push { cls := .type "dict", data := .dict #[] } } : Shared) = s3
  have hp3 : s3.heap = s2.heap.push { cls := .type "dict", data := .dict #[] } := by rw [← es3]
  generalize eH3 : upd H2 D (.dT []) = H3
  have I3 : Inv X pins σ H3 s3 := by
    subst es3 eH3
    refine I2.laid (t' := s2.toks) (fun b o e => Heap.get?_push_of_some _ e) (Nat.le_of_eq eD) ?_
    subst eD
    exact dt_empty s2.heap I2.big
  have low : ∀ b ∈ fp, b < s2.heap.objs.size := fun b hb => let ⟨_, e, _⟩ := T.obj _ _ at2 b hb; Heap.lt_size e
  have free3 : ∀ b ∈ fp, FpOk X pins H3 b ∧ b < s3.heap.objs.size := fun b hb => by
    have lt := low b hb
    refine ⟨⟨?_, (free2 b hb).2⟩, by rw [hp3, Heap.size_push]; exact Nat.lt_succ_of_lt lt⟩
    rw [← eH3, upd_ne (by rw [← eD]; exact Nat.ne_of_lt lt)]
    exact (free2 b hb).1
  have at3 : tn 0 s3.heap := T.keep _ _ _ at2 fun b _ o e => hp3 ▸ Heap.get?_push_of_some _ e
  have I4 := block_start I3 ok nod free3
  generalize eC : s3.heap.objs.size = C at I4
  generalize ecl : cellsFrom (C + 1) scope.names (cloFrom X.env.cells scope.names []) = cl at I4
  have pg := gg s3 H3 C cl fp
  have pt := gt s3 H3 C cl fp
  have pk := gk s3 H3 C cl fp
  have pv := gv s3 H3 C cl fp
  have none3 : ∀ b ∈ fp, H3 b = none := fun b hb => (free3 b hb).1.1
  subst ecl eC
  generalize ece : compEnvC scope (cellsFrom (s3.heap.objs.size + 1) scope.names (cloFrom X.env.cells scope.names [])) s3.heap.objs.size X.env = ce at I4 pg pt pk pv
  have loc : ce.locals = s3.heap.objs.size := by subst ece; rfl
  generalize es4 : ({ s3 with heap := pushCells (s3.heap.push { cls := .type "dict", data := .dict #[] }) scope.names } : Shared) = s4 at I4
  have at4 : tn 0 s4.heap := T.keep _ _ _ at3 fun b _ o e => es4 ▸ pushCells_keeps _ _ _ _ (Heap.get?_push_of_some _ e)
  have wEq : W 0 m0 H3 := eH3 ▸ w0
  have quiet : ∀ {τ : L2.St} {G : Hp} {t : Shared}, Inv (X.blk s3 H3 scope ce fp) [] τ G t → (∀ b ∈ fp, G b = none) → ∀ b ∈ fp, FpOk (X.blk s3 H3 scope ce fp) [] G b := fun {τ G t} J hn b hb =>
    ⟨hn b hb, (J.ok.exf b hb).1, J.ok.exfs b hb, .inl hb, (J.ok.exf b hb).2, fun p hp => absurd (show p ∈ ([] : List (Addr × Obj)) ++ [] from hp) (by simp)⟩
  have run : codeAny (model X.prog X.w) X.A (.compLoop (.DictComp kx vx [⟨tg, iter, ifs, 0⟩] scope pos) 0 (.ref it) (.ref D) ce) (compPost (model X.prog X.w) X.A X.xe use Qf (.ref D) s3.heap.objs.size) s4 := by
    refine compLoop_anyD (fun n t => ∃ i G, Inv (X.blk s3 H3 scope ce fp) [] (wipe σ (own.map (·.2))) G t ∧ tn i t.heap ∧ (∀ b ∈ fp, G b = none) ∧ W i n G) ?_ m0 ⟨0, H3, I4, at4, none3, wEq⟩
    rintro n t5 ⟨i, G5, I5, at5, n5, w5⟩
    rcases turn i n G5 w5 with ⟨stop, qq⟩ | ⟨go, Nx, hNx, step⟩
    · refine thnF (T.done (X.blk s3 H3 scope ce fp) rfl rfl rfl calm i [] t5 _ G5 (fun _ _ => False) I5 (quiet I5 n5) at5 stop) fun r t6 ⟨er, I6⟩ => ?_
      subst er
      have I7 : Inv X pins σ G5 t6 := I3.call' (ch := fp) I6.os I6.base I6.hok I6.bare fun b hb => let z := (free3 b hb).1.2; ⟨z.2.2.1, z.1, z.2.2.2.1, z.2.2.2.2⟩
      have nC : G5 s3.heap.objs.size = none := loc ▸ (show G5 ce.locals = none from I6.free)
      obtain ⟨m, hn, _⟩ := I6.loc
      replace hn : t6.heap.Ns s3.heap.objs.size m := loc ▸ (show t6.heap.Ns ce.locals m from hn)
      exact post D s3.heap.objs.size t6 m G5 I7 qq hn (I3.fpOk (Nat.le_refl _) nC)
    · refine thnF (T.item (X.blk s3 H3 scope ce fp) rfl rfl rfl calm i [] t5 _ G5 (fun _ _ => False) I5 (quiet I5 n5) at5 go) fun r t6 ⟨u, er, h6⟩ => ?_
      subst er
      refine thnF h6 fun _ t7 ⟨x, G7, I7, r7, y7, at7, n7⟩ => ?_
      refine thnF (pg.run _ t7 _ G7 x u _ (I7.pinned (quiet I7 n7) (T.obj _ _ at7)) r7 (step x G7 y7)) fun _ t8 ⟨σ8, G8, I8, hw, q8⟩ => ?_
      refine thnF (pt.run _ t8 σ8 G8 _ I8 q8) fun b t9 ⟨G9, I9, q9⟩ => ?_
      have fin : ∀ {t : Shared} {G : Hp}, Inv (X.blk s3 H3 scope ce fp) ([] ++ pinsAt fp t7.heap) σ8 G t → Nx G → ∃ m, m < n ∧ ∃ j G2, Inv (X.blk s3 H3 scope ce fp) [] (wipe σ (own.map (·.2))) G2 t ∧ tn j t.heap ∧ (∀ b ∈ fp, G2 b = none) ∧ W j m G2 := fun {t G} IG nx => by
        obtain ⟨m2, lt, w2⟩ := hNx G nx
        have stay : ∀ b ∈ fp, ∀ o, t7.heap.get? b = some o → t.heap.get? b = some o ∧ G b = none := fun b hb o e => ⟨(IG.pin (b, o) (List.mem_append_right _ (List.mem_append_right _ (mem_pinsAt hb e)))).1, (IG.pin (b, o) (List.mem_append_right _ (List.mem_append_right _ (mem_pinsAt hb e)))).2.1⟩
        have len : (wipe σ (own.map (·.2))).length = σ8.length := by rw [← hw, wipe_length]
        refine ⟨m2, lt, i + 1, G, (IG.unpinned (pins := [])).weak len (fun j v e => (wipe_some (hw ▸ e)).1), T.keep _ _ _ at7 fun b hb o e => (stay b hb o e).1, fun b hb => ?_, w2⟩
        obtain ⟨o, e, _⟩ := T.obj _ _ at7 b hb
        exact (stay b hb o e).2
      cases b with
      | false =>
        rw [if_neg Bool.false_ne_true] at q9 ⊢
        exact fin I9 q9
      | true =>
        rw [if_pos rfl] at q9 ⊢
        refine thnF (pk.run _ t9 σ8 G9 _ I9 q9) fun z ta ⟨yk, Ga, Ia, ra, qa⟩ => ?_
        refine thnF (pv.run _ ta σ8 Ga _ Ia qa) fun z2 tb ⟨yv, Gb, Ib, rb, kvs, k, bb, ek, hbb, hDb, hz, nx⟩ => ?_
        subst ek
        cases (show z = Value.ref bb from ra)
        exact putT (X := X.blk s3 H3 scope ce fp) hu Ib hDb hz hbb rb fun tc Ic => fin Ic nx
  subst ece
  exact codeAny_compStart_dict run (T.self X.A 0 _ _ _ at4 run)
theorem pe_dcT {kx vx tg iter : Expr} {ifs : List Expr} {scope : Scope} {own : List (Str × Nat)} {pos : Pos} {wi : TI} {g : TG} {tt : TT} {tk tv : TE} (hu : X.A.units + 1 < cLine) (calm : X.calm = true) (nod : X.N.Nodup) (hi : PI X tg iter wi) (ok : BlkOk X.N X.env.scope scope own)
    (gg : ∀ (s : Shared) (H : Hp) (C : Addr) (cl : List (Str × Addr)) (fp : List Addr), PG (X.blk s H scope (compEnvC scope cl C X.env) fp) tg g)
    (gt : ∀ (s : Shared) (H : Hp) (C : Addr) (cl : List (Str × Addr)) (fp : List Addr), PTs (X.blk s H scope (compEnvC scope cl C X.env) fp) ifs tt)
    (gk : ∀ (s : Shared) (H : Hp) (C : Addr) (cl : List (Str × Addr)) (fp : List Addr), PE (X.blk s H scope (compEnvC scope cl C X.env) fp) kx tk)
    (gv : ∀ (s : Shared) (H : Hp) (C : Addr) (cl : List (Str × Addr)) (fp : List Addr), PE (X.blk s H scope (compEnvC scope cl C X.env) fp) vx tv) (fold : ∀ x, foldedSetIterable iter X.env x = pure x := by intro _; rfl) :
    PE X (.DictComp kx vx [⟨tg, iter, ifs, 0⟩] scope pos) (tDcT wi g tt tk tv (own.map (·.2))) := by
  refine ⟨fun pins s σ H Q I h => ?_⟩
  rw [arm_eval_DictComp]
  refine dcT_run hu calm nod I hi ok gg gt gk gv fold h fun D C t m G IG q hn f => ⟨m, hn, fun g2 sb => ?_⟩
  exact ⟨.ref D, G, IG.turned (t' := t.toks) (fun b o hb e => (sb.2 b hb).trans e) f.1 f.2.1 f.2.2.2.1 f.2.2.2.2.1 f.2.2.2.2.2, rfl, q⟩
end
/-- over anything that is walked: the keys and values are known from the start -/
theorem dcT_it {J : It} {n : Nat} {G : Hp → Prop} {Y : Nat → Hp → V → Hp → Prop} (w : Walk J n G Y) {g : TG} {tt : TT} {tk tv : TE} {vs : List Nat} {σ : L2.St} {H1 : Hp} {D : Addr} {Qd : Hp → Prop} (Pv : Nat → Hp → Prop) (h0 : Pv 0 (upd H1 D (.dT []))) (hl : ∀ i H, i ≤ n → Pv i H → G H)
    (hs : ∀ i x H H2, i < n → Pv i H → Y i H x H2 → g x (wipe σ vs) H2 fun σ2 H3 => wipe σ2 vs = wipe σ vs ∧ tt σ2 H3 fun b H4 =>
      if b = true then tk σ2 H4 fun y H5 => tv σ2 H5 fun z H6 => ∃ kvs k b, y = .ref b ∧ H6 b = some (.tup (k.map kV)) ∧ H6 D = some (.dT kvs) ∧ kvs.length < sizeLine ∧ Pv (i + 1) (upd H6 D (.dT (putK kvs k z))) else Pv (i + 1) H4)
    (hd : ∀ H, Pv n H → Qd H) :
    ∃ W : Nat → Nat → Hp → Prop, (∃ m, W 0 m (upd H1 D (.dT []))) ∧ ∀ i m H, W i m H →
      (J.stop i H ∧ Qd H) ∨ (J.go i H ∧ ∃ Nx : Hp → Prop, (∀ H', Nx H' → ∃ m', m' < m ∧ W (i + 1) m' H') ∧ ∀ x H', J.yld i H x H' → g x (wipe σ vs) H' fun σ2 H2 => wipe σ2 vs = wipe σ vs ∧ tt σ2 H2 fun b H3 =>
        if b = true then tk σ2 H3 fun y H4 => tv σ2 H4 fun z H5 => ∃ kvs k b, y = .ref b ∧ H5 b = some (.tup (k.map kV)) ∧ H5 D = some (.dT kvs) ∧ kvs.length < sizeLine ∧ Nx (upd H5 D (.dT (putK kvs k z))) else Nx H3) := by
  refine ⟨fun i m H => m = n - i ∧ i ≤ n ∧ Pv i H, ⟨n, rfl, Nat.zero_le _, h0⟩, ?_⟩
  rintro i m H ⟨rfl, hi, p⟩
  have q := hl i H hi p
  by_cases c : i < n
  · exact .inr ⟨w.goes i H c q, Pv (i + 1), fun H2 p2 => ⟨n - (i + 1), by omega, rfl, c, p2⟩, fun x H2 y => hs i x H H2 c p (w.yields i H x H2 c q y)⟩
  · obtain rfl : i = n := by omega
    exact .inl ⟨w.stops H q, hd H p⟩
/-- kvs with the pairs of more put in -/
def mergeT (kvs more : List (List L2.Key × V)) : List (List L2.Key × V) := more.foldl (fun acc p => putK acc p.1 p.2) kvs
theorem mergeT_len (kvs : List (List L2.Key × V)) : ∀ more : List (List L2.Key × V), (mergeT kvs more).length ≤ kvs.length + more.length := fun more => by
  induction more generalizing kvs with
  | nil => exact Nat.le_refl _
  | cons p r ih =>
    have a := ih (putK kvs p.1 p.2)
    have b := length_putK kvs p.1 p.2
    simp only [mergeT, List.foldl_cons, List.length_cons] at *
    omega
theorem KT.merge {H : Hp} : ∀ {more : List (List L2.Key × V)} {ys : List (List L2.Key × Addr × Value)} {kvs : List (List L2.Key × V)} {xs : List (List L2.Key × Addr × Value)}, KT H more ys → KT H kvs xs → KT H (mergeT kvs more) (storedAllH xs ys)
  | _, _, _, _, .nil, h => h
  | (k, v) :: _, (k2, b, u) :: _, kvs, xs, .cons ⟨e, hb, rv⟩ t, h => by
    obtain rfl : k = k2 := e
    exact KT.merge (kvs := putK kvs k v) (xs := storedH xs k b u) t (h.put k hb rv)
section
variable {X : Cx}
/-- d.update(e), both keyed by tuples -/
def rUpdT : V → List V → Hp → VK → Prop := fun x xs H Q => ∃ (a b : Addr) (kvs more : List (List L2.Key × V)), x = .ref a ∧ xs = [.ref b] ∧ a ≠ b ∧ H a = some (.dT kvs) ∧ H b = some (.dT more) ∧ (kvs ≠ [] ∨ more = []) ∧ kvs.length + more.length ≤ sizeLine ∧ Q .non (upd H a (.dT (mergeT kvs more)))
theorem mt_updT (hu : X.A.units + 1 < cLine) : MtR X "dict.update" rUpdT := by
  intro pins s σ H x xs v us Q I rx rxs h
  obtain ⟨a, b, kvs, more, rfl, rfl, ne, ha, hb, nn, le, q⟩ := h
  cases rx
  cases rxs with
  | cons r1 r2 =>
    cases r1
    cases r2
    obtain ⟨z, hd, xs1, rel, dd⟩ := dt_of I.hok ha
    obtain ⟨z2, hd2, xs2, rel2, dd2⟩ := dt_of I.hok hb
    have l1 : kvs.length = xs1.length := Paired.length rel
    have l2 : more.length = xs2.length := Paired.length rel2
    refine call_update_dictH (tupleKind_room_in1 hu) ne hd2 dd dd2 (nn.imp (fun nn e => nn (List.length_eq_zero_iff.mp (by rw [l1, e]; rfl))) fun e => (by
      have e2 : xs2 = [] := List.length_eq_zero_iff.mp (by rw [← l2, e]; rfl)
      rw [e2]
      exact ⟨(fun x hx => by cases hx), .nil⟩)) (by omega) fun h' dd' _ hs => ?_
    obtain ⟨o, es, ep, hq, h2, h3, h4, _, h5⟩ := dd'
    refine ⟨.non, _, d_write (ob := .dT (mergeT kvs more)) (t' := s.toks) I (by rw [ha]; exact True.intro) hs ⟨o, hq⟩ ⟨Nat.le_trans (mergeT_len kvs more) le, hd, _, (KT.merge rel2 rel).keeps (fun c ys ec => (by rw [upd_ne (ne_of ec ha (fun z => nomatch z))]; exact ec)), o, es, ep, hq, h2, h3, h4, h5⟩, rfl, q⟩
end
end CD

namespace CD
open PySem PySem.Spec PyProof.Rows L2
/-- the view d.values() -/
def valsO (p d : Addr) : HO := .ext fun h => h.IsValuesView p d
theorem DTpget {α β : Type} {F : α → β → Prop} : ∀ {l₁ : List α} {l₂ : List β} {j : Nat} {x : β}, Paired F l₁ l₂ → l₂[j]? = some x → ∃ y, l₁[j]? = some y ∧ F y x
  | _, _, _, _, .nil, h => by simp at h
  | _, _, 0, _, .cons r _, h => ⟨_, rfl, by obtain rfl := Option.some.inj h; exact r⟩
  | _, _, j + 1, _, .cons _ t, h => DTpget (j := j) t h
section
variable {X : Cx}
def rValuesT : V → List V → Hp → VK → Prop := fun x xs H Q => ∃ (a : Addr) (kvs : List (List L2.Key × V)), x = .ref a ∧ xs = [] ∧ H a = some (.dT kvs) ∧ ∀ p, H p = none → Q (.ref p) (upd H p (valsO p a))
theorem mt_valuesT : MtR X "dict.values" rValuesT := by
  intro pins s σ H x xs v us Q I rx rxs h
  obtain ⟨a, kvs, rfl, rfl, ha, q⟩ := h
  cases rx
  cases rxs
  obtain ⟨z, hd, ys, rel, o, es, ep, ho, hx, hdat, _⟩ := dt_of I.hok ha
  have raw : s.heap.DictRaw a es ep := ⟨o, ho, hx, hdat⟩
  refine call_meetsIn PySem.F.slot_dict_values raw.typeIs PySem.F.entry_dict_values (PySem.F.args_dict_values_1 _) (meets_dict_values_raw a hd) ⟨⟨es, ep, raw⟩, ?_⟩
  have new : ObjOk X.prog X.w (upd H s.heap.objs.size (valsO s.heap.objs.size a)) (s.heap.push { cls := .type "dict_values", data := .fields #[.ref a] }) s.heap.objs.size (valsO s.heap.objs.size a) :=
    ⟨⟨_, Heap.get?_push_size _ rfl, rfl, rfl⟩, ⟨_, Heap.get?_push_size _ rfl⟩, fun h1 h2 y k => let ⟨u, hu, r⟩ := y; ⟨u, k u hu, r⟩⟩
  exact ⟨.ref s.heap.objs.size, _, I.laid (t' := s.toks) (fun b u e => Heap.get?_push_of_some _ e) (Nat.le_refl _) new, rfl, q _ (I.hok.fresh (Nat.le_refl _))⟩
/-- max(d.values()), whole numbers -/
def rMaxT : List V → Hp → VK → Prop := fun xs H Q => ∃ (p a : Addr) (kvs : List (List L2.Key × V)) (is : List Int), xs = [.ref p] ∧ H p = some (valsO p a) ∧ H a = some (.dT kvs) ∧ kvs.map (·.2) = is.map V.int ∧ is ≠ [] ∧ ∀ m, m ∈ is → (∀ j ∈ is, j ≤ m) → Q (.int m) H
theorem cr_maxT (calm : X.calm = true) : CallR X (.builtin "max") rMaxT := by
  intro pins s σ H xs us Q I r h
  obtain ⟨p, a, kvs, is, rfl, hp, ha, hv, hne, q⟩ := h
  rw [Vals.ref1 r]
  obtain ⟨z, hd, ys, rel, o, es, ep, ho, hx, hdat, hes, _⟩ := dt_of I.hok ha
  have raw : s.heap.DictRaw a es ep := ⟨o, ho, hx, hdat⟩
  have view : s.heap.IsValuesView p a := (show ObjOk X.prog X.w H s.heap p (valsO p a) from I.hok p _ hp).1
  have l1 : es.size = ys.length := by rw [← Array.length_toList, hes, List.length_map]
  have l2 : kvs.length = ys.length := Paired.length rel
  have l3 : is.length = kvs.length := by
    have := congrArg List.length hv
    rw [List.length_map, List.length_map] at this
    exact this.symm
  have hval : ∀ (i : Nat) (v : Value), (∃ hi : i < es.size, v = es[i].val) → ∃ t, v = Value.int (is.getD i 0) t := fun i v ⟨hi, e⟩ => by
    subst e
    have iy : i < ys.length := by omega
    have e1 : es[i] = entryOfKey (tupleKind (mixKind X.prog X.w)) ys[i] := by
      have : es.toList[i]? = some es[i] := by rw [Array.getElem?_toList, Array.getElem?_eq_getElem hi]
      rw [hes, List.getElem?_map, List.getElem?_eq_getElem iy] at this
      exact (Option.some.inj this).symm
    obtain ⟨y, hy, f1, f2, f3⟩ := DTpget rel (List.getElem?_eq_getElem iy)
    have e2 : (kvs.map (·.2))[i]? = some y.2 := by rw [List.getElem?_map, hy]; rfl
    rw [hv, List.getElem?_map] at e2
    obtain ⟨j, hj, e3⟩ := Option.map_eq_some_iff.mp e2
    rw [← e3] at f3
    obtain ⟨t, f3⟩ := f3
    refine ⟨t, ?_⟩
    rw [e1, List.getD_eq_getElem?_getD, hj]
    exact f3
  refine call_max_walk (wpAny_pyIter_values_raw view raw ?_)
  generalize hI : s.heap.objs.size = it
  have al : a < s.heap.objs.size := Heap.lt_size ho
  generalize hh : s.heap.push { cls := .type "dict_valueiterator", data := .fields #[.ref a, .int 0 0, .int es.size 0, .int ep 0] } = h2
  have keep : ∀ b u, s.heap.get? b = some u → h2.get? b = some u := fun b u e => hh ▸ Heap.get?_push_of_some _ e
  have raw2 : h2.DictRaw a es ep := ⟨o, keep _ _ ho, hx, hdat⟩
  have at2 : h2.get? it = some { cls := .type "dict_valueiterator", data := .fields #[.ref a, .int 0 0, .int es.size 0, .int ep 0] } := by rw [← hh, ← hI]; exact Heap.get?_push_size _ rfl
  have sz2 : h2.objs.size = it + 1 := by rw [← hh, Heap.size_push, hI]
  have nea : a ≠ it := by rw [← hI]; exact Nat.ne_of_lt al
  refine ⟨it, _, _, _, _, _, _, rfl, Walks.rawValues (A := X.A.in1) (I.ok.hd calm) it a nea es ep, ⟨⟨_, at2, rfl, rfl⟩, raw2⟩, fun b hb => ?_, by have := List.length_pos_iff.mpr hne; omega, CmpOf.ints_gt (fun i => is.getD i 0) hval, fun v h3 tk hP hk => ?_⟩
  · show b < h2.objs.size
    rw [sz2]
    rcases List.mem_cons.mp hb with e | hb
    · rw [e]
      exact Nat.lt_succ_self _
    · rw [List.mem_singleton.mp hb, ← hI]
      exact Nat.lt_succ_of_lt al
  · obtain ⟨t, rfl⟩ := hval _ v hP
    obtain ⟨b1, b2⟩ := argBest_gt (fun i => is.getD i 0) (es.size - 1)
    have inb : argBest (fun i j => decide (is.getD i 0 > is.getD j 0)) (es.size - 1) < is.length := by
      have := List.length_pos_iff.mpr hne
      omega
    refine ⟨.int _, H, I.kept (t' := tk) fun b u e => hk b u (fun hm => ?_) (keep b u e), ⟨t, rfl⟩, q _ ?_ fun j hj => ?_⟩
    · have e1 : b = it := List.mem_singleton.mp hm
      have e2 := Heap.lt_size e
      rw [e1, hI] at e2
      exact absurd e2 (Nat.lt_irrefl _)
    · rw [List.getD_eq_getElem?_getD, List.getElem?_eq_getElem inb]
      exact List.getElem_mem inb
    · obtain ⟨i, hi⟩ := List.mem_iff_getElem?.mp hj
      have il := (List.getElem?_eq_some_iff.mp hi).1
      have := b2 i (by omega)
      rw [List.getD_eq_getElem?_getD, hi] at this
      exact this
end
end CD

namespace CD
open PySem PySem.Spec PyProof.Rows L2
/-- a slice's part that may be None -/
def tPartO (t : TE) : TO := fun σ H Q => t σ H fun x H1 => (x = .non ∧ Q none H1) ∨ ∃ i, x = .int i ∧ Q (some i) H1
theorem po_opt {X : Cx} {e : Expr} {te : TE} (h : PE X e te) : PO X (some e) (tPartO te) := by
  refine ⟨fun pins s σ H Q I hw => ?_⟩
  rw [evalPart_some]
  refine thn (h.run pins s σ H _ I hw) fun u s1 ⟨x, H1, I1, r1, q1⟩ => ?_
  rcases q1 with ⟨rfl, q⟩ | ⟨i, rfl, q⟩
  · obtain rfl : u = Value.none := r1
    exact ⟨none, H1, I1, .none, q⟩
  · obtain ⟨t, rfl⟩ := r1
    exact ⟨some i, H1, I1, .int i t, q⟩
end CD

namespace CD
open PySem PySem.Spec PyProof.Rows L2
/-! ### dict(xs) of a list of pairs whose keys are tuples -/
def PrT (H : Hp) (x : V) (kv : List L2.Key × V) : Prop := ∃ p b, x = V.ref p ∧ H p = some (.tup [.ref b, kv.2]) ∧ H b = some (.tup (kv.1.map kV))
section
variable {X : Cx}
def rDictT (K : PySem.W.Frag) : List V → Hp → VK → Prop := fun xs H Q => ∃ (a : Addr) (ps : List V) (kvs : List (List L2.Key × V)), xs = [.ref a] ∧ SqL K H a ps ∧ Paired (PrT H) ps kvs ∧ ∀ d, H d = none → Q (.ref d) (upd H d (.dT (mergeT [] kvs)))
theorem pairs_ofT {pins : List (Addr × Obj)} {σ : L2.St} {H : Hp} {s : Shared} (I : Inv X pins σ H s) : ∀ {ps : List V} {us : List Value} {kvs : List (List L2.Key × V)}, Paired (PrT H) ps kvs → Vals ps us →
    ∃ ys : List (List L2.Key × Addr × Value), KT H kvs ys ∧ ys.length = us.length ∧ ∀ (j : Nat) (y : List L2.Key × Addr × Value), ys[j]? = some y → ∃ p, us[j]? = some (Value.ref p) ∧ s.heap.IsTuple p #[.ref y.2.1, y.2.2]
  | _, _, _, .nil, r => by
    cases r
    exact ⟨[], .nil, rfl, fun j q e => by simp at e⟩
  | _, _, _, .cons (a := x) (b := kv) h t, r => by
    obtain ⟨p, b, rfl, hp, hb⟩ := h
    cases r with
    | cons r1 r2 =>
      cases r1
      obtain ⟨ys, rk, hl, hh⟩ := pairs_ofT I t r2
      obtain ⟨its, rv, ht, _⟩ := I.tuple (SqT.of hp)
      obtain ⟨u, y, ei, ru, ry⟩ := vals2 rv
      subst ei
      cases ru
      refine ⟨(kv.1, b, y) :: ys, .cons ⟨rfl, hb, ry⟩ rk, by rw [List.length_cons, List.length_cons, hl], fun j q e => ?_⟩
      cases j with
      | zero =>
        obtain rfl := Option.some.inj e
        obtain ⟨o, ho, hc, n, hd⟩ := ht
        exact ⟨p, rfl, o, ho, hc, n, hd⟩
      | succ j =>
        obtain ⟨p2, e1, e2⟩ := hh j q (by simpa using e)
        exact ⟨p2, by simpa using e1, e2⟩
theorem call_dictT (hcalm : X.calm = true) (hu : X.A.units + 65 < cLine) : CallR X (.type "dict") (rDictT X.K) := by
  intro pins s σ H xs us Q I r q
  obtain ⟨a, ps, kvs, rfl, hq, hp, q⟩ := q
  obtain ⟨u, rfl, rx⟩ := vals1 r
  cases rx
  obtain ⟨its, rv, pl, hz⟩ := I.list hq
  obtain ⟨ys, rk, hl, hpr⟩ := pairs_ofT I hp rv
  obtain ⟨o, n, ho, hc, hd, hdat⟩ := pl
  let Ts : Nat → Addr := fun j => match its[j]? with
    | some (.ref p) => p
    | _ => 0
  let prs : List (Value × Value) := ys.map fun y => (Value.ref y.2.1, y.2.2)
  have lp : prs.length = its.length := by simp [prs, hl]
  have hTs : ∀ {j : Nat} {p : Addr}, its[j]? = some (.ref p) → Ts j = p := fun {j p} e => by
    show (match its[j]? with | some (.ref p) => p | _ => 0) = p
    rw [e]
  have P := PairArg.list (prog := X.prog) (w := X.w) a its.toArray Ts prs
  have ok : PlainSeq "list" s.heap a its.toArray ∧ PairItems s.heap its.toArray Ts prs := by
    refine ⟨⟨o, n, ho, hc, hd, hdat⟩, by rw [List.size_toArray, lp], fun j k v e => ?_⟩
    have e2 : (ys.map fun y => (Value.ref y.2.1, y.2.2))[j]? = some (k, v) := e
    rw [List.getElem?_map] at e2
    obtain ⟨y, hy, ey⟩ := Option.map_eq_some_iff.mp e2
    obtain ⟨p, h1, h2⟩ := hpr j y hy
    obtain ⟨rfl, rfl⟩ := Prod.mk.inj ey
    rw [hTs h1]
    exact ⟨by simpa using h1, .inl h2⟩
  have hroom : (tupleKind (mixKind X.prog X.w)).room X.A.in1.in1 := by
    show X.A.units + 1 + 1 < cLine
    omega
  have keyed : ∀ x ∈ ys, (tupleKind (mixKind X.prog X.w)).is s.heap x.1 x.2.1 := by
    clear hpr P ok hl lp q hp
    intro x hx
    obtain ⟨i, hi⟩ := List.mem_iff_getElem?.mp hx
    induction rk generalizing i with
    | nil => cases hx
    | cons h t ih =>
      rcases List.mem_cons.mp hx with rfl | hx2
      · obtain ⟨h1, h2, _⟩ := h
        exact key_of I.hok (by rw [← h1]; exact h2)
      · obtain ⟨i2, hi2⟩ := List.mem_iff_getElem?.mp hx2
        exact ih hx2 i2 hi2
  refine call_dict_pairsH (knd := tupleKind (mixKind X.prog X.w)) (ps := ys) P (I.ok.hd hcalm) hroom ok ⟨by simp [prs], fun i key v e => ?_⟩ (fun h' hk x hx => ?_) (by rw [lp, ← rv.length]; exact hz) fun h' tk dd k => ?_
  · have e2 : (ys.map fun y => (Value.ref y.2.1, y.2.2))[i]? = some (key, v) := e
    rw [List.getElem?_map] at e2
    obtain ⟨⟨y1, y2, y3⟩, hy, ey⟩ := Option.map_eq_some_iff.mp e2
    obtain ⟨rfl, rfl⟩ := Prod.mk.inj ey
    exact ⟨y1, y2, hy, rfl⟩
  · exact tupleKind_stays.stays (fun b o vs n e _ => hk b o (Nat.ne_of_lt (Heap.lt_size e)) (by simp) e) (keyed x hx)
  · have hm : (s.heap.objs.size == sysModules) = false := beq_eq_false_iff_ne.mpr (Nat.ne_of_gt I.big)
    have fr : H s.heap.objs.size = none := I.hok.fresh (Nat.le_refl _)
    have hlen : (mergeT [] kvs).length ≤ sizeLine := by
      have h1 := mergeT_len [] kvs
      have h2 : kvs.length = ys.length := Paired.length rk
      rw [List.length_nil, h2, hl] at h1
      have : its.length ≤ sizeLine := by rw [← rv.length]; exact hz
      omega
    obtain ⟨o2, es, ep, hq2, h2, h3, h4, _, h5⟩ := dd
    refine ⟨.ref s.heap.objs.size, upd H s.heap.objs.size (.dT (mergeT [] kvs)), I.laid (t' := tk) (fun b o e => k b o (by simp) e) (Nat.le_refl _) (show ObjOk X.prog X.w _ _ _ (.dT (mergeT [] kvs)) from ⟨hlen, hm, storedAllH [] ys, (KT.merge rk .nil).keeps (fun c zs ec => by rw [upd_ne (ne_of_none ec fr)]; exact ec), o2, es, ep, hq2, h2, h3, h4, h5⟩), rfl, q _ fr⟩
end
end CD

-- dictcomps
namespace CD
open PySem PySem.Spec PyProof.Rows L2
/-! ### d != {} -/
section
variable {prog : Program} {w : World} {A : Around} {E : Value → Shared → Prop} {s : Shared}
theorem same_empty {nm : String} {a b : Addr} {es es2 : Array DictEntry} {ep ep2 : Nat} {Q : Bool → Shared → Prop} (ha : (a == sysModules) = false) (hb : (b == sysModules) = false)
    (da : s.heap.DictRaw a es ep) (db : s.heap.DictRaw b es2 ep2) (h0 : es2.size = 0) (h : Q (es.size == 0) s) : wpAny (model prog w) A (Builtin.Dict.samePairs nm a b) Q E s := by
  obtain ⟨oa, hoa, _, hda⟩ := da
  obtain ⟨ob, hob, _, hdb⟩ := db
  unfold Builtin.Dict.samePairs Builtin.Dict.showsAll
  rw [if_neg (show ¬ (a == sysModules) = true by rw [ha]; exact Bool.false_ne_true), if_neg (show ¬ (b == sysModules) = true by rw [hb]; exact Bool.false_ne_true)]
  refine wpAny_bind (wpAny_pure (wpAny_bind (wpAny_pure ?_)))
  refine wpAny_bind (wpAny_dictEntries hoa hda ?_)
  dsimp only
  refine wpAny_bind (wpAny_dictEntries hob hdb ?_)
  by_cases hsz : es.size = 0
  case neg =>
    rw [if_pos (by simpa [h0] using hsz)]
    have hbf : (es.size == 0) = false := by simpa using hsz
    rw [hbf] at h
    exact wpAny_bind (wpAny_rule (wpAny_pure h))
  case pos =>
    rw [hsz] at h
    rw [if_neg (by rw [hsz, h0]; simp)]
    refine wpAny_bind (wpAny_dictEpoch hoa hda ?_)
    refine wpAny_bind ?_
    rw [Std.Legacy.Range.forIn_eq_forIn_range']
    simp only [Std.Legacy.Range.size, Nat.sub_zero, Nat.add_sub_cancel, Nat.div_one]
    refine wpAny_forIn_list _ (fun rest q s' => s' = s ∧ q = (none, ()) ∧ rest = []) _ ?_ ?_ _ _ ⟨rfl, rfl, by rw [hsz]; rfl⟩
    · rintro x rest q s' ⟨_, _, hr⟩
      cases hr
    · rintro q s' ⟨rfl, rfl, _⟩
      exact wpAny_pure h
end
section
variable {X : Cx}
def rNeE : R2 := fun x y H Q => ∃ (a b : Addr) (kvs : List (List L2.Key × V)), x = .ref a ∧ y = .ref b ∧ H a = some (.dT kvs) ∧ H b = some (.dK []) ∧ Q (.bl (!decide (kvs = []))) H
theorem op_neE (hu : X.A.units + 65 < cLine) : OpR X (compareOp .NotEq) rNeE := by
  intro pins s σ H x y v u Q I rx ry h
  obtain ⟨a, b, kvs, rfl, rfl, ea, eb, q⟩ := h
  obtain rfl : v = Value.ref a := rx
  obtain rfl : u = Value.ref b := ry
  obtain ⟨z, hd, xs, rel, o, es, ep, ho, hx, hdat, hes, hxs, hnod⟩ := dt_of I.hok ea
  have raw : s.heap.DictRaw a es ep := ⟨o, ho, hx, hdat⟩
  obtain ⟨_, yb, vb, rb, db⟩ := (show ObjOk X.prog X.w H s.heap b (.dK []) from I.hok b _ eb)
  have lb : vb = [] := by
    have := rb.length
    cases vb with
    | nil => rfl
    | cons _ _ => cases this
  subst lb
  obtain ⟨ob, es2, ep2, hob, hcb, hdb, hkb, hpb, _⟩ := id db
  have raw2 : s.heap.DictRaw b es2 ep2 := ⟨ob, hob, hcb, hdb⟩
  have h0 : es2.size = 0 := by
    have := hpb.length
    rw [List.length_nil] at this
    rw [← Array.length_toList]
    exact this
  have l1 : es.size = xs.length := by rw [← Array.length_toList, hes, List.length_map]
  have l2 : kvs.length = xs.length := Paired.length rel
  refine wpAny_richCompare_same_room (op := .NotEq) raw.typeIs raw2.typeIs PySem.F.slot_dict_ne (wpAny_call_entry PySem.F.slot_dict_ne raw.typeIs PySem.F.entry_dict_ne ?_ (PySem.F.args_dict_ne_2 _ _)) (by omega)
  show wpAny _ _ (Builtin.Dict.dictSlotArgs "__ne__" ⟨[.ref a, .ref b], []⟩ >>= _) _ _ s
  refine wpAny_bind ?_
  unfold Builtin.Dict.dictSlotArgs
  refine wpAny_bind (wpAny_notOrdered_dict raw.typeIs ?_)
  show wpAny _ _ (pure (Value.ref a, Value.ref b)) _ _ s
  refine wpAny_pure ?_
  refine wpAny_bind (wpAny_isInstance (T := "dict") raw2.typeIs PySem.F.sub_dict_dict ?_)
  simp only [Bool.not_true, Bool.false_eq_true, if_false]
  refine wpAny_bind (wpAny_pure (wpAny_bind (wpAny_pure ?_)))
  refine wpAny_bind (same_empty hd yb raw raw2 h0 ?_)
  refine wpAny_pure ⟨_, rfl, ?_, ?_⟩
  · exact fun x => nomatch x
  · have e : (es.size == 0) = decide (kvs = []) := by
      rw [l1, ← l2]
      cases kvs <;> simp
    rw [e]
    exact fin_bl I q (by simp)
end
end CD

-- dictcomps
namespace CD
open PySem PySem.Spec PyProof.Rows L2
/-! ### for k, v in d.items(): d with tuples for keys -/
section
variable {X : Cx} {pins : List (Addr × Obj)} {σ : L2.St} {H : Hp} {s : Shared} {d : Addr} {o : Obj}
theorem frzT2 {kvs : List (List L2.Key × V)} (I : Inv X pins σ H s) (h : H d = some (.frz o (.dT kvs))) :
    (d == sysModules) = false ∧ s.heap.get? d = some o ∧ o.ExactDict ∧ ∃ (es : Array DictEntry) (ep : Nat), o.data = .dict es ep ∧ es.size = kvs.length ∧
      ∀ (i : Nat) (k : List L2.Key) (v : V), kvs[i]? = some (k, v) → ∃ (en : DictEntry) (q : Addr), es[i]? = some en ∧ en.key = .ref q ∧ H q = some (.tup (k.map kV)) ∧ RelV v en.val := by
  obtain ⟨hd, z, hs, xs, pr, o', es, ep, ho, hx, hdt, he, _⟩ := I.hok d _ h
  rw [hd] at ho
  cases ho
  refine ⟨hs, hd, hx, es, ep, hdt, ?_, fun i k v e => ?_⟩
  · have l1 : es.size = xs.length := size_of_entries he
    have l2 : kvs.length = xs.length := Paired.length pr
    omega
  · obtain ⟨b, hb, e1, e2, e3⟩ := paired_get pr e
    have q := entry_at he i
    rw [hb] at q
    exact ⟨_, b.2.1, q, rfl, e2, e3⟩
end
def Itit (d : Addr) (o : Obj) (kvs : List (List L2.Key × V)) : It :=
  ⟨fun i H => H d = some (.frz o (.dT kvs)) ∧ i < kvs.length, fun i H x H' => ∃ (T q : Addr) (k : List L2.Key) (v : V), kvs[i]? = some (k, v) ∧ x = .ref T ∧ H T = none ∧ H q = some (.tup (k.map kV)) ∧ H' = upd H T (.tup [.ref q, v]), fun i H => H d = some (.frz o (.dT kvs)) ∧ kvs.length ≤ i⟩
theorem walk_itemsT {d : Addr} {o : Obj} {kvs : List (List L2.Key × V)} : Walk (Itit d o kvs) kvs.length (fun H => H d = some (.frz o (.dT kvs)))
    (fun i H x H' => ∃ (T q : Addr) (k : List L2.Key) (v : V), kvs[i]? = some (k, v) ∧ x = .ref T ∧ H T = none ∧ H q = some (.tup (k.map kV)) ∧ H' = upd H T (.tup [.ref q, v])) :=
  ⟨fun _ _ hi q => ⟨q, hi⟩, fun _ q => ⟨q, Nat.le_refl _⟩, fun _ _ _ _ _ _ y => y⟩
theorem turn_itemsT {P : Program} {w : World} {K : PySem.W.Frag} {d : Addr} {o : Obj} {es : Array DictEntry} {ep : Nat} {kvs : List (List L2.Key × V)} {elts : List Expr} {kk : Nat} {tpos : Pos} (it : Addr) (hod : o.data = .dict es ep) :
    Turn P w K (.Tuple elts kk tpos) (Itit d o kvs) [it] it (fun i h => ∃ ok ov, IsItemIter h it d i kvs.length ep ok ov) where
  mem := by simp
  obj := fun i h st b hb => by
    have e : b = it := by simpa using hb
    subst e
    obtain ⟨ok, ov, e⟩ := st
    exact ⟨_, e, fun v z => nomatch z⟩
  keep := fun i h h' st k => let ⟨ok, ov, e⟩ := st; ⟨ok, ov, k it (by simp) _ e⟩
  item := by
    intro X hP hw hK hc i pins s σ H E I hf st hg
    subst hP hw hK
    obtain ⟨hd, hi⟩ := hg
    obtain ⟨hs, hgd, hx, es', ep', hdt, hsz, ent⟩ := frzT2 I hd
    obtain ⟨rfl, rfl⟩ := dict_ep hdt hod
    obtain ⟨⟨k, v⟩, hkv⟩ : ∃ p, kvs[i]? = some p := ⟨kvs[i], List.getElem?_eq_getElem hi⟩
    obtain ⟨en, q, hen, hkey, hq, rv⟩ := ent i k v hkv
    obtain ⟨ok, ov, he⟩ := st
    rw [← hsz] at he
    have hlt : it < s.heap.objs.size := Heap.lt_size he
    have raw : s.heap.DictRaw d es ep := ⟨o, hgd, hx, hod⟩
    have hi2 : i < es.size := by omega
    have een : es[i] = en := Option.some.inj ((Array.getElem?_eq_getElem hi2).symm.trans hen)
    refine wpAny_pyNext_items_item_raw he raw hi2 fun h' ho hT hz hk => ?_
    rw [een, hkey] at ho hT
    refine ⟨_, rfl, wpAny_letOwnedTupleGo_items (s := { s with heap := h' }) ho fun h'' he' sb => ?_⟩
    have hT2 : h''.get? s.heap.objs.size = some { cls := .type "tuple", data := .seq #[.ref q, en.val] } := (sb.2 _ (Nat.ne_of_gt hlt)).trans hT
    have new : ObjOk X.prog X.w (upd H s.heap.objs.size (.tup [.ref q, v])) h'' s.heap.objs.size (.tup [.ref q, v]) :=
      ⟨by show 2 ≤ sizeLine; decide, [.ref q, en.val], .cons rfl (.cons rv .nil), ⟨_, hT2, rfl, _, rfl⟩⟩
    have I1 : Inv X pins σ (upd H s.heap.objs.size (.tup [.ref q, v])) { s with heap := h'' } :=
      I.turnedNew (t' := s.toks) (ch := [it]) (fun b ob hb e => (sb.2 b (by simpa using hb)).trans (hk b ob (by simpa using hb) e)) hf (Nat.le_refl _) new
    refine ⟨.ref s.heap.objs.size, _, I1, rfl, ⟨_, q, k, v, hkv, rfl, I.hok.fresh (Nat.le_refl _), hq, rfl⟩, ⟨.ref q, en.val, ?_⟩, fun b hb => ?_⟩
    · rw [← hsz]; exact he'
    · have e : b = it := by simpa using hb
      rw [e, upd_ne (Nat.ne_of_lt hlt)]
      exact (hf it (by simp)).1
  done := by
    intro X hP hw hK hc i pins s σ H E I hf st hg
    subst hP hw hK
    obtain ⟨hd, hi⟩ := hg
    obtain ⟨f0, f1, f2, f3, f4, f5⟩ := hf it (by simp)
    obtain ⟨hs, hgd, hx, es', ep', hdt, hsz, ent⟩ := frzT2 I hd
    obtain ⟨rfl, rfl⟩ := dict_ep hdt hod
    obtain ⟨ok, ov, he⟩ := st
    rw [← hsz] at he
    have raw : s.heap.DictRaw d es ep := ⟨o, hgd, hx, hod⟩
    exact wpAny_pyNext_items_end_raw (I.ok.hd hc) he raw (by omega) fun h' eb => ⟨rfl, I.turned (t' := s.toks) (fun b ob hb e => eb b ob hb e) f0 f1 f3 f4 f5⟩
  self := fun A i s Q E st h => let ⟨_, _, e⟩ := st; PySem.W.kcp_self e h
def iItemsT (td : TE) : TI := fun σ H R => td σ H fun x H1 => ∃ d o kvs, x = .ref d ∧ H1 d = some (.frz o (.dT kvs)) ∧ R (Itit d o kvs) H1
theorem pi_itemsT {X : Cx} {e : Expr} {td : TE} {apos cpos tpos : Pos} {elts : List Expr} {kk : Nat} (he : PE X e td) (hbase : attributeBase e "items" X.env (eval e X.env) = eval e X.env := by rfl) (hline : (apos.endLine == cpos.line) = true := by rfl) :
    PI X (.Tuple elts kk tpos) (.Call (.Attribute e "items" apos) [] [] cpos) (iItemsT td) := by
  refine ⟨fun pins s σ H R I h => ?_⟩
  refine wpAny_Call_method (T := "dict") (id := "dict.items") hbase rfl hline F.plainAttrs_dict F.slot_dict_items F.type_dict_items (thn (he.run pins s σ H _ I h) fun u s1 ⟨x, H1, I1, rx, d, o, kvs, ex, hd, q⟩ => ?_)
  subst ex
  obtain rfl : u = Value.ref d := rx
  obtain ⟨hs, hgd, hx, es, ep, hdt, hsz, ent⟩ := frzT2 I1 hd
  have raw : s1.heap.DictRaw d es ep := ⟨o, hgd, hx, hdt⟩
  refine ⟨raw.typeIs, ?_, ?_⟩
  · intro a ea
    cases ea
    exact ⟨o, hgd, hx.2.1⟩
  have I2 : Inv X pins σ H1 { s1 with heap := s1.heap.push { cls := .type "dict_items", data := .fields #[.ref d] } } := I1.kept (t' := s1.toks) fun b ob q => Heap.get?_push_of_some _ q
  have fin : wpAny (model X.prog X.w) X.A (pyIter (.ref s1.heap.objs.size)) (PIE X pins σ (.Tuple elts kk tpos) R) X.xe { s1 with heap := s1.heap.push { cls := .type "dict_items", data := .fields #[.ref d] } } := by
    refine wpAny_pyIter_items_raw (d := d) ⟨_, Heap.get?_push_size _ rfl, rfl, rfl⟩ ⟨o, Heap.get?_push_of_some _ hgd, hx, hdt⟩ (pi_one (tk := s1.toks) I2 _ (turn_itemsT _ hdt) ⟨.none, .none, ?_⟩ q)
    rw [← hsz]
    exact Heap.get?_push_size _ rfl
  show wpAny _ _ (callWith cpos (.builtin "dict.items") [.ref d] [] []) _ X.xe s1
  exact method_meetsIn F.slot_dict_items F.entry_dict_items rfl (PySem.evalArgs_none ⟨rfl, raw.typeIs, F.args_dict_items_1 _, _, meets_dict_items_raw d hs, ⟨es, ep, raw⟩, fin⟩)
end CD

namespace CZ
open PySem PySem.Spec PyProof.Rows L2
open PySem.Sem (wp)
section
variable {prog : Program} {w : World} {A : Around} {E : Value → Shared → Prop} {s : Shared}
theorem next_end2u {z TI TO i1 i2 : Addr} {fp1 fp2 : List Addr} {n : Nat} {P1 : Nat → Value → Prop} {St1 : Nat → Heap → Prop} {a1 a2 : Value} {Q : Fin → Shared → Prop} (S : Sep2 z TI TO i1 i2 fp1 fp2) (D1 : Draws prog w A i1 fp1 n P1 St1)
    (hz : ZipO s.heap z TI TO .none false) (hTI : TupO s.heap TI #[.ref i1, .ref i2]) (hTO : TupO s.heap TO #[a1, a2]) (st1 : St1 n s.heap)
    (hE : ∀ h' e, (∀ c o, c ≠ z → c ≠ TO → c ≠ i1 → c ≠ i2 → s.heap.get? c = some o → h'.get? c = some o) → (∃ o, h'.get? e = some o ∧ o.cls = .type "StopIteration") → E (.ref e) { s with heap := h' }) :
    wpAny (model prog w) A (Builtin.«zip.__next__» ⟨[.ref z], []⟩) Q E s := by
  obtain ⟨hp, g, d, tk0, os⟩ := s
  refine wpAny_bind (m := field (.ref z) 2) (wpAny_field hz rfl (x := .bool false) rfl ?_)
  refine wpAny_bind (m := field (.ref z) 3) (wpAny_field hz rfl (x := .ref TI) rfl ?_)
  refine wpAny_bind (wpAny_seqItems hTI rfl ?_)
  show wpAny _ _ (Builtin.SmallTypes.ownedTupleIsFree (.ref z) >>= _) _ _ _
  rw [val_b]
  refine wpAny_bind ?_
  unfold Builtin.SmallTypes.ownedTupleIsFree
  refine wpAny_bind (wpAny_field hz rfl (x := .none) rfl (wpAny_pure ?_))
  simp only [if_true]
  refine wpAny_bind (wpAny_rule (wpAny_bind (wpAny_field hz rfl (x := .ref TO) rfl ?_)))
  refine wpAny_bind (wpAny_setField_rec hz (by simp) fun g0 hz0 hs0 => wpAny_bind ?_)
  replace hs0 : Heap.SameBut z hp g0 := hs0
  replace hz0 : ZipO g0 z TI TO .ellipsis false := hz0
  have t1_0 : St1 n g0 := D1.frame _ _ _ st1 fun c hc o e => hs0.extBut c o (fun q => S.z1 (q ▸ hc)) e
  simp only [List.zipIdx_cons, List.zipIdx_nil, List.forIn_cons, List.forIn_nil]
  refine wpAny_bind (wpAny_bind (wpAny_onRaise ?_))
  refine wpAny_bind (m := Builtin.SmallTypes.nextOf (.ref i1)) (D1.done ⟨g0, g, d, tk0, os⟩ _ _ t1_0 fun y e hy he => ?_)
  replace hy : Heap.ExtBut i1 g0 y := hy
  obtain ⟨oe, hoe, hce⟩ := he
  replace hoe : y.get? e = some oe := hoe
  have hzy : ZipO y z TI TO .ellipsis false := hy _ _ (fun q => S.z1 (q ▸ S.m1)) hz0
  have hez : e ≠ z := fun x => by subst x; rw [hzy] at hoe; cases hoe; simp at hce
  refine wpAny_setField_rec (s := ⟨y, g, d, tk0, os⟩) hzy (by simp) fun y2 _ hv => ?_
  replace hv : Heap.SameBut z y y2 := hv
  exact hE y2 e (fun c o qz qT q1 q2 x => hv.extBut c o qz (hy c o q1 (hs0.extBut c o qz x))) ⟨oe, hv.extBut _ _ hez hoe, hce⟩
theorem py_end2u {z TI TO i1 i2 : Addr} {fp1 fp2 : List Addr} {n : Nat} {P1 : Nat → Value → Prop} {St1 : Nat → Heap → Prop} {a1 a2 : Value} {Q : Option Value → Shared → Prop} (S : Sep2 z TI TO i1 i2 fp1 fp2) (D1 : Draws prog w A.in1 i1 fp1 n P1 St1)
    (hz : ZipO s.heap z TI TO .none false) (hTI : TupO s.heap TI #[.ref i1, .ref i2]) (hTO : TupO s.heap TO #[a1, a2]) (st1 : St1 n s.heap)
    (hQ : ∀ h', (∀ c o, c ≠ z → c ≠ TO → c ≠ i1 → c ≠ i2 → s.heap.get? c = some o → h'.get? c = some o) → Q none { s with heap := h' }) : wpAny (model prog w) A (pyNext (.ref z)) Q E s := by
  have hT : s.TypeIs (.ref z) "zip" := ⟨_, hz, rfl⟩
  unfold pyNext
  refine wpAny_bind (wpAny_attempt (wpAny_callSpecial?_slot (name := Str.ofString "__next__") hT F.slot_zip_next (wpAny_call_entry F.slot_zip_next hT F.entry_zip_next ?_ (F.args_zip_next_1 _))))
  refine next_end2u (A := A.in1) S D1 hz hTI hTO st1 fun h2 e kk he => ?_
  obtain ⟨o, ho, hc⟩ := he
  exact wpAny_bind (wpAny_isInstance (T := "StopIteration") (b := true) ⟨o, ho, hc⟩ isSubtype_stop (wpAny_pure (hQ _ kk)))
end
/-- zip of two, the first of which may end first -/
def ItU (K : PySem.W.Frag) (p1 p2 : Bool × Addr) : It := ⟨(ItZ K [p1, p2]).go, (ItZ K [p1, p2]).yld, fun i H => ∃ xs, SqK K H p1 xs ∧ xs.length = i⟩
theorem turn_z2u {P : Program} {w : World} {K : PySem.W.Frag} {elts : List Expr} {kk : Nat} {tpos : Pos} {z TI TO i1 i2 : Addr} {p1 p2 : Bool × Addr} (S : Sep2 z TI TO i1 i2 [i1, p1.2] [i2, p2.2]) (ne1 : p1.2 ≠ i1) (ne2 : p2.2 ≠ i2) :
    Turn P w K (.Tuple elts kk tpos) (ItU K p1 p2) [z, TI, TO, i1, i2] z (fun i h => ZipO h z TI TO .none false ∧ TupO h TI #[.ref i1, .ref i2] ∧ (∃ a1 a2, TupO h TO #[a1, a2]) ∧ SqIt h i1 p1 i ∧ SqIt h i2 p2 i) where
  mem := (turn_z2 (P := P) (w := w) (K := K) (elts := elts) (kk := kk) (tpos := tpos) (b := false) S ne1 ne2).mem
  obj := (turn_z2 (P := P) (w := w) (K := K) (elts := elts) (kk := kk) (tpos := tpos) (b := false) S ne1 ne2).obj
  keep := (turn_z2 (P := P) (w := w) (K := K) (elts := elts) (kk := kk) (tpos := tpos) (b := false) S ne1 ne2).keep
  item := (turn_z2 (P := P) (w := w) (K := K) (elts := elts) (kk := kk) (tpos := tpos) (b := false) S ne1 ne2).item
  done := by
    intro X hP hw hK hc i pins s σ H E I hf st hg
    subst hP hw hK
    obtain ⟨hz, hTI, ⟨a1, a2, hTO⟩, h1, h2⟩ := st
    obtain ⟨xs1, hq1, hx1⟩ := hg
    obtain ⟨its1, rv1, q1, _⟩ := sq_seq I hq1
    have l1 : its1.toArray.size = i := by have := rv1.length; simp; omega
    have D1 := draws_of (prog := X.prog) (w := X.w) (A := X.A.in1) (I.ok.hd hc) i1 p1 ne1 its1
    rw [l1] at D1
    exact py_end2u S D1 hz hTI hTO ⟨h1, q1⟩ fun h2 hk => ⟨rfl, I.turnedL (t' := s.toks) (ch := [z, TI, TO, i1, i2]) (fun c o hb q => hk c o (fun q => hb (by simp [q])) (fun q => hb (by simp [q])) (fun q => hb (by simp [q])) (fun q => hb (by simp [q])) q) hf⟩
  self := (turn_z2 (P := P) (w := w) (K := K) (elts := elts) (kk := kk) (tpos := tpos) (b := false) S ne1 ne2).self
/-- the reading of zip(a, b), a the shorter -/
def iU (K : PySem.W.Frag) (f1 f2 : Bool) (ta : TA) : TI := fun σ H R => ta σ H fun vs H1 => ∃ c1 c2 : Addr, vs = [V.ref c1, V.ref c2] ∧ (∃ xs, SqK K H1 (f1, c1) xs) ∧ (∃ xs, SqK K H1 (f2, c2) xs) ∧ R (ItU K (f1, c1) (f2, c2)) H1
theorem pi_z2u {X : Cx} {e1 e2 : Expr} {ta : TA} {p pos tpos : Pos} {elts : List Expr} {kk : Nat} {b1 b2 : Bool} (hg : Gl X "zip") (hm : X.mg "zip" = none) (ha : PA X [e1, e2] ta)
    (hs : starEach [e1, e2] X.env = (false, eval e1 X.env) :: starEach [e2] X.env := by rfl) (hpl : (backTo pos (starEach [e2] X.env)).any (·.1) = false := by rfl) :
    PI X (.Tuple elts kk tpos) (.Call (.Name "zip" p) [e1, e2] [] pos) (iU X.K b1 b2 ta) := by
  refine ⟨fun pins s σ H R I h => ?_⟩
  refine Call_ (ld_blt I hg hm PyProof.Rows.boot_zip (PyProof.Rows.callWith_type1 (thn (ha.run pos pins s σ H _ I h) fun us s0 ⟨vs, H1, I1, r1, q1⟩ => ?_) hs hpl))
  obtain ⟨c1, c2, ev, ⟨xs1, hq1⟩, ⟨xs2, hq2⟩, q1⟩ := q1
  subst ev
  cases r1 with
  | cons r_1 rr1 =>
    cases r_1
    cases rr1 with
    | cons r_2 rr2 =>
      cases r_2
      cases rr2
      obtain ⟨its1, rv1, g1, lt1⟩ := sq_seq I1 hq1
      obtain ⟨its2, rv2, g2, lt2⟩ := sq_seq I1 hq2
      have frs : ∀ c, c ∈ [s0.heap.objs.size + 4, s0.heap.objs.size + 2, s0.heap.objs.size + 3, s0.heap.objs.size, s0.heap.objs.size + 1] → FpOk X pins H1 c := fun c hcm => by
        have e : c = s0.heap.objs.size + 4 ∨ c = s0.heap.objs.size + 2 ∨ c = s0.heap.objs.size + 3 ∨ c = s0.heap.objs.size ∨ c = s0.heap.objs.size + 1 := by simpa using hcm
        have hle : s0.heap.objs.size ≤ c := by
          rcases e with q | q | q | q | q
          · rw [q]; exact Nat.le_add_right _ _
          · rw [q]; exact Nat.le_add_right _ _
          · rw [q]; exact Nat.le_add_right _ _
          · rw [q]; exact Nat.le_refl _
          · rw [q]; exact Nat.le_add_right _ _
        exact I1.fpOk hle (I1.hok.fresh hle)
      refine zip_begins2 (begins_of (b1, c1) its1) (begins_of (b2, c2) its2) g1 g2 fun hA hz hTI hTO y1 y2 _ kk => iter_zip (b := false) hz ?_
      have I2 : Inv X pins σ H1 { s0 with heap := hA } := I1.kept (t' := s0.toks) kk
      exact ⟨_, [s0.heap.objs.size + 4, s0.heap.objs.size + 2, s0.heap.objs.size + 3, s0.heap.objs.size, s0.heap.objs.size + 1], _, _, H1, rfl, I2, turn_z2u (sep_new2 lt1 lt2) (Nat.ne_of_lt lt1) (Nat.ne_of_lt (Nat.lt_of_lt_of_le lt2 (Nat.le_add_right _ 1))), ⟨hz, hTI, ⟨_, _, hTO⟩, SqIt.begin y1, SqIt.begin y2⟩, frs, q1⟩
theorem walk_u {K : PySem.W.Frag} {p1 p2 : Bool × Addr} {xs ys : List V} {n : Nat} (h1 : xs.length = n) (h2 : n ≤ ys.length) : Walk (ItU K p1 p2) n (fun H => Paired (fun p xs => SqK K H p xs) [p1, p2] [xs, ys]) (YRow [xs, ys]) :=
  ⟨fun i H hi q => pair_go q fun zs hz => by
      rcases List.mem_cons.mp hz with e | hz
      · rw [e, h1]; exact hi
      · rw [List.mem_singleton.mp hz]; omega,
    fun H q => by
      cases q with
      | cons r t => exact ⟨_, r, h1⟩, fun i H x H2 _ q y => by
    obtain ⟨T, vs, h1, h2, h3, h4⟩ := y
    exact ⟨T, vs, h1, h2, h3, pair_row q h4⟩⟩
end CZ

namespace CZ
open PySem PySem.Spec PyProof.Rows L2
open PySem.Sem (wp)
section
variable {prog : Program} {w : World} {A : Around} {E : Value → Shared → Prop} {s : Shared}
theorem next_end2v {z TI TO i1 i2 : Addr} {fp1 fp2 : List Addr} {n1 n : Nat} {P1 P2 : Nat → Value → Prop} {St1 St2 : Nat → Heap → Prop} {a1 a2 : Value} {Q : Fin → Shared → Prop} (S : Sep2 z TI TO i1 i2 fp1 fp2) (D1 : Draws prog w A i1 fp1 n1 P1 St1) (D2 : Draws prog w A i2 fp2 n P2 St2)
    (hz : ZipO s.heap z TI TO .none false) (hTI : TupO s.heap TI #[.ref i1, .ref i2]) (hTO : TupO s.heap TO #[a1, a2]) (st1 : St1 n s.heap) (st2 : St2 n s.heap) (hi1 : n < n1)
    (hE : ∀ h' tk e, (∀ c o, c ≠ z → c ≠ TO → c ≠ i1 → c ≠ i2 → s.heap.get? c = some o → h'.get? c = some o) → (∃ o, h'.get? e = some o ∧ o.cls = .type "StopIteration") → E (.ref e) { s with heap := h', toks := tk }) :
    wpAny (model prog w) A (Builtin.«zip.__next__» ⟨[.ref z], []⟩) Q E s := by
  obtain ⟨hp, g, d, tk0, os⟩ := s
  refine wpAny_bind (m := field (.ref z) 2) (wpAny_field hz rfl (x := .bool false) rfl ?_)
  refine wpAny_bind (m := field (.ref z) 3) (wpAny_field hz rfl (x := .ref TI) rfl ?_)
  refine wpAny_bind (wpAny_seqItems hTI rfl ?_)
  show wpAny _ _ (Builtin.SmallTypes.ownedTupleIsFree (.ref z) >>= _) _ _ _
  rw [val_b]
  refine wpAny_bind ?_
  unfold Builtin.SmallTypes.ownedTupleIsFree
  refine wpAny_bind (wpAny_field hz rfl (x := .none) rfl (wpAny_pure ?_))
  simp only [if_true]
  refine wpAny_bind (wpAny_rule (wpAny_bind (wpAny_field hz rfl (x := .ref TO) rfl ?_)))
  refine wpAny_bind (wpAny_setField_rec hz (by simp) fun g0 hz0 hs0 => wpAny_bind ?_)
  replace hs0 : Heap.SameBut z hp g0 := hs0
  replace hz0 : ZipO g0 z TI TO .ellipsis false := hz0
  have hT0 : TupO g0 TO #[a1, a2] := hs0.extBut _ _ S.zTO.symm hTO
  have t1_0 : St1 n g0 := D1.frame _ _ _ st1 fun c hc o e => hs0.extBut c o (fun q => S.z1 (q ▸ hc)) e
  have t2_0 : St2 n g0 := D2.frame _ _ _ st2 fun c hc o e => hs0.extBut c o (fun q => S.z2 (q ▸ hc)) e
  have k0 : ∀ c o, c ≠ z → c ≠ TO → c ≠ i1 → c ≠ i2 → hp.get? c = some o → g0.get? c = some o := fun c o q0 _ _ _ e => hs0.extBut c o q0 e
  simp only [List.zipIdx_cons, List.zipIdx_nil, List.forIn_cons, List.forIn_nil]
  refine wpAny_bind (wpAny_bind (wpAny_onRaise (m := zdraw false (.ref i1)) (zdraw_item (s := ⟨g0, g, d, tk0, os⟩) D1 hi1 t1_0 fun x1 d1 tk1 p1 n1 hd1 => ?_)))
  replace hd1 : Heap.SameBut i1 g0 d1 := hd1
  have hU1 : TupO d1 TO #[a1, a2] := hd1.extBut _ _ (fun q => S.T1 (q ▸ S.m1)) hT0
  refine wpAny_bind (wpAny_seqItems (s := ⟨d1, g, d, tk1, os⟩) hU1 rfl ?_)
  refine wpAny_bind (upd_tup (s := ⟨d1, g, d, tk1, os⟩) hU1 (by simp) fun g1 hT1 hs1 => ?_)
  replace hs1 : Heap.SameBut TO d1 g1 := hs1
  have hz1 : ZipO g1 z TI TO .ellipsis false := hs1.extBut _ _ S.zTO (hd1.extBut _ _ (fun q => S.z1 (q ▸ S.m1)) hz0)
  have t2_1 : St2 n g1 := D2.frame _ _ _ t2_0 fun c hc o e => hs1.extBut c o (fun q => S.T2 (q ▸ hc)) (hd1.extBut c o (fun q => S.s1_2 (q ▸ hc)) e)
  have k1 : ∀ c o, c ≠ z → c ≠ TO → c ≠ i1 → c ≠ i2 → hp.get? c = some o → g1.get? c = some o := fun c o qz qT q1 q2 e => hs1.extBut c o qT (hd1.extBut c o q1 (k0 c o qz qT q1 q2 e))
  refine wpAny_bind (wpAny_letGo (wpAny_pure ?_))
  refine wpAny_bind (wpAny_bind (wpAny_onRaise ?_))
  refine wpAny_bind (m := Builtin.SmallTypes.nextOf (.ref i2)) (D2.done ⟨g1, g, d, tk1, os⟩ _ _ t2_1 fun y e hy he => ?_)
  replace hy : Heap.ExtBut i2 g1 y := hy
  obtain ⟨oe, hoe, hce⟩ := he
  replace hoe : y.get? e = some oe := hoe
  have hzy : ZipO y z TI TO .ellipsis false := hy _ _ (fun q => S.z2 (q ▸ S.m2)) hz1
  have hez : e ≠ z := fun x => by subst x; rw [hzy] at hoe; cases hoe; simp at hce
  refine wpAny_setField_rec (s := ⟨y, g, d, tk1, os⟩) hzy (by simp) fun y2 _ hv => ?_
  replace hv : Heap.SameBut z y y2 := hv
  exact hE y2 tk1 e (fun c o qz qT q1 q2 x => hv.extBut c o qz (hy c o q2 (k1 c o qz qT q1 q2 x))) ⟨oe, hv.extBut _ _ hez hoe, hce⟩
theorem py_end2v {z TI TO i1 i2 : Addr} {fp1 fp2 : List Addr} {n1 n : Nat} {P1 P2 : Nat → Value → Prop} {St1 St2 : Nat → Heap → Prop} {a1 a2 : Value} {Q : Option Value → Shared → Prop} (S : Sep2 z TI TO i1 i2 fp1 fp2) (D1 : Draws prog w A.in1 i1 fp1 n1 P1 St1) (D2 : Draws prog w A.in1 i2 fp2 n P2 St2)
    (hz : ZipO s.heap z TI TO .none false) (hTI : TupO s.heap TI #[.ref i1, .ref i2]) (hTO : TupO s.heap TO #[a1, a2]) (st1 : St1 n s.heap) (st2 : St2 n s.heap) (hi1 : n < n1)
    (hQ : ∀ h' tk, (∀ c o, c ≠ z → c ≠ TO → c ≠ i1 → c ≠ i2 → s.heap.get? c = some o → h'.get? c = some o) → Q none { s with heap := h', toks := tk }) : wpAny (model prog w) A (pyNext (.ref z)) Q E s := by
  have hT : s.TypeIs (.ref z) "zip" := ⟨_, hz, rfl⟩
  unfold pyNext
  refine wpAny_bind (wpAny_attempt (wpAny_callSpecial?_slot (name := Str.ofString "__next__") hT F.slot_zip_next (wpAny_call_entry F.slot_zip_next hT F.entry_zip_next ?_ (F.args_zip_next_1 _))))
  refine next_end2v (A := A.in1) S D1 D2 hz hTI hTO st1 st2 hi1 fun h2 tk e kk he => ?_
  obtain ⟨o, ho, hc⟩ := he
  exact wpAny_bind (wpAny_isInstance (T := "StopIteration") (b := true) ⟨o, ho, hc⟩ isSubtype_stop (wpAny_pure (hQ _ _ kk)))
end
/-- zip of two of any lengths -/
def ItM (K : PySem.W.Frag) (p1 p2 : Bool × Addr) : It := ⟨(ItZ K [p1, p2]).go, (ItZ K [p1, p2]).yld, fun i H => (∃ xs, SqK K H p1 xs ∧ xs.length = i) ∨ ∃ xs ys, SqK K H p1 xs ∧ SqK K H p2 ys ∧ i < xs.length ∧ ys.length = i⟩
theorem turn_z2m {P : Program} {w : World} {K : PySem.W.Frag} {elts : List Expr} {kk : Nat} {tpos : Pos} {z TI TO i1 i2 : Addr} {p1 p2 : Bool × Addr} (S : Sep2 z TI TO i1 i2 [i1, p1.2] [i2, p2.2]) (ne1 : p1.2 ≠ i1) (ne2 : p2.2 ≠ i2) :
    Turn P w K (.Tuple elts kk tpos) (ItM K p1 p2) [z, TI, TO, i1, i2] z (fun i h => ZipO h z TI TO .none false ∧ TupO h TI #[.ref i1, .ref i2] ∧ (∃ a1 a2, TupO h TO #[a1, a2]) ∧ SqIt h i1 p1 i ∧ SqIt h i2 p2 i) where
  mem := (turn_z2 (P := P) (w := w) (K := K) (elts := elts) (kk := kk) (tpos := tpos) (b := false) S ne1 ne2).mem
  obj := (turn_z2 (P := P) (w := w) (K := K) (elts := elts) (kk := kk) (tpos := tpos) (b := false) S ne1 ne2).obj
  keep := (turn_z2 (P := P) (w := w) (K := K) (elts := elts) (kk := kk) (tpos := tpos) (b := false) S ne1 ne2).keep
  item := (turn_z2 (P := P) (w := w) (K := K) (elts := elts) (kk := kk) (tpos := tpos) (b := false) S ne1 ne2).item
  done := by
    intro X hP hw hK hc i pins s σ H E I hf st hg
    subst hP hw hK
    rcases hg with ⟨xs1, hq1, hx1⟩ | ⟨xs1, xs2, hq1, hq2, hx1, hx2⟩
    · exact (turn_z2u (P := X.prog) (w := X.w) (K := X.K) (elts := elts) (kk := kk) (tpos := tpos) S ne1 ne2).done X rfl rfl rfl hc i pins s σ H E I hf st ⟨xs1, hq1, hx1⟩
    · obtain ⟨hz, hTI, ⟨a1, a2, hTO⟩, h1, h2⟩ := st
      obtain ⟨its1, rv1, q1, _⟩ := sq_seq I hq1
      obtain ⟨its2, rv2, q2, _⟩ := sq_seq I hq2
      have l1 : i < its1.toArray.size := by have := rv1.length; simp; omega
      have l2 : its2.toArray.size = i := by have := rv2.length; simp; omega
      have D1 := draws_of (prog := X.prog) (w := X.w) (A := X.A.in1) (I.ok.hd hc) i1 p1 ne1 its1
      have D2 := draws_of (prog := X.prog) (w := X.w) (A := X.A.in1) (I.ok.hd hc) i2 p2 ne2 its2
      rw [l2] at D2
      exact py_end2v S D1 D2 hz hTI hTO ⟨h1, q1⟩ ⟨h2, q2⟩ l1 fun h2 tk hk => ⟨rfl, I.turnedL (t' := tk) (ch := [z, TI, TO, i1, i2]) (fun c o hb q => hk c o (fun q => hb (by simp [q])) (fun q => hb (by simp [q])) (fun q => hb (by simp [q])) (fun q => hb (by simp [q])) q) hf⟩
  self := (turn_z2 (P := P) (w := w) (K := K) (elts := elts) (kk := kk) (tpos := tpos) (b := false) S ne1 ne2).self
/-- the reading of zip(a, b), lists of any lengths -/
def iM (K : PySem.W.Frag) (f1 f2 : Bool) (ta : TA) : TI := fun σ H R => ta σ H fun vs H1 => ∃ c1 c2 : Addr, vs = [V.ref c1, V.ref c2] ∧ (∃ xs, SqK K H1 (f1, c1) xs) ∧ (∃ xs, SqK K H1 (f2, c2) xs) ∧ R (ItM K (f1, c1) (f2, c2)) H1
theorem pi_z2m {X : Cx} {e1 e2 : Expr} {ta : TA} {p pos tpos : Pos} {elts : List Expr} {kk : Nat} {b1 b2 : Bool} (hg : Gl X "zip") (hm : X.mg "zip" = none) (ha : PA X [e1, e2] ta)
    (hs : starEach [e1, e2] X.env = (false, eval e1 X.env) :: starEach [e2] X.env := by rfl) (hpl : (backTo pos (starEach [e2] X.env)).any (·.1) = false := by rfl) :
    PI X (.Tuple elts kk tpos) (.Call (.Name "zip" p) [e1, e2] [] pos) (iM X.K b1 b2 ta) := by
  refine ⟨fun pins s σ H R I h => ?_⟩
  refine Call_ (ld_blt I hg hm PyProof.Rows.boot_zip (PyProof.Rows.callWith_type1 (thn (ha.run pos pins s σ H _ I h) fun us s0 ⟨vs, H1, I1, r1, q1⟩ => ?_) hs hpl))
  obtain ⟨c1, c2, ev, ⟨xs1, hq1⟩, ⟨xs2, hq2⟩, q1⟩ := q1
  subst ev
  cases r1 with
  | cons r_1 rr1 =>
    cases r_1
    cases rr1 with
    | cons r_2 rr2 =>
      cases r_2
      cases rr2
      obtain ⟨its1, rv1, g1, lt1⟩ := sq_seq I1 hq1
      obtain ⟨its2, rv2, g2, lt2⟩ := sq_seq I1 hq2
      have frs : ∀ c, c ∈ [s0.heap.objs.size + 4, s0.heap.objs.size + 2, s0.heap.objs.size + 3, s0.heap.objs.size, s0.heap.objs.size + 1] → FpOk X pins H1 c := fun c hcm => by
        have e : c = s0.heap.objs.size + 4 ∨ c = s0.heap.objs.size + 2 ∨ c = s0.heap.objs.size + 3 ∨ c = s0.heap.objs.size ∨ c = s0.heap.objs.size + 1 := by simpa using hcm
        have hle : s0.heap.objs.size ≤ c := by
          rcases e with q | q | q | q | q
          · rw [q]; exact Nat.le_add_right _ _
          · rw [q]; exact Nat.le_add_right _ _
          · rw [q]; exact Nat.le_add_right _ _
          · rw [q]; exact Nat.le_refl _
          · rw [q]; exact Nat.le_add_right _ _
        exact I1.fpOk hle (I1.hok.fresh hle)
      refine zip_begins2 (begins_of (b1, c1) its1) (begins_of (b2, c2) its2) g1 g2 fun hA hz hTI hTO y1 y2 _ kk => iter_zip (b := false) hz ?_
      have I2 : Inv X pins σ H1 { s0 with heap := hA } := I1.kept (t' := s0.toks) kk
      exact ⟨_, [s0.heap.objs.size + 4, s0.heap.objs.size + 2, s0.heap.objs.size + 3, s0.heap.objs.size, s0.heap.objs.size + 1], _, _, H1, rfl, I2, turn_z2m (sep_new2 lt1 lt2) (Nat.ne_of_lt lt1) (Nat.ne_of_lt (Nat.lt_of_lt_of_le lt2 (Nat.le_add_right _ 1))), ⟨hz, hTI, ⟨_, _, hTO⟩, SqIt.begin y1, SqIt.begin y2⟩, frs, q1⟩
theorem walk_m {K : PySem.W.Frag} {p1 p2 : Bool × Addr} {xs ys : List V} {n : Nat} (hn : n = min xs.length ys.length) : Walk (ItM K p1 p2) n (fun H => Paired (fun p xs => SqK K H p xs) [p1, p2] [xs, ys]) (YRow [xs, ys]) :=
  ⟨fun i H hi q => pair_go q fun zs hz => by
      rcases List.mem_cons.mp hz with e | hz
      · rw [e]; omega
      · rw [List.mem_singleton.mp hz]; omega,
    fun H q => by
      cases q with
      | cons r t =>
        cases t with
        | cons r2 t2 =>
          by_cases c : xs.length = n
          · exact .inl ⟨_, r, c⟩
          · exact .inr ⟨_, _, r, r2, by omega, by omega⟩, fun i H x H2 _ q y => by
    obtain ⟨T, vs, h1, h2, h3, h4⟩ := y
    exact ⟨T, vs, h1, h2, h3, pair_row q h4⟩⟩
/-! ### xs[::2], xs[1::2] -/
def evs {α : Type} : List α → List α
  | [] => []
  | [a] => [a]
  | a :: _ :: r => a :: evs r
def ods {α : Type} (xs : List α) : List α := evs xs.tail
theorem evs_map {α β : Type} (f : α → β) : ∀ xs : List α, evs (xs.map f) = (evs xs).map f
  | [] => rfl
  | [_] => rfl
  | a :: b :: r => by
    rw [List.map_cons, List.map_cons]
    show f a :: evs (r.map f) = _
    rw [evs_map f r]
    rfl
theorem evs_len {α : Type} : ∀ xs : List α, (evs xs).length = (xs.length + 1) / 2
  | [] => by simp [evs]
  | [_] => by simp [evs]
  | _ :: _ :: r => by
    show (evs r).length + 1 = _
    rw [evs_len r]
    show (r.length + 1) / 2 + 1 = (r.length + 1 + 1 + 1) / 2
    omega
theorem evs_paired {α β : Type} {R : α → β → Prop} : ∀ {xs : List α} {ys : List β}, Paired R xs ys → Paired R (evs xs) (evs ys)
  | _, _, .nil => .nil
  | _, _, .cons h .nil => .cons h .nil
  | _, _, .cons h (.cons _ t) => .cons h (evs_paired t)
theorem ods_paired {α β : Type} {R : α → β → Prop} {xs : List α} {ys : List β} (h : Paired R xs ys) : Paired R (ods xs) (ods ys) := by
  cases h with
  | nil => exact .nil
  | cons h t => exact evs_paired t
theorem evs_at {α : Type} : ∀ (xs : List α) (k : Nat), (evs xs)[k]? = xs[2 * k]?
  | [], k => by simp [evs]
  | [a], 0 => rfl
  | [a], k + 1 => by
    show (evs [a])[k + 1]? = _
    simp [evs, show 2 * (k + 1) = 2 * k + 1 + 1 by omega]
  | a :: b :: r, 0 => rfl
  | a :: b :: r, k + 1 => by
    show (a :: evs r)[k + 1]? = _
    rw [List.getElem?_cons_succ, evs_at r k, show 2 * (k + 1) = 2 * k + 1 + 1 by omega, List.getElem?_cons_succ, List.getElem?_cons_succ]
theorem ods_at {α : Type} (xs : List α) (k : Nat) : (ods xs)[k]? = xs[2 * k + 1]? := by
  unfold ods
  rw [evs_at]
  cases xs with
  | nil => simp
  | cons a r => rw [List.tail_cons, List.getElem?_cons_succ]
theorem ods_len {α : Type} (xs : List α) : (ods xs).length = xs.length / 2 := by
  unfold ods
  rw [evs_len, List.length_tail]
  cases xs with
  | nil => simp
  | cons a r =>
    show (r.length + 1 - 1 + 1) / 2 = (r.length + 1) / 2
    omega
theorem fm_congr {α β : Type} {f g : α → Option β} : ∀ {l : List α}, (∀ k ∈ l, f k = g k) → l.filterMap f = l.filterMap g
  | [], _ => rfl
  | a :: l, h => by
    rw [List.filterMap_cons, List.filterMap_cons, h a List.mem_cons_self, fm_congr fun k hk => h k (List.mem_cons_of_mem _ hk)]
theorem pick_list {ys : List Value} {f : Nat → Option Value} {n : Nat} (hn : n = ys.length) (h : ∀ k, k < n → f k = ys[k]?) : ((List.range n).filterMap f).toArray = ys.toArray := by
  have e : (List.range n).filterMap f = (List.range ys.toArray.size).filterMap (ys.toArray[·]?) := by
    rw [List.size_toArray, ← hn]
    refine fm_congr fun k hk => ?_
    rw [h k (List.mem_range.mp hk), List.getElem?_toArray]
  rw [e, PySem.W.krv_all]
theorem pick_evs (items : Array Value) : slicePick items none none (some 2) = (evs items.toList).toArray := by
  unfold slicePick
  have eb : sliceBounds none none (some 2) items.size = (0, (items.size : Int), 2) := by simp [sliceBounds]
  rw [eb]
  show ((sliceRange 0 (items.size : Int) 2).filterMap (items[·]?)).toArray = _
  have er : sliceRange 0 (items.size : Int) 2 = (List.range ((items.size + 1) / 2)).map fun k => 2 * k := by
    unfold sliceRange
    by_cases h : (0 : Int) < (items.size : Int)
    · have e : (((items.size : Int) - 0 + 2 - 1) / 2).toNat = (items.size + 1) / 2 := by omega
      simp only [show (2 : Int) > 0 by decide, if_true, h, e]
      refine List.map_congr_left fun k _ => ?_
      omega
    · have e : items.size = 0 := by omega
      rw [e]
      rfl
  rw [er, List.filterMap_map]
  refine pick_list (by rw [evs_len, Array.length_toList]) fun k _ => ?_
  rw [evs_at]
  simp
theorem pick_ods (items : Array Value) : slicePick items (some 1) none (some 2) = (ods items.toList).toArray := by
  unfold slicePick
  by_cases z : items.size = 0
  · have eb : sliceBounds (some 1) none (some 2) items.size = (0, (items.size : Int), 2) := by
      simp [sliceBounds, z]
      decide
    rw [eb, z]
    have e2 : items.toList = [] := List.length_eq_zero_iff.mp (by rw [Array.length_toList, z])
    rw [e2]
    rfl
  have eb : sliceBounds (some 1) none (some 2) items.size = (1, (items.size : Int), 2) := by
    simp [sliceBounds]
    omega
  rw [eb]
  show ((sliceRange 1 (items.size : Int) 2).filterMap (items[·]?)).toArray = _
  have er : sliceRange 1 (items.size : Int) 2 = (List.range (items.size / 2)).map fun k => 2 * k + 1 := by
    unfold sliceRange
    by_cases h : (1 : Int) < (items.size : Int)
    · have e : (((items.size : Int) - 1 + 2 - 1) / 2).toNat = items.size / 2 := by omega
      simp only [show (2 : Int) > 0 by decide, if_true, h, e]
      refine List.map_congr_left fun k _ => ?_
      omega
    · have e : items.size = 1 := by omega
      rw [e]
      rfl
  rw [er, List.filterMap_map]
  refine pick_list (by rw [ods_len, Array.length_toList]) fun k _ => ?_
  rw [ods_at]
  simp
/-- xs[::2] and xs[1::2] -/
def tEvs (K : PySem.W.Frag) (te : TE) : TE := fun σ H Q => te σ H fun x H1 => ∃ a xs, x = .ref a ∧ SqL K H1 a xs ∧ ∀ p, H1 p = none → Q (.ref p) (upd H1 p (.lst (evs xs)))
def tOds (K : PySem.W.Frag) (te : TE) : TE := fun σ H Q => te σ H fun x H1 => ∃ a xs, x = .ref a ∧ SqL K H1 a xs ∧ ∀ p, H1 p = none → Q (.ref p) (upd H1 p (.lst (ods xs)))
section
variable {X : Cx}
theorem pe_evs {e : Expr} {te : TE} {k : Nat} {p1 p3 pos : Pos} (he : PE X e te) : PE X (.Subscript e (.Slice none none (some (.Constant (.int 2) k p1)) p3) pos) (tEvs X.K te) := by
  refine ⟨fun pins s σ H Q I h => ?_⟩
  refine Subscript_ (thn (he.run pins s σ H _ I h) fun v s1 ⟨x, H1, I1, r1, q1⟩ => ?_)
  obtain ⟨a, xs, ex, hx, q⟩ := q1
  subst ex
  cases r1
  have hst : PO X (some (.Constant (.int 2) k p1)) (tPart (tC (.int 2))) := po_some pe_int
  refine wpAny_Slice (thn (po_none.run pins s1 σ H1 (fun o H2 => o = none ∧ H2 = H1) I1 ⟨rfl, rfl⟩) fun vl s2 ⟨l, H2, I2, pl, el, e2⟩ => ?_)
  subst el e2
  refine thn (po_none.run pins s2 σ H2 (fun o H3 => o = none ∧ H3 = H2) I2 ⟨rfl, rfl⟩) fun vu s3 ⟨u, H3, I3, pu, eu, e3⟩ => ?_
  subst eu e3
  refine thn (hst.run pins s3 σ H3 (fun o H4 => o = some 2 ∧ H4 = H3) I3 ⟨2, rfl, rfl, rfl⟩) fun vs s4 ⟨o, H4, I4, ps, eo, e4⟩ => ?_
  subst eo e4
  have I5 : Inv X pins σ H4 { s4 with heap := s4.heap.push { cls := .type "slice", data := .fields #[vl, vu, vs] } } := I4.kept (t' := s4.toks) fun b ob q => Heap.get?_push_of_some _ q
  obtain ⟨its, r, ht, hz⟩ := I5.list hx
  have hlen := r.length
  show wpAny (model X.prog X.w) X.A (subscriptTail e (.Slice none none (some (.Constant (.int 2) k p1)) p3) (.ref a) (.ref s4.heap.objs.size)) (EP X pins σ Q) X.xe { s4 with heap := s4.heap.push { cls := .type "slice", data := .fields #[vl, vu, vs] } }
  refine tail_any (ops := [.ref a, .ref s4.heap.objs.size]) ht.isList.typeIs (PySem.slot_list_getitem.lookup) ?_ (by with_unfolding_all rfl)
  refine wpAny_getItem_list_slice ht.isList (Heap.IsSliceOf.new _ vl vu vs) pl pu ps (by decide) ?_ (by rw [List.size_toArray]; omega)
  rw [pick_evs]
  refine ⟨.ref _, _, I5.laid (t' := s4.toks) (o := .lst (evs xs)) (fun b ob q => Heap.get?_push_of_some _ q) (Nat.le_refl _) ?_, rfl, q _ (I5.hok.fresh (Nat.le_refl _))⟩
  exact ⟨by rw [evs_len]; omega, _, 0, evs_paired r, Heap.get?_push_size _ rfl⟩
theorem pe_ods {e : Expr} {te : TE} {k k1 : Nat} {p0 p1 p3 pos : Pos} (he : PE X e te) : PE X (.Subscript e (.Slice (some (.Constant (.int 1) k1 p0)) none (some (.Constant (.int 2) k p1)) p3) pos) (tOds X.K te) := by
  refine ⟨fun pins s σ H Q I h => ?_⟩
  refine Subscript_ (thn (he.run pins s σ H _ I h) fun v s1 ⟨x, H1, I1, r1, q1⟩ => ?_)
  obtain ⟨a, xs, ex, hx, q⟩ := q1
  subst ex
  cases r1
  have hst : PO X (some (.Constant (.int 2) k p1)) (tPart (tC (.int 2))) := po_some pe_int
  have hlo : PO X (some (.Constant (.int 1) k1 p0)) (tPart (tC (.int 1))) := po_some pe_int
  refine wpAny_Slice (thn (hlo.run pins s1 σ H1 (fun o H2 => o = some 1 ∧ H2 = H1) I1 ⟨1, rfl, rfl, rfl⟩) fun vl s2 ⟨l, H2, I2, pl, el, e2⟩ => ?_)
  subst el e2
  refine thn (po_none.run pins s2 σ H2 (fun o H3 => o = none ∧ H3 = H2) I2 ⟨rfl, rfl⟩) fun vu s3 ⟨u, H3, I3, pu, eu, e3⟩ => ?_
  subst eu e3
  refine thn (hst.run pins s3 σ H3 (fun o H4 => o = some 2 ∧ H4 = H3) I3 ⟨2, rfl, rfl, rfl⟩) fun vs s4 ⟨o, H4, I4, ps, eo, e4⟩ => ?_
  subst eo e4
  have I5 : Inv X pins σ H4 { s4 with heap := s4.heap.push { cls := .type "slice", data := .fields #[vl, vu, vs] } } := I4.kept (t' := s4.toks) fun b ob q => Heap.get?_push_of_some _ q
  obtain ⟨its, r, ht, hz⟩ := I5.list hx
  have hlen := r.length
  show wpAny (model X.prog X.w) X.A (subscriptTail e (.Slice (some (.Constant (.int 1) k1 p0)) none (some (.Constant (.int 2) k p1)) p3) (.ref a) (.ref s4.heap.objs.size)) (EP X pins σ Q) X.xe { s4 with heap := s4.heap.push { cls := .type "slice", data := .fields #[vl, vu, vs] } }
  refine tail_any (ops := [.ref a, .ref s4.heap.objs.size]) ht.isList.typeIs (PySem.slot_list_getitem.lookup) ?_ (by with_unfolding_all rfl)
  refine wpAny_getItem_list_slice ht.isList (Heap.IsSliceOf.new _ vl vu vs) pl pu ps (by decide) ?_ (by rw [List.size_toArray]; omega)
  rw [pick_ods]
  refine ⟨.ref _, _, I5.laid (t' := s4.toks) (o := .lst (ods xs)) (fun b ob q => Heap.get?_push_of_some _ q) (Nat.le_refl _) ?_, rfl, q _ (I5.hok.fresh (Nat.le_refl _))⟩
  exact ⟨by rw [ods_len]; omega, _, 0, ods_paired r, Heap.get?_push_size _ rfl⟩
end
end CZ

namespace CS
open PySem PySem.Spec PyProof.Rows L2
def top (i : Nat) : Stmt := PySem.Challenge.pw_calledseats_k46_whole_responders_with_wi.main.body.getD i (.Pass ⟨0, 0, 0, 0⟩)
abbrev s_wall : Stmt := top 0
abbrev N_wall : List Str := ["k"]
theorem sc_wall : FnScope N_wall ["k"] (defScope s_wall) := ⟨rfl, rfl, rfl, by decide +kernel, rfl, by decide +kernel, by decide +kernel⟩
abbrev s_is_integer : Stmt := top 12
abbrev N_is_integer : List Str := ["value"]
theorem sc_is_integer : FnScope N_is_integer ["value"] (defScope s_is_integer) := ⟨rfl, rfl, rfl, by decide +kernel, rfl, by decide +kernel, by decide +kernel⟩
abbrev s_is_at_least : Stmt := top 13
abbrev N_is_at_least : List Str := ["value", "low"]
theorem sc_is_at_least : FnScope N_is_at_least ["value", "low"] (defScope s_is_at_least) := ⟨rfl, rfl, rfl, by decide +kernel, rfl, by decide +kernel, by decide +kernel⟩
abbrev s_is_between : Stmt := top 14
abbrev N_is_between : List Str := ["value", "low", "high"]
theorem sc_is_between : FnScope N_is_between ["value", "low", "high"] (defScope s_is_between) := ⟨rfl, rfl, rfl, by decide +kernel, rfl, by decide +kernel, by decide +kernel⟩
abbrev s_greatest_common_divisor : Stmt := top 15
abbrev N_greatest_common_divisor : List Str := ["first", "second"]
theorem sc_greatest_common_divisor : FnScope N_greatest_common_divisor ["first", "second"] (defScope s_greatest_common_divisor) := ⟨rfl, rfl, rfl, by decide +kernel, rfl, by decide +kernel, by decide +kernel⟩
abbrev s_odd_part : Stmt := top 16
abbrev N_odd_part : List Str := ["number"]
theorem sc_odd_part : FnScope N_odd_part ["number"] (defScope s_odd_part) := ⟨rfl, rfl, rfl, by decide +kernel, rfl, by decide +kernel, by decide +kernel⟩
abbrev s_Table_init : Stmt := inClass (top 20) 0
abbrev N_Table_init : List Str := ["self", "rings", "size"]
theorem sc_Table_init : FnScope N_Table_init ["self", "rings"] (defScope s_Table_init) := ⟨rfl, rfl, rfl, by decide +kernel, rfl, by decide +kernel, by decide +kernel⟩
abbrev s_Table_sizes : Stmt := inClass (top 20) 1
abbrev N_Table_sizes : List Str := ["self"]
theorem sc_Table_sizes : FnScope N_Table_sizes ["self"] (defScope s_Table_sizes) := ⟨rfl, rfl, rfl, by decide +kernel, rfl, by decide +kernel, by decide +kernel⟩
abbrev s_Table_count : Stmt := inClass (top 20) 2
abbrev N_Table_count : List Str := ["self", "product", "size"]
theorem sc_Table_count : FnScope N_Table_count ["self"] (defScope s_Table_count) := ⟨rfl, rfl, rfl, by decide +kernel, rfl, by decide +kernel, by decide +kernel⟩
abbrev s_Table_is_seat : Stmt := inClass (top 20) 3
abbrev N_Table_is_seat : List Str := ["self", "value", "place", "size"]
theorem sc_Table_is_seat : FnScope N_Table_is_seat ["self", "value"] (defScope s_Table_is_seat) := ⟨rfl, rfl, rfl, by decide +kernel, rfl, by decide +kernel, by decide +kernel⟩
abbrev s_Table_is_call : Stmt := inClass (top 20) 4
abbrev N_Table_is_call : List Str := ["self", "value", "one"]
theorem sc_Table_is_call : FnScope N_Table_is_call ["self", "value"] (defScope s_Table_is_call) := ⟨rfl, rfl, rfl, by decide +kernel, rfl, by decide +kernel, by decide +kernel⟩
abbrev s_Table_shifted : Stmt := inClass (top 20) 5
abbrev N_Table_shifted : List Str := ["self", "seat", "call", "factor", "place", "one", "size"]
theorem sc_Table_shifted : FnScope N_Table_shifted ["self", "seat", "call", "factor"] (defScope s_Table_shifted) := ⟨rfl, rfl, rfl, by decide +kernel, rfl, by decide +kernel, by decide +kernel⟩
abbrev s_Table_moves : Stmt := inClass (top 20) 6
abbrev N_Table_moves : List Str := ["self", "seat", "call"]
theorem sc_Table_moves : FnScope N_Table_moves ["self", "seat", "call"] (defScope s_Table_moves) := ⟨rfl, rfl, rfl, by decide +kernel, rfl, by decide +kernel, by decide +kernel⟩
abbrev s_Table_step : Stmt := inClass (top 20) 7
abbrev N_Table_step : List Str := ["self", "seat", "call", "direction", "both_seats"]
theorem sc_Table_step : FnScope N_Table_step ["self", "seat", "call", "direction"] (defScope s_Table_step) := ⟨rfl, rfl, rfl, by decide +kernel, rfl, by decide +kernel, by decide +kernel⟩
abbrev s_Table_order : Stmt := inClass (top 20) 8
abbrev N_Table_order : List Str := ["self", "seat", "least", "place", "size", "period"]
theorem sc_Table_order : FnScope N_Table_order ["self", "seat"] (defScope s_Table_order) := ⟨rfl, rfl, rfl, by decide +kernel, rfl, by decide +kernel, by decide +kernel⟩
abbrev s_Table_halves : Stmt := inClass (top 20) 9
abbrev N_Table_halves : List Str := ["self", "seat"]
theorem sc_Table_halves : FnScope N_Table_halves ["self", "seat"] (defScope s_Table_halves) := ⟨rfl, rfl, rfl, by decide +kernel, rfl, by decide +kernel, by decide +kernel⟩
abbrev s_is_direction : Stmt := top 21
abbrev N_is_direction : List Str := ["value"]
theorem sc_is_direction : FnScope N_is_direction ["value"] (defScope s_is_direction) := ⟨rfl, rfl, rfl, by decide +kernel, rfl, by decide +kernel, by decide +kernel⟩
abbrev s_require_table : Stmt := top 22
abbrev N_require_table : List Str := ["table"]
theorem sc_require_table : FnScope N_require_table ["table"] (defScope s_require_table) := ⟨rfl, rfl, rfl, by decide +kernel, rfl, by decide +kernel, by decide +kernel⟩
abbrev s_require_seat : Stmt := top 23
abbrev N_require_seat : List Str := ["table", "seat"]
theorem sc_require_seat : FnScope N_require_seat ["table", "seat"] (defScope s_require_seat) := ⟨rfl, rfl, rfl, by decide +kernel, rfl, by decide +kernel, by decide +kernel⟩
abbrev s_require_call : Stmt := top 24
abbrev N_require_call : List Str := ["table", "call"]
theorem sc_require_call : FnScope N_require_call ["table", "call"] (defScope s_require_call) := ⟨rfl, rfl, rfl, by decide +kernel, rfl, by decide +kernel, by decide +kernel⟩
abbrev s_require_targets : Stmt := top 25
abbrev N_require_targets : List Str := ["table", "targets", "seen", "index", "seat"]
theorem sc_require_targets : FnScope N_require_targets ["table", "targets"] (defScope s_require_targets) := ⟨rfl, rfl, rfl, by decide +kernel, rfl, by decide +kernel, by decide +kernel⟩
abbrev s_require_small : Stmt := top 26
abbrev N_require_small : List Str := ["table"]
theorem sc_require_small : FnScope N_require_small ["table"] (defScope s_require_small) := ⟨rfl, rfl, rfl, by decide +kernel, rfl, by decide +kernel, by decide +kernel⟩
abbrev s_all_seats : Stmt := top 27
abbrev N_all_seats : List Str := ["table", "found", "size", "start", "place"]
theorem sc_all_seats : FnScope N_all_seats ["table"] (defScope s_all_seats) := ⟨rfl, rfl, rfl, by decide +kernel, rfl, by decide +kernel, by decide +kernel⟩
abbrev s_mirror_seat : Stmt := top 29
abbrev N_mirror_seat : List Str := ["table", "seat", "other", "place", "one", "size"]
theorem sc_mirror_seat : FnScope N_mirror_seat ["table", "seat", "other"] (defScope s_mirror_seat) := ⟨rfl, rfl, rfl, by decide +kernel, rfl, by decide +kernel, by decide +kernel⟩
abbrev s_call_counts : Stmt := top 30
abbrev N_call_counts : List Str := ["table", "targets", "found", "missing", "newest", "depth", "target", "seat", "one"]
theorem sc_call_counts : FnScope N_call_counts ["table", "targets"] (defScope s_call_counts) := ⟨rfl, rfl, rfl, by decide +kernel, rfl, by decide +kernel, by decide +kernel⟩
abbrev s_combined : Stmt := top 32
abbrev N_combined : List Str := ["first", "second", "column", "factor", "one", "other"]
theorem sc_combined : FnScope N_combined ["first", "second", "column"] (defScope s_combined) := ⟨rfl, rfl, rfl, by decide +kernel, rfl, by decide +kernel, by decide +kernel⟩
abbrev s_reduced : Stmt := top 33
abbrev N_reduced : List Str := ["row", "column", "odds", "one", "odd"]
theorem sc_reduced : FnScope N_reduced ["row", "column", "odds"] (defScope s_reduced) := ⟨rfl, rfl, rfl, by decide +kernel, rfl, by decide +kernel, by decide +kernel⟩
abbrev s_shift_basis : Stmt := top 34
abbrev N_shift_basis : List Str := ["sizes", "targets", "odds", "rows", "basis", "column", "odd", "pivot", "others", "row", "rest", "size", "seat", "one", "other", "index"]
theorem sc_shift_basis : FnScope N_shift_basis ["sizes", "targets"] (defScope s_shift_basis) := ⟨rfl, rfl, rfl, by decide +kernel, rfl, by decide +kernel, by decide +kernel⟩
abbrev s_diagonal_product : Stmt := top 35
abbrev N_diagonal_product : List Str := ["basis", "product", "index", "row"]
theorem sc_diagonal_product : FnScope N_diagonal_product ["basis"] (defScope s_diagonal_product) := ⟨rfl, rfl, rfl, by decide +kernel, rfl, by decide +kernel, by decide +kernel⟩
abbrev s_coordinates : Stmt := top 36
abbrev N_coordinates : List Str := ["basis", "vector", "found", "index", "row", "factor", "one", "other"]
theorem sc_coordinates : FnScope N_coordinates ["basis", "vector"] (defScope s_coordinates) := ⟨rfl, rfl, rfl, by decide +kernel, rfl, by decide +kernel, by decide +kernel⟩
abbrev s_is_free : Stmt := top 37
abbrev N_is_free : List Str := ["basis", "vector", "index", "row", "factor", "one", "other"]
theorem sc_is_free : FnScope N_is_free ["basis", "vector"] (defScope s_is_free) := ⟨rfl, rfl, rfl, by decide +kernel, rfl, by decide +kernel, by decide +kernel⟩
abbrev s_separating_witness : Stmt := top 38
abbrev N_separating_witness : List Str := ["sizes", "targets", "basis", "difference", "total", "units", "columns", "index", "weights", "shared", "weight", "modulus", "column", "unit", "one"]
theorem sc_separating_witness : FnScope N_separating_witness ["sizes", "targets", "basis", "difference"] (defScope s_separating_witness) := ⟨rfl, rfl, rfl, by decide +kernel, rfl, by decide +kernel, by decide +kernel⟩
abbrev s_reach : Stmt := top 39
abbrev N_reach : List Str := ["table", "targets", "seat", "basis", "difference", "one", "other"]
theorem sc_reach : FnScope N_reach ["table", "targets", "seat"] (defScope s_reach) := ⟨rfl, rfl, rfl, by decide +kernel, rfl, by decide +kernel, by decide +kernel⟩
abbrev s_weighted : Stmt := top 40
abbrev N_weighted : List Str := ["modulus", "weights", "seat", "weight", "place"]
theorem sc_weighted : FnScope N_weighted ["modulus", "weights", "seat"] (defScope s_weighted) := ⟨rfl, rfl, rfl, by decide +kernel, rfl, by decide +kernel, by decide +kernel⟩
abbrev s_is_witness : Stmt := top 41
abbrev N_is_witness : List Str := ["table", "witness", "modulus", "weights", "residue", "weight", "size"]
theorem sc_is_witness : FnScope N_is_witness ["table", "witness"] (defScope s_is_witness) := ⟨rfl, rfl, rfl, by decide +kernel, rfl, by decide +kernel, by decide +kernel⟩
abbrev s_is_move : Stmt := top 43
abbrev N_is_move : List Str := ["table", "value"]
theorem sc_is_move : FnScope N_is_move ["table", "value"] (defScope s_is_move) := ⟨rfl, rfl, rfl, by decide +kernel, rfl, by decide +kernel, by decide +kernel⟩
abbrev s_require_moves : Stmt := top 44
abbrev N_require_moves : List Str := ["table", "moves", "index", "move"]
theorem sc_require_moves : FnScope N_require_moves ["table", "moves"] (defScope s_require_moves) := ⟨rfl, rfl, rfl, by decide +kernel, rfl, by decide +kernel, by decide +kernel⟩
abbrev s_visited_seats : Stmt := top 45
abbrev N_visited_seats : List Str := ["table", "seat", "moves", "found", "call", "direction"]
theorem sc_visited_seats : FnScope N_visited_seats ["table", "seat", "moves"] (defScope s_visited_seats) := ⟨rfl, rfl, rfl, by decide +kernel, rfl, by decide +kernel, by decide +kernel⟩
abbrev s_Record_init : Stmt := inClass (top 46) 0
abbrev N_Record_init : List Str := ["self", "table", "targets", "seat", "moves"]
theorem sc_Record_init : FnScope N_Record_init ["self", "table", "targets", "seat", "moves"] (defScope s_Record_init) := ⟨rfl, rfl, rfl, by decide +kernel, rfl, by decide +kernel, by decide +kernel⟩
abbrev s_Record_seats : Stmt := inClass (top 46) 1
abbrev N_Record_seats : List Str := ["self"]
theorem sc_Record_seats : FnScope N_Record_seats ["self"] (defScope s_Record_seats) := ⟨rfl, rfl, rfl, by decide +kernel, rfl, by decide +kernel, by decide +kernel⟩
abbrev s_Record_calls_to_target : Stmt := inClass (top 46) 2
abbrev N_Record_calls_to_target : List Str := ["self", "index", "seat"]
theorem sc_Record_calls_to_target : FnScope N_Record_calls_to_target ["self"] (defScope s_Record_calls_to_target) := ⟨rfl, rfl, rfl, by decide +kernel, rfl, by decide +kernel, by decide +kernel⟩
abbrev s_Record_losses : Stmt := inClass (top 46) 3
abbrev N_Record_losses : List Str := ["self"]
theorem sc_Record_losses : FnScope N_Record_losses ["self"] (defScope s_Record_losses) := ⟨rfl, rfl, rfl, by decide +kernel, rfl, by decide +kernel, by decide +kernel⟩
abbrev s_Record_first_mistake : Stmt := inClass (top 46) 4
abbrev N_Record_first_mistake : List Str := ["self"]
theorem sc_Record_first_mistake : FnScope N_Record_first_mistake ["self"] (defScope s_Record_first_mistake) := ⟨rfl, rfl, rfl, by decide +kernel, rfl, by decide +kernel, by decide +kernel⟩
abbrev s_common_exponent : Stmt := top 47
abbrev N_common_exponent : List Str := ["sizes", "exponent", "size", "odd"]
theorem sc_common_exponent : FnScope N_common_exponent ["sizes"] (defScope s_common_exponent) := ⟨rfl, rfl, rfl, by decide +kernel, rfl, by decide +kernel, by decide +kernel⟩
abbrev s_weight_rows : Stmt := top 48
abbrev N_weight_rows : List Str := ["sizes", "modulus", "found", "size", "step", "start", "weight"]
theorem sc_weight_rows : FnScope N_weight_rows ["sizes", "modulus"] (defScope s_weight_rows) := ⟨rfl, rfl, rfl, by decide +kernel, rfl, by decide +kernel, by decide +kernel⟩
abbrev s_units_of : Stmt := top 49
abbrev N_units_of : List Str := ["modulus", "unit"]
theorem sc_units_of : FnScope N_units_of ["modulus"] (defScope s_units_of) := ⟨rfl, rfl, rfl, by decide +kernel, rfl, by decide +kernel, by decide +kernel⟩
abbrev s_is_canonical : Stmt := top 50
abbrev N_is_canonical : List Str := ["modulus", "units", "weights", "shared", "weight", "unit"]
theorem sc_is_canonical : FnScope N_is_canonical ["modulus", "units", "weights"] (defScope s_is_canonical) := ⟨rfl, rfl, rfl, by decide +kernel, rfl, by decide +kernel, by decide +kernel⟩
abbrev s_explains : Stmt := top 51
abbrev N_explains : List Str := ["table", "visited", "moves", "witness", "modulus", "weights", "residue", "index", "call", "direction", "ahead"]
theorem sc_explains : FnScope N_explains ["table", "visited", "moves", "witness"] (defScope s_explains) := ⟨rfl, rfl, rfl, by decide +kernel, rfl, by decide +kernel, by decide +kernel⟩
abbrev s_consistent_witnesses : Stmt := top 52
abbrev N_consistent_witnesses : List Str := ["table", "seat", "moves", "visited", "exponent", "found", "modulus", "units", "rows", "witnesses", "weights", "residue", "witness"]
theorem sc_consistent_witnesses : FnScope N_consistent_witnesses ["table", "seat", "moves"] (defScope s_consistent_witnesses) := ⟨rfl, rfl, rfl, by decide +kernel, rfl, by decide +kernel, by decide +kernel⟩
abbrev s_has_residue : Stmt := top 55
abbrev N_has_residue : List Str := ["witness", "seat", "modulus", "weights", "residue"]
theorem sc_has_residue : FnScope N_has_residue ["witness", "seat"] (defScope s_has_residue) := ⟨rfl, rfl, rfl, by decide +kernel, rfl, by decide +kernel, by decide +kernel⟩
abbrev s_direction_off : Stmt := top 56
abbrev N_direction_off : List Str := ["table", "witness", "seat", "call"]
theorem sc_direction_off : FnScope N_direction_off ["table", "witness", "seat", "call"] (defScope s_direction_off) := ⟨rfl, rfl, rfl, by decide +kernel, rfl, by decide +kernel, by decide +kernel⟩
abbrev s_is_layers : Stmt := top 57
abbrev N_is_layers : List Str := ["strategy"]
theorem sc_is_layers : FnScope N_is_layers ["strategy"] (defScope s_is_layers) := ⟨rfl, rfl, rfl, by decide +kernel, rfl, by decide +kernel, by decide +kernel⟩
abbrev s_copied : Stmt := top 58
abbrev N_copied : List Str := ["strategy"]
theorem sc_copied : FnScope N_copied ["strategy"] (defScope s_copied) := ⟨rfl, rfl, rfl, by decide +kernel, rfl, by decide +kernel, by decide +kernel⟩
abbrev s_depths_for : Stmt := top 59
abbrev N_depths_for : List Str := ["table", "targets", "strategy"]
theorem sc_depths_for : FnScope N_depths_for ["table", "targets", "strategy"] (defScope s_depths_for) := ⟨rfl, rfl, rfl, by decide +kernel, rfl, by decide +kernel, by decide +kernel⟩
abbrev s_is_directions : Stmt := top 60
abbrev N_is_directions : List Str := ["strategy", "one"]
theorem sc_is_directions : FnScope N_is_directions ["strategy"] (defScope s_is_directions) := ⟨rfl, rfl, rfl, by decide +kernel, rfl, by decide +kernel, by decide +kernel⟩
abbrev s_is_shared_witness : Stmt := top 61
abbrev N_is_shared_witness : List Str := ["table", "targets", "strategy", "target"]
theorem sc_is_shared_witness : FnScope N_is_shared_witness ["table", "targets", "strategy"] (defScope s_is_shared_witness) := ⟨rfl, rfl, rfl, by decide +kernel, rfl, by decide +kernel, by decide +kernel⟩
abbrev s_Responder_init : Stmt := inClass (top 62) 0
abbrev N_Responder_init : List Str := ["self", "table", "targets", "strategy"]
theorem sc_Responder_init : FnScope N_Responder_init ["self", "table", "targets", "strategy"] (defScope s_Responder_init) := ⟨rfl, rfl, rfl, by decide +kernel, rfl, by decide +kernel, by decide +kernel⟩
abbrev s_Responder_is_unsafe : Stmt := inClass (top 62) 1
abbrev N_Responder_is_unsafe : List Str := ["self", "seat"]
theorem sc_Responder_is_unsafe : FnScope N_Responder_is_unsafe ["self", "seat"] (defScope s_Responder_is_unsafe) := ⟨rfl, rfl, rfl, by decide +kernel, rfl, by decide +kernel, by decide +kernel⟩
abbrev s_Responder_direction_at : Stmt := inClass (top 62) 2
abbrev N_Responder_direction_at : List Str := ["self", "seat", "call", "index", "above", "ahead", "behind", "one"]
theorem sc_Responder_direction_at : FnScope N_Responder_direction_at ["self", "seat", "call", "index"] (defScope s_Responder_direction_at) := ⟨rfl, rfl, rfl, by decide +kernel, rfl, by decide +kernel, by decide +kernel⟩
abbrev s_Responder_answer : Stmt := inClass (top 62) 3
abbrev N_Responder_answer : List Str := ["self", "seat", "call", "direction"]
theorem sc_Responder_answer : FnScope N_Responder_answer ["self", "seat", "call"] (defScope s_Responder_answer) := ⟨rfl, rfl, rfl, by decide +kernel, rfl, by decide +kernel, by decide +kernel⟩
abbrev s_law_mixed : Stmt := top 64
abbrev N_law_mixed : List Str := ["_law_cell", "_law_k", "_law_number"]
theorem sc_law_mixed : FnScope N_law_mixed ["_law_cell", "_law_k"] (defScope s_law_mixed) := ⟨rfl, rfl, rfl, by decide +kernel, rfl, by decide +kernel, by decide +kernel⟩
abbrev s_law_source : Stmt := top 65
abbrev N_law_source : List Str := ["_law_cell"]
theorem sc_law_source : FnScope N_law_source ["_law_cell"] (defScope s_law_source) := ⟨rfl, rfl, rfl, by decide +kernel, rfl, by decide +kernel, by decide +kernel⟩
abbrev s_law_take : Stmt := top 66
abbrev N_law_take : List Str := ["_law_source_here", "_law_many", "_law_found"]
theorem sc_law_take : FnScope N_law_take ["_law_source_here", "_law_many"] (defScope s_law_take) := ⟨rfl, rfl, rfl, by decide +kernel, rfl, by decide +kernel, by decide +kernel⟩
abbrev s_law_one : Stmt := top 67
abbrev N_law_one : List Str := ["_law_source_here", "_law_some"]
theorem sc_law_one : FnScope N_law_one ["_law_source_here", "_law_some"] (defScope s_law_one) := ⟨rfl, rfl, rfl, by decide +kernel, rfl, by decide +kernel, by decide +kernel⟩
abbrev s_law_rings : Stmt := top 68
abbrev N_law_rings : List Str := ["_law_source_here", "_law_limit", "_law_rings_here", "_law_total", "_law_ring", "_law_size"]
theorem sc_law_rings : FnScope N_law_rings ["_law_source_here", "_law_limit"] (defScope s_law_rings) := ⟨rfl, rfl, rfl, by decide +kernel, rfl, by decide +kernel, by decide +kernel⟩
abbrev s_law_seat : Stmt := top 69
abbrev N_law_seat : List Str := ["_law_source_here", "_law_rings_here", "_law_size"]
theorem sc_law_seat : FnScope N_law_seat ["_law_source_here", "_law_rings_here"] (defScope s_law_seat) := ⟨rfl, rfl, rfl, by decide +kernel, rfl, by decide +kernel, by decide +kernel⟩
abbrev s_law_seats : Stmt := top 70
abbrev N_law_seats : List Str := ["_law_source_here", "_law_rings_here", "_law_most", "_law_found", "_law_turn", "_law_spot"]
theorem sc_law_seats : FnScope N_law_seats ["_law_source_here", "_law_rings_here", "_law_most"] (defScope s_law_seats) := ⟨rfl, rfl, rfl, by decide +kernel, rfl, by decide +kernel, by decide +kernel⟩
abbrev s_law_call : Stmt := top 71
abbrev N_law_call : List Str := ["_law_source_here", "_law_rings_here", "_law_factor", "_law_size"]
theorem sc_law_call : FnScope N_law_call ["_law_source_here", "_law_rings_here"] (defScope s_law_call) := ⟨rfl, rfl, rfl, by decide +kernel, rfl, by decide +kernel, by decide +kernel⟩
abbrev s_law_step : Stmt := top 72
abbrev N_law_step : List Str := ["_law_rings_here", "_law_spot", "_law_delta", "_law_sign", "_law_place", "_law_one_here", "_law_size"]
theorem sc_law_step : FnScope N_law_step ["_law_rings_here", "_law_spot", "_law_delta", "_law_sign"] (defScope s_law_step) := ⟨rfl, rfl, rfl, by decide +kernel, rfl, by decide +kernel, by decide +kernel⟩
abbrev s_law_walk : Stmt := top 73
abbrev N_law_walk : List Str := ["_law_rings_here", "_law_start", "_law_played", "_law_found", "_law_delta", "_law_way"]
theorem sc_law_walk : FnScope N_law_walk ["_law_rings_here", "_law_start", "_law_played"] (defScope s_law_walk) := ⟨rfl, rfl, rfl, by decide +kernel, rfl, by decide +kernel, by decide +kernel⟩
abbrev s_law_all : Stmt := top 74
abbrev N_law_all : List Str := ["_law_rings_here", "_law_found", "_law_size", "_law_longer", "_law_start", "_law_place"]
theorem sc_law_all : FnScope N_law_all ["_law_rings_here"] (defScope s_law_all) := ⟨rfl, rfl, rfl, by decide +kernel, rfl, by decide +kernel, by decide +kernel⟩
abbrev s_law_value : Stmt := top 75
abbrev N_law_value : List Str := ["_law_modulus", "_law_weights", "_law_spot", "_law_weight", "_law_place"]
theorem sc_law_value : FnScope N_law_value ["_law_modulus", "_law_weights", "_law_spot"] (defScope s_law_value) := ⟨rfl, rfl, rfl, by decide +kernel, rfl, by decide +kernel, by decide +kernel⟩
abbrev s_law_divisor : Stmt := top 76
abbrev N_law_divisor : List Str := ["_law_first", "_law_second"]
theorem sc_law_divisor : FnScope N_law_divisor ["_law_first", "_law_second"] (defScope s_law_divisor) := ⟨rfl, rfl, rfl, by decide +kernel, rfl, by decide +kernel, by decide +kernel⟩
abbrev s_law_canonical : Stmt := top 77
abbrev N_law_canonical : List Str := ["_law_told", "_law_modulus", "_law_weights", "_law_residue", "_law_shared", "_law_weight", "_law_found", "_law_unit", "_law_some"]
theorem sc_law_canonical : FnScope N_law_canonical ["_law_told"] (defScope s_law_canonical) := ⟨rfl, rfl, rfl, by decide +kernel, rfl, by decide +kernel, by decide +kernel⟩
abbrev s_law_right : Stmt := top 78
abbrev N_law_right : List Str := ["_law_source_here", "_law_rings_here", "_law_goals", "_law_start", "_law_told", "_law_board", "_law_guard", "_law_played", "_law_walk_here", "_law_turn", "_law_delta", "_law_found", "_law_modulus", "_law_weights", "_law_residue", "_law_early", "_law_same", "_law_other", "_law_spot", "_law_one_here", "_law_move"]
theorem sc_law_right : FnScope N_law_right ["_law_source_here", "_law_rings_here", "_law_goals", "_law_start", "_law_told"] (defScope s_law_right) := ⟨rfl, rfl, rfl, by decide +kernel, rfl, by decide +kernel, by decide +kernel⟩
abbrev s_law : Stmt := top 79
abbrev N_law : List Str := ["_law_script", "_law_cell", "_law_source_here", "_law_rings_here", "_law_goals", "_law_turn", "_law_start", "_law_told"]
theorem sc_law : FnScope N_law ["_law_script"] (defScope s_law) := ⟨rfl, rfl, rfl, by decide +kernel, rfl, by decide +kernel, by decide +kernel⟩
/-- what the top has written -/
structure TX (K : PySem.W.Frag) (mg : Str → Option Value) where
  f_wall : Addr
  fd_wall : FuncData
  F_wall : Fun K "_wall" "_wall" s_wall f_wall fd_wall
  b_wall : Binds K fd_wall ["k"] []
  m_wall : mg "_wall" = some (.ref f_wall)
  f_is_integer : Addr
  fd_is_integer : FuncData
  F_is_integer : Fun K "is_integer" "is_integer" s_is_integer f_is_integer fd_is_integer
  b_is_integer : Binds K fd_is_integer ["value"] []
  m_is_integer : mg "is_integer" = some (.ref f_is_integer)
  f_is_at_least : Addr
  fd_is_at_least : FuncData
  F_is_at_least : Fun K "is_at_least" "is_at_least" s_is_at_least f_is_at_least fd_is_at_least
  b_is_at_least : Binds K fd_is_at_least ["value", "low"] []
  m_is_at_least : mg "is_at_least" = some (.ref f_is_at_least)
  f_is_between : Addr
  fd_is_between : FuncData
  F_is_between : Fun K "is_between" "is_between" s_is_between f_is_between fd_is_between
  b_is_between : Binds K fd_is_between ["value", "low", "high"] []
  m_is_between : mg "is_between" = some (.ref f_is_between)
  f_greatest_common_divisor : Addr
  fd_greatest_common_divisor : FuncData
  F_greatest_common_divisor : Fun K "greatest_common_divisor" "greatest_common_divisor" s_greatest_common_divisor f_greatest_common_divisor fd_greatest_common_divisor
  b_greatest_common_divisor : Binds K fd_greatest_common_divisor ["first", "second"] []
  m_greatest_common_divisor : mg "greatest_common_divisor" = some (.ref f_greatest_common_divisor)
  f_odd_part : Addr
  fd_odd_part : FuncData
  F_odd_part : Fun K "odd_part" "odd_part" s_odd_part f_odd_part fd_odd_part
  b_odd_part : Binds K fd_odd_part ["number"] []
  m_odd_part : mg "odd_part" = some (.ref f_odd_part)
  f_Table_init : Addr
  fd_Table_init : FuncData
  F_Table_init : Fun K "__init__" "Table.__init__" s_Table_init f_Table_init fd_Table_init
  b_Table_init : Binds K fd_Table_init ["self", "rings"] []
  f_Table_sizes : Addr
  fd_Table_sizes : FuncData
  F_Table_sizes : Fun K "sizes" "Table.sizes" s_Table_sizes f_Table_sizes fd_Table_sizes
  b_Table_sizes : Binds K fd_Table_sizes ["self"] []
  f_Table_count : Addr
  fd_Table_count : FuncData
  F_Table_count : Fun K "count" "Table.count" s_Table_count f_Table_count fd_Table_count
  b_Table_count : Binds K fd_Table_count ["self"] []
  f_Table_is_seat : Addr
  fd_Table_is_seat : FuncData
  F_Table_is_seat : Fun K "is_seat" "Table.is_seat" s_Table_is_seat f_Table_is_seat fd_Table_is_seat
  b_Table_is_seat : Binds K fd_Table_is_seat ["self", "value"] []
  f_Table_is_call : Addr
  fd_Table_is_call : FuncData
  F_Table_is_call : Fun K "is_call" "Table.is_call" s_Table_is_call f_Table_is_call fd_Table_is_call
  b_Table_is_call : Binds K fd_Table_is_call ["self", "value"] []
  f_Table_shifted : Addr
  fd_Table_shifted : FuncData
  F_Table_shifted : Fun K "shifted" "Table.shifted" s_Table_shifted f_Table_shifted fd_Table_shifted
  b_Table_shifted : Binds K fd_Table_shifted ["self", "seat", "call", "factor"] []
  f_Table_moves : Addr
  fd_Table_moves : FuncData
  F_Table_moves : Fun K "moves" "Table.moves" s_Table_moves f_Table_moves fd_Table_moves
  b_Table_moves : Binds K fd_Table_moves ["self", "seat", "call"] []
  f_Table_step : Addr
  fd_Table_step : FuncData
  F_Table_step : Fun K "step" "Table.step" s_Table_step f_Table_step fd_Table_step
  b_Table_step : Binds K fd_Table_step ["self", "seat", "call", "direction"] []
  f_Table_order : Addr
  fd_Table_order : FuncData
  F_Table_order : Fun K "order" "Table.order" s_Table_order f_Table_order fd_Table_order
  b_Table_order : Binds K fd_Table_order ["self", "seat"] []
  f_Table_halves : Addr
  fd_Table_halves : FuncData
  F_Table_halves : Fun K "halves" "Table.halves" s_Table_halves f_Table_halves fd_Table_halves
  b_Table_halves : Binds K fd_Table_halves ["self", "seat"] []
  f_is_direction : Addr
  fd_is_direction : FuncData
  F_is_direction : Fun K "is_direction" "is_direction" s_is_direction f_is_direction fd_is_direction
  b_is_direction : Binds K fd_is_direction ["value"] []
  m_is_direction : mg "is_direction" = some (.ref f_is_direction)
  f_require_table : Addr
  fd_require_table : FuncData
  F_require_table : Fun K "require_table" "require_table" s_require_table f_require_table fd_require_table
  b_require_table : Binds K fd_require_table ["table"] []
  m_require_table : mg "require_table" = some (.ref f_require_table)
  f_require_seat : Addr
  fd_require_seat : FuncData
  F_require_seat : Fun K "require_seat" "require_seat" s_require_seat f_require_seat fd_require_seat
  b_require_seat : Binds K fd_require_seat ["table", "seat"] []
  m_require_seat : mg "require_seat" = some (.ref f_require_seat)
  f_require_call : Addr
  fd_require_call : FuncData
  F_require_call : Fun K "require_call" "require_call" s_require_call f_require_call fd_require_call
  b_require_call : Binds K fd_require_call ["table", "call"] []
  m_require_call : mg "require_call" = some (.ref f_require_call)
  f_require_targets : Addr
  fd_require_targets : FuncData
  F_require_targets : Fun K "require_targets" "require_targets" s_require_targets f_require_targets fd_require_targets
  b_require_targets : Binds K fd_require_targets ["table", "targets"] []
  m_require_targets : mg "require_targets" = some (.ref f_require_targets)
  f_require_small : Addr
  fd_require_small : FuncData
  F_require_small : Fun K "require_small" "require_small" s_require_small f_require_small fd_require_small
  b_require_small : Binds K fd_require_small ["table"] []
  m_require_small : mg "require_small" = some (.ref f_require_small)
  f_all_seats : Addr
  fd_all_seats : FuncData
  F_all_seats : Fun K "all_seats" "all_seats" s_all_seats f_all_seats fd_all_seats
  b_all_seats : Binds K fd_all_seats ["table"] []
  m_all_seats : mg "all_seats" = some (.ref f_all_seats)
  f_mirror_seat : Addr
  fd_mirror_seat : FuncData
  F_mirror_seat : Fun K "mirror_seat" "mirror_seat" s_mirror_seat f_mirror_seat fd_mirror_seat
  b_mirror_seat : Binds K fd_mirror_seat ["table", "seat", "other"] []
  m_mirror_seat : mg "mirror_seat" = some (.ref f_mirror_seat)
  f_call_counts : Addr
  fd_call_counts : FuncData
  F_call_counts : Fun K "call_counts" "call_counts" s_call_counts f_call_counts fd_call_counts
  b_call_counts : Binds K fd_call_counts ["table", "targets"] []
  m_call_counts : mg "call_counts" = some (.ref f_call_counts)
  f_combined : Addr
  fd_combined : FuncData
  F_combined : Fun K "combined" "combined" s_combined f_combined fd_combined
  b_combined : Binds K fd_combined ["first", "second", "column"] []
  m_combined : mg "combined" = some (.ref f_combined)
  f_reduced : Addr
  fd_reduced : FuncData
  F_reduced : Fun K "reduced" "reduced" s_reduced f_reduced fd_reduced
  b_reduced : Binds K fd_reduced ["row", "column", "odds"] []
  m_reduced : mg "reduced" = some (.ref f_reduced)
  f_shift_basis : Addr
  fd_shift_basis : FuncData
  F_shift_basis : Fun K "shift_basis" "shift_basis" s_shift_basis f_shift_basis fd_shift_basis
  b_shift_basis : Binds K fd_shift_basis ["sizes", "targets"] []
  m_shift_basis : mg "shift_basis" = some (.ref f_shift_basis)
  f_diagonal_product : Addr
  fd_diagonal_product : FuncData
  F_diagonal_product : Fun K "diagonal_product" "diagonal_product" s_diagonal_product f_diagonal_product fd_diagonal_product
  b_diagonal_product : Binds K fd_diagonal_product ["basis"] []
  m_diagonal_product : mg "diagonal_product" = some (.ref f_diagonal_product)
  f_coordinates : Addr
  fd_coordinates : FuncData
  F_coordinates : Fun K "coordinates" "coordinates" s_coordinates f_coordinates fd_coordinates
  b_coordinates : Binds K fd_coordinates ["basis", "vector"] []
  m_coordinates : mg "coordinates" = some (.ref f_coordinates)
  f_is_free : Addr
  fd_is_free : FuncData
  F_is_free : Fun K "is_free" "is_free" s_is_free f_is_free fd_is_free
  b_is_free : Binds K fd_is_free ["basis", "vector"] []
  m_is_free : mg "is_free" = some (.ref f_is_free)
  f_separating_witness : Addr
  fd_separating_witness : FuncData
  F_separating_witness : Fun K "separating_witness" "separating_witness" s_separating_witness f_separating_witness fd_separating_witness
  b_separating_witness : Binds K fd_separating_witness ["sizes", "targets", "basis", "difference"] []
  m_separating_witness : mg "separating_witness" = some (.ref f_separating_witness)
  f_reach : Addr
  fd_reach : FuncData
  F_reach : Fun K "reach" "reach" s_reach f_reach fd_reach
  b_reach : Binds K fd_reach ["table", "targets", "seat"] []
  m_reach : mg "reach" = some (.ref f_reach)
  f_weighted : Addr
  fd_weighted : FuncData
  F_weighted : Fun K "weighted" "weighted" s_weighted f_weighted fd_weighted
  b_weighted : Binds K fd_weighted ["modulus", "weights", "seat"] []
  m_weighted : mg "weighted" = some (.ref f_weighted)
  f_is_witness : Addr
  fd_is_witness : FuncData
  F_is_witness : Fun K "is_witness" "is_witness" s_is_witness f_is_witness fd_is_witness
  b_is_witness : Binds K fd_is_witness ["table", "witness"] []
  m_is_witness : mg "is_witness" = some (.ref f_is_witness)
  f_is_move : Addr
  fd_is_move : FuncData
  F_is_move : Fun K "is_move" "is_move" s_is_move f_is_move fd_is_move
  b_is_move : Binds K fd_is_move ["table", "value"] []
  m_is_move : mg "is_move" = some (.ref f_is_move)
  f_require_moves : Addr
  fd_require_moves : FuncData
  F_require_moves : Fun K "require_moves" "require_moves" s_require_moves f_require_moves fd_require_moves
  b_require_moves : Binds K fd_require_moves ["table", "moves"] []
  m_require_moves : mg "require_moves" = some (.ref f_require_moves)
  f_visited_seats : Addr
  fd_visited_seats : FuncData
  F_visited_seats : Fun K "visited_seats" "visited_seats" s_visited_seats f_visited_seats fd_visited_seats
  b_visited_seats : Binds K fd_visited_seats ["table", "seat", "moves"] []
  m_visited_seats : mg "visited_seats" = some (.ref f_visited_seats)
  f_Record_init : Addr
  fd_Record_init : FuncData
  F_Record_init : Fun K "__init__" "Record.__init__" s_Record_init f_Record_init fd_Record_init
  b_Record_init : Binds K fd_Record_init ["self", "table", "targets", "seat", "moves"] []
  f_Record_seats : Addr
  fd_Record_seats : FuncData
  F_Record_seats : Fun K "seats" "Record.seats" s_Record_seats f_Record_seats fd_Record_seats
  b_Record_seats : Binds K fd_Record_seats ["self"] []
  f_Record_calls_to_target : Addr
  fd_Record_calls_to_target : FuncData
  F_Record_calls_to_target : Fun K "calls_to_target" "Record.calls_to_target" s_Record_calls_to_target f_Record_calls_to_target fd_Record_calls_to_target
  b_Record_calls_to_target : Binds K fd_Record_calls_to_target ["self"] []
  f_Record_losses : Addr
  fd_Record_losses : FuncData
  F_Record_losses : Fun K "losses" "Record.losses" s_Record_losses f_Record_losses fd_Record_losses
  b_Record_losses : Binds K fd_Record_losses ["self"] []
  f_Record_first_mistake : Addr
  fd_Record_first_mistake : FuncData
  F_Record_first_mistake : Fun K "first_mistake" "Record.first_mistake" s_Record_first_mistake f_Record_first_mistake fd_Record_first_mistake
  b_Record_first_mistake : Binds K fd_Record_first_mistake ["self"] []
  f_common_exponent : Addr
  fd_common_exponent : FuncData
  F_common_exponent : Fun K "common_exponent" "common_exponent" s_common_exponent f_common_exponent fd_common_exponent
  b_common_exponent : Binds K fd_common_exponent ["sizes"] []
  m_common_exponent : mg "common_exponent" = some (.ref f_common_exponent)
  f_weight_rows : Addr
  fd_weight_rows : FuncData
  F_weight_rows : Fun K "weight_rows" "weight_rows" s_weight_rows f_weight_rows fd_weight_rows
  b_weight_rows : Binds K fd_weight_rows ["sizes", "modulus"] []
  m_weight_rows : mg "weight_rows" = some (.ref f_weight_rows)
  f_units_of : Addr
  fd_units_of : FuncData
  F_units_of : Fun K "units_of" "units_of" s_units_of f_units_of fd_units_of
  b_units_of : Binds K fd_units_of ["modulus"] []
  m_units_of : mg "units_of" = some (.ref f_units_of)
  f_is_canonical : Addr
  fd_is_canonical : FuncData
  F_is_canonical : Fun K "is_canonical" "is_canonical" s_is_canonical f_is_canonical fd_is_canonical
  b_is_canonical : Binds K fd_is_canonical ["modulus", "units", "weights"] []
  m_is_canonical : mg "is_canonical" = some (.ref f_is_canonical)
  f_explains : Addr
  fd_explains : FuncData
  F_explains : Fun K "explains" "explains" s_explains f_explains fd_explains
  b_explains : Binds K fd_explains ["table", "visited", "moves", "witness"] []
  m_explains : mg "explains" = some (.ref f_explains)
  f_consistent_witnesses : Addr
  fd_consistent_witnesses : FuncData
  F_consistent_witnesses : Fun K "consistent_witnesses" "consistent_witnesses" s_consistent_witnesses f_consistent_witnesses fd_consistent_witnesses
  b_consistent_witnesses : Binds K fd_consistent_witnesses ["table", "seat", "moves"] []
  m_consistent_witnesses : mg "consistent_witnesses" = some (.ref f_consistent_witnesses)
  f_has_residue : Addr
  fd_has_residue : FuncData
  F_has_residue : Fun K "has_residue" "has_residue" s_has_residue f_has_residue fd_has_residue
  b_has_residue : Binds K fd_has_residue ["witness", "seat"] []
  m_has_residue : mg "has_residue" = some (.ref f_has_residue)
  f_direction_off : Addr
  fd_direction_off : FuncData
  F_direction_off : Fun K "direction_off" "direction_off" s_direction_off f_direction_off fd_direction_off
  b_direction_off : Binds K fd_direction_off ["table", "witness", "seat", "call"] []
  m_direction_off : mg "direction_off" = some (.ref f_direction_off)
  f_is_layers : Addr
  fd_is_layers : FuncData
  F_is_layers : Fun K "is_layers" "is_layers" s_is_layers f_is_layers fd_is_layers
  b_is_layers : Binds K fd_is_layers ["strategy"] []
  m_is_layers : mg "is_layers" = some (.ref f_is_layers)
  f_copied : Addr
  fd_copied : FuncData
  F_copied : Fun K "copied" "copied" s_copied f_copied fd_copied
  b_copied : Binds K fd_copied ["strategy"] []
  m_copied : mg "copied" = some (.ref f_copied)
  f_depths_for : Addr
  fd_depths_for : FuncData
  F_depths_for : Fun K "depths_for" "depths_for" s_depths_for f_depths_for fd_depths_for
  b_depths_for : Binds K fd_depths_for ["table", "targets", "strategy"] []
  m_depths_for : mg "depths_for" = some (.ref f_depths_for)
  f_is_directions : Addr
  fd_is_directions : FuncData
  F_is_directions : Fun K "is_directions" "is_directions" s_is_directions f_is_directions fd_is_directions
  b_is_directions : Binds K fd_is_directions ["strategy"] []
  m_is_directions : mg "is_directions" = some (.ref f_is_directions)
  f_is_shared_witness : Addr
  fd_is_shared_witness : FuncData
  F_is_shared_witness : Fun K "is_shared_witness" "is_shared_witness" s_is_shared_witness f_is_shared_witness fd_is_shared_witness
  b_is_shared_witness : Binds K fd_is_shared_witness ["table", "targets", "strategy"] []
  m_is_shared_witness : mg "is_shared_witness" = some (.ref f_is_shared_witness)
  f_Responder_init : Addr
  fd_Responder_init : FuncData
  F_Responder_init : Fun K "__init__" "Responder.__init__" s_Responder_init f_Responder_init fd_Responder_init
  b_Responder_init : Binds K fd_Responder_init ["self", "table", "targets", "strategy"] []
  f_Responder_is_unsafe : Addr
  fd_Responder_is_unsafe : FuncData
  F_Responder_is_unsafe : Fun K "is_unsafe" "Responder.is_unsafe" s_Responder_is_unsafe f_Responder_is_unsafe fd_Responder_is_unsafe
  b_Responder_is_unsafe : Binds K fd_Responder_is_unsafe ["self", "seat"] []
  f_Responder_direction_at : Addr
  fd_Responder_direction_at : FuncData
  F_Responder_direction_at : Fun K "direction_at" "Responder.direction_at" s_Responder_direction_at f_Responder_direction_at fd_Responder_direction_at
  b_Responder_direction_at : Binds K fd_Responder_direction_at ["self", "seat", "call", "index"] []
  f_Responder_answer : Addr
  fd_Responder_answer : FuncData
  F_Responder_answer : Fun K "answer" "Responder.answer" s_Responder_answer f_Responder_answer fd_Responder_answer
  b_Responder_answer : Binds K fd_Responder_answer ["self", "seat", "call"] []
  f_law_mixed : Addr
  fd_law_mixed : FuncData
  F_law_mixed : Fun K "_law_mixed" "_law_mixed" s_law_mixed f_law_mixed fd_law_mixed
  b_law_mixed : Binds K fd_law_mixed ["_law_cell", "_law_k"] []
  m_law_mixed : mg "_law_mixed" = some (.ref f_law_mixed)
  f_law_source : Addr
  fd_law_source : FuncData
  F_law_source : Fun K "_law_source" "_law_source" s_law_source f_law_source fd_law_source
  b_law_source : Binds K fd_law_source ["_law_cell"] []
  m_law_source : mg "_law_source" = some (.ref f_law_source)
  f_law_take : Addr
  fd_law_take : FuncData
  F_law_take : Fun K "_law_take" "_law_take" s_law_take f_law_take fd_law_take
  b_law_take : Binds K fd_law_take ["_law_source_here", "_law_many"] []
  m_law_take : mg "_law_take" = some (.ref f_law_take)
  f_law_one : Addr
  fd_law_one : FuncData
  F_law_one : Fun K "_law_one" "_law_one" s_law_one f_law_one fd_law_one
  b_law_one : Binds K fd_law_one ["_law_source_here", "_law_some"] []
  m_law_one : mg "_law_one" = some (.ref f_law_one)
  f_law_rings : Addr
  fd_law_rings : FuncData
  F_law_rings : Fun K "_law_rings" "_law_rings" s_law_rings f_law_rings fd_law_rings
  b_law_rings : Binds K fd_law_rings ["_law_source_here", "_law_limit"] []
  m_law_rings : mg "_law_rings" = some (.ref f_law_rings)
  f_law_seat : Addr
  fd_law_seat : FuncData
  F_law_seat : Fun K "_law_seat" "_law_seat" s_law_seat f_law_seat fd_law_seat
  b_law_seat : Binds K fd_law_seat ["_law_source_here", "_law_rings_here"] []
  m_law_seat : mg "_law_seat" = some (.ref f_law_seat)
  f_law_seats : Addr
  fd_law_seats : FuncData
  F_law_seats : Fun K "_law_seats" "_law_seats" s_law_seats f_law_seats fd_law_seats
  b_law_seats : Binds K fd_law_seats ["_law_source_here", "_law_rings_here", "_law_most"] []
  m_law_seats : mg "_law_seats" = some (.ref f_law_seats)
  f_law_call : Addr
  fd_law_call : FuncData
  F_law_call : Fun K "_law_call" "_law_call" s_law_call f_law_call fd_law_call
  b_law_call : Binds K fd_law_call ["_law_source_here", "_law_rings_here"] []
  m_law_call : mg "_law_call" = some (.ref f_law_call)
  f_law_step : Addr
  fd_law_step : FuncData
  F_law_step : Fun K "_law_step" "_law_step" s_law_step f_law_step fd_law_step
  b_law_step : Binds K fd_law_step ["_law_rings_here", "_law_spot", "_law_delta", "_law_sign"] []
  m_law_step : mg "_law_step" = some (.ref f_law_step)
  f_law_walk : Addr
  fd_law_walk : FuncData
  F_law_walk : Fun K "_law_walk" "_law_walk" s_law_walk f_law_walk fd_law_walk
  b_law_walk : Binds K fd_law_walk ["_law_rings_here", "_law_start", "_law_played"] []
  m_law_walk : mg "_law_walk" = some (.ref f_law_walk)
  f_law_all : Addr
  fd_law_all : FuncData
  F_law_all : Fun K "_law_all" "_law_all" s_law_all f_law_all fd_law_all
  b_law_all : Binds K fd_law_all ["_law_rings_here"] []
  m_law_all : mg "_law_all" = some (.ref f_law_all)
  f_law_value : Addr
  fd_law_value : FuncData
  F_law_value : Fun K "_law_value" "_law_value" s_law_value f_law_value fd_law_value
  b_law_value : Binds K fd_law_value ["_law_modulus", "_law_weights", "_law_spot"] []
  m_law_value : mg "_law_value" = some (.ref f_law_value)
  f_law_divisor : Addr
  fd_law_divisor : FuncData
  F_law_divisor : Fun K "_law_divisor" "_law_divisor" s_law_divisor f_law_divisor fd_law_divisor
  b_law_divisor : Binds K fd_law_divisor ["_law_first", "_law_second"] []
  m_law_divisor : mg "_law_divisor" = some (.ref f_law_divisor)
  f_law_canonical : Addr
  fd_law_canonical : FuncData
  F_law_canonical : Fun K "_law_canonical" "_law_canonical" s_law_canonical f_law_canonical fd_law_canonical
  b_law_canonical : Binds K fd_law_canonical ["_law_told"] []
  m_law_canonical : mg "_law_canonical" = some (.ref f_law_canonical)
  f_law_right : Addr
  fd_law_right : FuncData
  F_law_right : Fun K "_law_right" "_law_right" s_law_right f_law_right fd_law_right
  b_law_right : Binds K fd_law_right ["_law_source_here", "_law_rings_here", "_law_goals", "_law_start", "_law_told"] []
  m_law_right : mg "_law_right" = some (.ref f_law_right)
  f_law : Addr
  fd_law : FuncData
  F_law : Fun K "law" "law" s_law f_law fd_law
  b_law : Binds K fd_law ["_law_script"] []
  m_law : mg "law" = some (.ref f_law)
  C_Table : Addr
  cl_Table : Cls K C_Table
  m_Table : mg "Table" = some (.ref C_Table)
  M_Table : Mk K C_Table f_Table_init
  me_Table_sizes : Meth K C_Table "sizes" f_Table_sizes
  me_Table_count : Meth K C_Table "count" f_Table_count
  me_Table_is_seat : Meth K C_Table "is_seat" f_Table_is_seat
  me_Table_is_call : Meth K C_Table "is_call" f_Table_is_call
  me_Table_shifted : Meth K C_Table "shifted" f_Table_shifted
  me_Table_moves : Meth K C_Table "moves" f_Table_moves
  me_Table_step : Meth K C_Table "step" f_Table_step
  me_Table_order : Meth K C_Table "order" f_Table_order
  me_Table_halves : Meth K C_Table "halves" f_Table_halves
  n_Table_rings : NoAttr K C_Table "rings"
  ic_Table : PySem.W.findIn K (.ref C_Table) "__class__" = some (some (.builtin "object.__class__"))
  im_Table : PySem.W.mroIn K C_Table (.type "object") = some true
  C_Record : Addr
  cl_Record : Cls K C_Record
  m_Record : mg "Record" = some (.ref C_Record)
  M_Record : Mk K C_Record f_Record_init
  me_Record_seats : Meth K C_Record "seats" f_Record_seats
  me_Record_calls_to_target : Meth K C_Record "calls_to_target" f_Record_calls_to_target
  me_Record_losses : Meth K C_Record "losses" f_Record_losses
  me_Record_first_mistake : Meth K C_Record "first_mistake" f_Record_first_mistake
  n_Record_visited : NoAttr K C_Record "visited"
  n_Record_table : NoAttr K C_Record "table"
  n_Record_goals : NoAttr K C_Record "goals"
  n_Record_played : NoAttr K C_Record "played"
  C_Responder : Addr
  cl_Responder : Cls K C_Responder
  m_Responder : mg "Responder" = some (.ref C_Responder)
  M_Responder : Mk K C_Responder f_Responder_init
  me_Responder_is_unsafe : Meth K C_Responder "is_unsafe" f_Responder_is_unsafe
  me_Responder_direction_at : Meth K C_Responder "direction_at" f_Responder_direction_at
  me_Responder_answer : Meth K C_Responder "answer" f_Responder_answer
  n_Responder_depths : NoAttr K C_Responder "depths"
  n_Responder_table : NoAttr K C_Responder "table"
  n_Responder_goals : NoAttr K C_Responder "goals"
  n_Responder_strategy : NoAttr K C_Responder "strategy"
  n_Responder_used : NoAttr K C_Responder "used"
  ig_ : PySem.W.specialIn K (.builtin "object.__class__") "__get__" = some (some (.builtin "getset_descriptor.__get__"))
  it_ : PySem.W.takesIn K (.builtin "object.__class__") = some true
  t_MAX_RINGS : Tok
  c_MAX_RINGS : mg "MAX_RINGS" = some (.int 4 t_MAX_RINGS)
  t_SMALL : Tok
  c_SMALL : mg "SMALL" = some (.int 300 t_SMALL)
  t_LAYERS : Tok
  c_LAYERS : mg "LAYERS" = some (.str "layers" t_LAYERS)
  z_abs : mg "abs" = none
  z_all : mg "all" = none
  z_any : mg "any" = none
  z_bool : mg "bool" = none
  z_enumerate : mg "enumerate" = none
  z_int : mg "int" = none
  z_isinstance : mg "isinstance" = none
  z_len : mg "len" = none
  z_list : mg "list" = none
  z_max : mg "max" = none
  z_min : mg "min" = none
  z_range : mg "range" = none
  z_str : mg "str" = none
  z_sum : mg "sum" = none
  z_tuple : mg "tuple" = none
  z_zip : mg "zip" = none
/-- not an int (a bool is none) -/
def NotI (K : PySem.W.Frag) (H : Hp) (x : V) : Prop := ∃ t b1 b2, TyX K H x t ∧ PySem.W.kitOne K t (.type "int") = some b1 ∧ PySem.W.kitOne K t (.type "bool") = some b2 ∧ (b1 && !b2) = false
/-- what x is, if an int -/
def IsI (K : PySem.W.Frag) (H : Hp) (x : V) : Option Int → Prop
  | some i => x = .int i
  | none => NotI K H x
def atLeast : Option Int → Int → Bool
  | some i, low => decide (low ≤ i)
  | none, _ => false
def between : Option Int → Int → Int → Bool
  | some i, low, high => decide (low ≤ i) && decide (i ≤ high)
  | none, _, _ => false

section
variable {P : Program} {w : World} {K : PySem.W.Frag} {mg : Str → Option Value} {base : Heap}
def sp_is_integer (K : PySem.W.Frag) : Sp := fun vs H Q _ => ∃ x o, vs = [x] ∧ IsI K H x o ∧ Q (.bl o.isSome) H
theorem ok_is_integer (T : TX K mg) : FnOk P w K mg base CX0 1 T.f_is_integer T.fd_is_integer ["value"] (sp_is_integer K) := by
  refine T.F_is_integer.ok sc_is_integer (fun vs H Q E h => ?_) (fun cdv A outer s H vs Q E hr h => ?_)
  · obtain ⟨x, o, rfl, _⟩ := h
    rfl
  · obtain ⟨x, o, rfl, hx, k⟩ := h
    refine ⟨_, (pss_one (ps_ret (pe_and (pe_callB call_isi (by rfl) T.z_isinstance (by decide +kernel) (pa_cons (pv 0) (pa_cons (pe_bltn (v := .ty "int") rfl T.z_int (by decide +kernel) rfl) pa_nil))) (pe_one (pe_not (pe_callB call_isi (by rfl) T.z_isinstance (by decide +kernel) (pa_cons (pv 0) (pa_cons (pe_bltn (v := .ty "bool") rfl T.z_bool (by decide +kernel) rfl) pa_nil)))))))), ?_⟩
    cases o with
    | some i =>
      cases hx
      exact ⟨_, rfl, _, _, _, _, true, rfl, .ty _, .base (.int i), kit_ty (by decide +kernel), _, rfl, _, rfl, _, _, _, _, false, rfl, .ty _, .base (.int i), kit_ty (by decide +kernel), _, rfl, k⟩
    | none =>
      obtain ⟨t, b1, b2, ht, h1, h2, hb⟩ := hx
      refine ⟨_, rfl, _, _, _, _, b1, rfl, .ty _, ht, h1, _, rfl, ?_⟩
      cases b1 with
      | false => exact k
      | true =>
        refine ⟨_, rfl, _, _, _, _, b2, rfl, .ty _, ht, h2, _, rfl, ?_⟩
        have e : (!b2) = false := hb
        rw [e]
        exact k
def sp_is_at_least (K : PySem.W.Frag) : Sp := fun vs H Q _ => ∃ x o low, vs = [x, .int low] ∧ IsI K H x o ∧ Q (.bl (atLeast o low)) H
theorem ok_is_at_least (T : TX K mg) : FnOk P w K mg base CX0 2 T.f_is_at_least T.fd_is_at_least ["value", "low"] (sp_is_at_least K) := by
  refine T.F_is_at_least.ok sc_is_at_least (fun vs H Q E h => ?_) (fun cdv A outer s H vs Q E hr h => ?_)
  · obtain ⟨x, o, low, rfl, _⟩ := h
    rfl
  · obtain ⟨x, o, low, rfl, hx, k⟩ := h
    refine ⟨_, (pss_one (ps_ret (pe_and (pe_call (ok_is_integer T) hr rfl T.m_is_integer T.F_is_integer.kp T.b_is_integer .nil pass0 (pa_cons (pv 0) pa_nil)) (pe_one (pe_cmpR op_ge (pv 0) (pv 1) (nomark _)))))), ?_⟩
    refine ⟨_, rfl, x, o, rfl, hx, _, rfl, ?_⟩
    cases o with
    | none => exact k
    | some i =>
      cases hx
      exact ⟨_, rfl, _, rfl, _, _, rfl, rfl, k⟩
def sp_is_between (K : PySem.W.Frag) : Sp := fun vs H Q _ => ∃ x o low high, vs = [x, .int low, .int high] ∧ IsI K H x o ∧ Q (.bl (between o low high)) H
theorem ok_is_between (T : TX K mg) : FnOk P w K mg base CX0 2 T.f_is_between T.fd_is_between ["value", "low", "high"] (sp_is_between K) := by
  refine T.F_is_between.ok sc_is_between (fun vs H Q E h => ?_) (fun cdv A outer s H vs Q E hr h => ?_)
  · obtain ⟨x, o, low, high, rfl, _⟩ := h
    rfl
  · obtain ⟨x, o, low, high, rfl, hx, k⟩ := h
    refine ⟨_, (pss_one (ps_ret (pe_and (pe_call (ok_is_integer T) hr rfl T.m_is_integer T.F_is_integer.kp T.b_is_integer .nil pass0 (pa_cons (pv 0) pa_nil)) (pe_one (pe_chain op_le op_le (pv 1) (pv 0) (pv 2)))))), ?_⟩
    refine ⟨_, rfl, x, o, rfl, hx, _, rfl, ?_⟩
    cases o with
    | none => exact k
    | some i =>
      cases hx
      refine ⟨_, rfl, _, rfl, _, _, rfl, rfl, _, rfl, ?_⟩
      refine ite2 (fun c => ?_) (fun c => ?_)
      · have c1 : low ≤ i := of_decide_eq_true c
        refine ⟨_, rfl, _, _, rfl, rfl, ?_⟩
        have e : between (some i) low high = decide (i ≤ high) := by show (decide (low ≤ i) && decide (i ≤ high)) = _; rw [c]; rfl
        rw [e] at k
        exact k
      · have e : between (some i) low high = false := by show (decide (low ≤ i) && decide (i ≤ high)) = _; rw [Bool.eq_false_iff.mpr c]; rfl
        rw [e] at k
        exact k
end

/-- a table of these sizes stands at a -/
def TabAt (C : Addr) (H : Hp) (a : Addr) (ns : List Int) : Prop := ∃ dx t, H a = some (.ins C dx [("rings", .ref t)]) ∧ H t = some (.tup (ns.map V.int))
theorem TabAt.mono {C : Addr} {H H2 : Hp} {a : Addr} {ns : List Int} (e : Ex H H2) (h : TabAt C H a ns) : TabAt C H2 a ns := by
  obtain ⟨dx, t, h1, h2⟩ := h
  exact ⟨dx, t, e _ _ h1, e _ _ h2⟩
/-- a tracked list (false) or tuple (true) -/
def SqH (H : Hp) (p : Bool × Addr) (xs : List V) : Prop := if p.1 = true then H p.2 = some (.tup xs) else H p.2 = some (.lst xs)
theorem SqH.sq {K : PySem.W.Frag} {H : Hp} {p : Bool × Addr} {xs : List V} (h : SqH H p xs) : CZ.SqK K H p xs := by
  obtain ⟨b, a⟩ := p
  cases b
  · exact SqL.of (show H a = some (.lst xs) from h)
  · exact SqT.of (show H a = some (.tup xs) from h)
theorem SqH.mono {H H2 : Hp} {p : Bool × Addr} {xs : List V} (e : Ex H H2) (h : SqH H p xs) : SqH H2 p xs := by
  obtain ⟨b, a⟩ := p
  cases b
  · exact e _ _ (show H a = some (.lst xs) from h)
  · exact e _ _ (show H a = some (.tup xs) from h)
theorem SqH.ty {K : PySem.W.Frag} {H : Hp} {p : Bool × Addr} {xs : List V} (h : SqH H p xs) : TyX K H (.ref p.2) (.type (if p.1 = true then "tuple" else "list")) := by
  obtain ⟨b, a⟩ := p
  cases b
  · exact .base (.lst (show H a = some (.lst xs) from h))
  · exact .base (.tup (show H a = some (.tup xs) from h))
/-- sizes of a table -/
structure SzOk (ns : List Int) : Prop where
  pos : ns ≠ []
  le : ns.length ≤ 4
  one : ∀ n ∈ ns, 1 ≤ n
theorem len_line {α : Type} {l : List α} (h : l.length ≤ 4) : l.length ≤ sizeLine := Nat.le_trans h (by decide)
theorem take_lt {α : Type} {l : List α} (h : l.length ≤ 1000) (i : Nat) : (l.take i).length < sizeLine := by
  rw [List.length_take]
  exact Nat.lt_of_le_of_lt (Nat.le_trans (Nat.min_le_right _ _) h) (by decide)
theorem take_more {α : Type} {l : List α} {i : Nat} {x : α} (h : l[i]? = some x) : l.take (i + 1) = l.take i ++ [x] := by
  rw [List.take_add_one, h]
  rfl
theorem kit_seq {K : PySem.W.Frag} (b : Bool) : PySem.W.kitAny K (.type (if b = true then "tuple" else "list")) [.type "list", .type "tuple"] = some true := by
  cases b
  · exact kitAny_cons (b := true) (kit_ty (by decide +kernel)) (fun h => nomatch h) (fun _ => rfl)
  · exact kitAny_cons (b := false) (kit_ty (by decide +kernel)) (fun _ => kitAny_cons (b := true) (kit_ty (by decide +kernel)) (fun h => nomatch h) (fun _ => rfl)) (fun h => nomatch h)
theorem sq_or {K : PySem.W.Frag} {H : Hp} {b : Bool} {a : Addr} {xs : List V} (h : SqH H (b, a) xs) : SqL K H a xs ∨ SqT K H a xs := by
  cases b
  · exact .inl (SqL.of (show H a = some (.lst xs) from h))
  · exact .inr (SqT.of (show H a = some (.tup xs) from h))
section
variable {P : Program} {w : World} {K : PySem.W.Frag} {mg : Str → Option Value} {base : Heap}
def sp_Table_init (C : Addr) : Sp := fun vs H Q _ => ∃ (p dx : Addr) (q : Bool × Addr) (ns : List Int), vs = [.ref p, .ref q.2] ∧ H p = some (.ins C dx []) ∧ SqH H q (ns.map V.int) ∧ SzOk ns ∧
  ∀ H2, (∀ c o, c ≠ p → H c = some o → H2 c = some o) → (∃ t, H2 p = some (.ins C dx [("rings", .ref t)]) ∧ H2 t = some (.tup (ns.map V.int))) → Q .non H2
theorem ok_Table_init (T : TX K mg) : FnOk P w K mg base CX0 3 T.f_Table_init T.fd_Table_init ["self", "rings"] (sp_Table_init T.C_Table) := by
  refine T.F_Table_init.ok sc_Table_init (fun vs H Q E h => ?_) (fun cdv A outer s H vs Q E hr h => ?_)
  · obtain ⟨p, dx, q, ns, rfl, _⟩ := h
    rfl
  · obtain ⟨p, dx, ⟨b, a⟩, ns, rfl, hp, hq, ok, k⟩ := h
    refine ⟨_, (pss_cons (ps_if (PW.pt (pw_or (pt_not (pt_val (pe_callB call_isiT (by rfl) T.z_isinstance (by decide +kernel) (pa_cons (pv 1) (pa_cons (pe_tup (pa_cons (pe_bltn (v := .ty "list") rfl T.z_list (by decide +kernel) rfl) (pa_cons (pe_bltn (v := .ty "tuple") rfl T.z_tuple (by decide +kernel) rfl) pa_nil))) pa_nil))))) (pw_or1 (pt_not (pt_chain op_le op_le pe_int (pe_callB call_len_seq (by rfl) T.z_len (by decide +kernel) (pa_cons (pv 1) pa_nil)) (pe_glob (v := .int 4) rfl T.c_MAX_RINGS ⟨_, rfl⟩)))))) pss_never pss_nil) (pss_cons (ps_if (pt_not (pt_val (pe_callB (cr_all rfl) (by rfl) T.z_all (by decide +kernel) (pa_cons (pe_lc (own := [("size", 2)]) (g := (gName 2)) rfl sc_Table_init.nd (pi_seq (pv 1)) (blkOk_by (N := N_Table_init) (sc := defScope s_Table_init) (by decide +kernel)) (fun _ _ _ _ _ => (pg_name (i := 2) sc_Table_init.nd rfl (Or.inl rfl))) (fun _ _ _ _ _ => pts_nil) (fun _ _ _ _ _ => (pe_call (ok_is_at_least T) hr rfl T.m_is_at_least T.F_is_at_least.kp T.b_is_at_least .nil pass0 (pa_cons (pv 2) (pa_cons pe_int pa_nil))))) pa_nil)))) pss_never pss_nil) (pss_one (ps_fld (pv 0) (pe_callTy call_tuple_of (by rfl) T.z_tuple (by decide +kernel) (pa_cons (pv 1) pa_nil)) rfl)))), ?_⟩
    refine ⟨_, rfl, by show 2 ≤ sizeLine; decide, fun y hy => ?_⟩
    refine ⟨_, y, _, _, _, true, rfl, upd_same, .cons (.ty _) (.cons (.ty _) .nil), (hq.mono (exn hy)).ty, kit_seq b, _, rfl, iteF ?_⟩
    have q1 := hq.mono (exn (o := .tup [.ty "list", .ty "tuple"]) hy)
    have lp : 1 ≤ ns.length := List.length_pos_iff.mpr ok.pos
    have l4 := ok.le
    refine ⟨_, rfl, a, _, rfl, sq_or q1, _, _, rfl, rfl, _, rfl, itt (decide_eq_true (by rw [List.length_map]; omega)) ?_⟩
    refine ⟨_, _, rfl, rfl, _, rfl, itf ?_ ?_⟩
    · rw [List.length_map, decide_eq_true (by omega)]
      rfl
    · have all1 : (ns.map fun n => atLeast (some n) 1).all id = true := by
        rw [List.all_map, List.all_eq_true]
        exact fun n hn => decide_eq_true (ok.one n hn)
      refine ⟨_, rfl, (b, a), rfl, ⟨_, q1.sq⟩, fun D hD => ?_⟩
      refine lc_vals walk_seq ((ns.map fun n => atLeast (some n) 1).map V.bl) (by simp) (by rw [List.length_map]; omega) hD (fun H3 e => (q1.mono e).sq) ?_ gmono_name ?_
      · intro i x H3 H4 R hi e yy kk
        obtain ⟨rfl, hx⟩ := yy
        obtain ⟨n, hn, rfl⟩ := map_get hx
        exact ⟨rfl, _, rfl, _, some n, 1, rfl, rfl, kk _ _ exr (by simp [hn])⟩
      · intro H3 e hD3
        have hp3 := e _ _ (exn hy _ _ hp)
        have q3 := q1.mono e
        have ex3 : Ex H H3 := fun c o z => e _ _ (exn hy _ _ z)
        refine ⟨D, _, rfl, SqL.of hD3, _, rfl, itf (by rw [all1]; rfl) ?_⟩
        cases b with
        | false =>
          refine ⟨_, rfl, a, _, rfl, .inl ⟨SqL.of q3, fun l hl => ?_⟩⟩
          have npl : p ≠ l := ne_of_none hp3 hl
          refine ⟨_, rfl, p, _, dx, _, rfl, (by rw [upd_ne npl]; exact hp3), T.cl_Table, T.n_Table_rings, (by show 0 < 1000; decide), ?_⟩
          refine k _ (fun c o hc z => ?_) ⟨l, upd_same, by rw [upd_ne npl.symm, upd_same]⟩
          rw [upd_ne hc, upd_ne (ne_of_none (ex3 c o z) hl)]
          exact ex3 c o z
        | true =>
          refine ⟨_, rfl, a, _, rfl, .inr ⟨SqT.of q3, ?_⟩⟩
          refine ⟨_, rfl, p, _, dx, _, rfl, hp3, T.cl_Table, T.n_Table_rings, (by show 0 < 1000; decide), ?_⟩
          have q3 : H3 a = some (.tup (ns.map V.int)) := q3
          refine k _ (fun c o hc z => ?_) ⟨a, upd_same, by rw [upd_ne (ne_of q3 hp3 (by intro z; cases z))]; exact q3⟩
          rw [upd_ne hc]
          exact ex3 c o z
end

theorem TyX.mono {K : PySem.W.Frag} {H H2 : Hp} {x : V} {t : Value} (e : Ex H H2) (h : TyX K H x t) : TyX K H2 x t := by
  cases h with
  | base h =>
    cases h with
    | non => exact .base .non
    | bl x => exact .base (.bl x)
    | int x => exact .base (.int x)
    | str x => exact .base (.str x)
    | flt x => exact .base (.flt x)
    | lst h => exact .base (.lst (e _ _ h))
    | frz h => exact .base (.frz (e _ _ h))
    | tup h => exact .base (.tup (e _ _ h))
    | dK h => exact .base (.dK (e _ _ h))
    | dT h => exact .base (.dT (e _ _ h))
    | ins h a b c d f => exact .base (.ins (e _ _ h) a b c d f)
  | byt b => exact .byt b
  | set h => exact .set (e _ _ h)
  | kList a b => exact .kList a b
  | kTuple a b => exact .kTuple a b
  | kDict a b => exact .kDict a b
  | fTuple h => exact .fTuple (e _ _ h)
  | fDict h => exact .fDict (e _ _ h)
theorem IsI.mono {K : PySem.W.Frag} {H H2 : Hp} {x : V} {o : Option Int} (e : Ex H H2) (h : IsI K H x o) : IsI K H2 x o := by
  cases o with
  | some i => exact h
  | none =>
    obtain ⟨t, b1, b2, ht, r⟩ := h
    exact ⟨t, b1, b2, TyX.mono e ht, r⟩
theorem paired_get {α β : Type} {R : α → β → Prop} : ∀ {l : List α} {m : List β} {i : Nat} {x : α}, Paired R l m → l[i]? = some x → ∃ y, m[i]? = some y ∧ R x y
  | _, _, _, _, .nil, h => by simp at h
  | _, _, 0, _, .cons r _, h => by simp at h; subst h; exact ⟨_, rfl, r⟩
  | _, _, i + 1, x, .cons _ t, h => by
    obtain ⟨y, h1, h2⟩ := paired_get (i := i) (x := x) t (by simpa using h)
    exact ⟨y, by simpa using h1, h2⟩
/-- what an argument is as a tuple: its items, as ints or not -/
def TupA (K : PySem.W.Frag) (H : Hp) (x : V) : Option (List (Option Int)) → Prop
  | some os => ∃ a xs, x = .ref a ∧ H a = some (.tup xs) ∧ xs.length ≤ 1000 ∧ Paired (IsI K H) xs os
  | none => ∃ t, TyX K H x t ∧ PySem.W.kitOne K t (.type "tuple") = some false
theorem paired_ints {K : PySem.W.Frag} {H : Hp} : ∀ ps : List Int, Paired (IsI K H) (ps.map V.int) (ps.map some)
  | [] => .nil
  | p :: ps => .cons rfl (paired_ints ps)
theorem TupA.ints {K : PySem.W.Frag} {H : Hp} {a : Addr} {ps : List Int} (h : H a = some (.tup (ps.map V.int))) (hl : ps.length ≤ 1000) : TupA K H (.ref a) (some (ps.map some)) :=
  ⟨a, _, rfl, h, by rw [List.length_map]; exact hl, paired_ints ps⟩
def isSeatO (ns : List Int) : Option (List (Option Int)) → Bool
  | some os => decide (os.length = ns.length) && (List.zipWith (fun o n => between o 0 (n - 1)) os ns).all id
  | none => false
def isCallO (ns : List Int) : Option (List (Option Int)) → Bool
  | some os => decide (os.length = ns.length) && (os.map Option.isSome).all id
  | none => false
/-- a seat: one place a ring -/
def SeatOk : List Int → List Int → Prop
  | n :: ns, p :: ps => (0 ≤ p ∧ p < n) ∧ SeatOk ns ps
  | [], [] => True
  | _, _ => False
theorem SeatOk.len : ∀ {ns ps : List Int}, SeatOk ns ps → ps.length = ns.length
  | [], [], _ => rfl
  | _ :: _, _ :: _, h => by
    show _ + 1 = _ + 1
    rw [SeatOk.len h.2]
theorem seat_is : ∀ {ns ps : List Int}, SeatOk ns ps → (List.zipWith (fun o n => between o 0 (n - 1)) (ps.map some) ns).all id = true
  | [], [], _ => rfl
  | n :: ns, p :: ps, h => by
    have ih := seat_is h.2
    show (between (some p) 0 (n - 1) && _) = true
    rw [Bool.and_eq_true]
    refine ⟨?_, ih⟩
    show (decide (0 ≤ p) && decide (p ≤ n - 1)) = true
    rw [decide_eq_true h.1.1, decide_eq_true (by have := h.1.2; omega)]
    rfl
theorem isSeat_ok {ns ps : List Int} (h : SeatOk ns ps) : isSeatO ns (some (ps.map some)) = true := by
  show (decide ((ps.map some).length = ns.length) && _) = true
  rw [Bool.and_eq_true]
  exact ⟨decide_eq_true (by rw [List.length_map]; exact h.len), seat_is h⟩
theorem isCall_ok {ns cs : List Int} (h : cs.length = ns.length) : isCallO ns (some (cs.map some)) = true := by
  show (decide ((cs.map some).length = ns.length) && _) = true
  rw [Bool.and_eq_true]
  refine ⟨decide_eq_true (by rw [List.length_map]; exact h), ?_⟩
  rw [List.map_map, List.all_map, List.all_eq_true]
  exact fun _ _ => rfl
/-- a step by a multiple of a call -/
def shiftL : List Int → List Int → List Int → Int → List Int
  | n :: ns, p :: ps, c :: cs, f => (p + f * c) % n :: shiftL ns ps cs f
  | _, _, _, _ => []
theorem shift_len : ∀ {ns ps cs : List Int} {f : Int}, ps.length = ns.length → cs.length = ns.length → (shiftL ns ps cs f).length = ns.length
  | [], _, _, _, _, _ => by simp [shiftL]
  | _ :: ns, p :: ps, c :: cs, f, h1, h2 => by
    have ih := @shift_len ns ps cs f (by simpa using h1) (by simpa using h2)
    show (shiftL ns ps cs f).length + 1 = _ + 1
    rw [ih]
theorem shift_get : ∀ {ns ps cs : List Int} {f : Int} {i : Nat} {n p c : Int}, ns[i]? = some n → ps[i]? = some p → cs[i]? = some c → (shiftL ns ps cs f)[i]? = some ((p + f * c) % n)
  | n :: ns, p :: ps, c :: cs, f, 0, _, _, _, h1, h2, h3 => by
    simp at h1 h2 h3
    subst h1 h2 h3
    rfl
  | n :: ns, p :: ps, c :: cs, f, i + 1, a, b, d, h1, h2, h3 => by
    have ih := @shift_get ns ps cs f i a b d (by simpa using h1) (by simpa using h2) (by simpa using h3)
    show (shiftL ns ps cs f)[i]? = _
    exact ih
  | [], _, _, _, i, _, _, _, h1, _, _ => by simp at h1
  | _ :: _, [], _, _, i, _, _, _, _, h2, _ => by simp at h2
  | _ :: _, _ :: _, [], _, i, _, _, _, _, _, h3 => by simp at h3
theorem mul_ok {i j : Int} (h : (-(2 ^ 64) < i ∧ i < 2 ^ 64) ∨ (-(2 ^ 64) < j ∧ j < 2 ^ 64)) : IntMulOk i j := CMul.ok h
theorem zip_get {α β γ : Type} {f : α → β → γ} {l : List α} {m : List β} {i : Nat} {x : α} {y : β} (h1 : l[i]? = some x) (h2 : m[i]? = some y) : (List.zipWith f l m)[i]? = some (f x y) := by
  rw [List.getElem?_zipWith, h1, h2]
section
variable {P : Program} {w : World} {K : PySem.W.Frag} {mg : Str → Option Value} {base : Heap}
def sp_Table_sizes (C : Addr) : Sp := fun vs H Q _ => ∃ (a dx t : Addr), vs = [.ref a] ∧ H a = some (.ins C dx [("rings", .ref t)]) ∧ Q (.ref t) H
theorem ok_Table_sizes (T : TX K mg) : FnOk P w K mg base CX0 1 T.f_Table_sizes T.fd_Table_sizes ["self"] (sp_Table_sizes T.C_Table) := by
  refine T.F_Table_sizes.ok sc_Table_sizes (fun vs H Q E h => ?_) (fun cdv A outer s H vs Q E hr h => ?_)
  · obtain ⟨a, dx, t, rfl, _⟩ := h
    rfl
  · obtain ⟨a, dx, t, rfl, h1, k⟩ := h
    exact ⟨_, (pss_one (ps_ret (pe_fld (pv 0) rfl))), ⟨_, rfl, a, _, dx, _, _, rfl, h1, T.cl_Table, T.n_Table_rings, rfl, k⟩⟩
def sp_Table_is_seat (K : PySem.W.Frag) (C : Addr) : Sp := fun vs H Q _ => ∃ (a : Addr) (x : V) (ns : List Int) (ot : Option (List (Option Int))), vs = [.ref a, x] ∧ TabAt C H a ns ∧ ns.length ≤ 4 ∧ TupA K H x ot ∧ ∀ H2, Ex H H2 → Q (.bl (isSeatO ns ot)) H2
theorem ok_Table_is_seat (T : TX K mg) : FnOk P w K mg base CX0 3 T.f_Table_is_seat T.fd_Table_is_seat ["self", "value"] (sp_Table_is_seat K T.C_Table) := by
  refine T.F_Table_is_seat.ok sc_Table_is_seat (fun vs H Q E h => ?_) (fun cdv A outer s H vs Q E hr h => ?_)
  · obtain ⟨a, x, ns, ot, rfl, _⟩ := h
    rfl
  · obtain ⟨a, x, ns, ot, rfl, ⟨dx, t, h1, h2⟩, l4, hx, k⟩ := h
    refine ⟨_, (pss_cons (ps_if (PW.pt (pw_or (pt_not (pt_val (pe_callB call_isi (by rfl) T.z_isinstance (by decide +kernel) (pa_cons (pv 1) (pa_cons (pe_bltn (v := .ty "tuple") rfl T.z_tuple (by decide +kernel) rfl) pa_nil))))) (pw_or1 (pt_cmpR op_ne (pe_callB call_len_seq (by rfl) T.z_len (by decide +kernel) (pa_cons (pv 1) pa_nil)) (pe_callB call_len_seq (by rfl) T.z_len (by decide +kernel) (pa_cons (pe_fld (pv 0) rfl) pa_nil)) (nomark _))))) (pss_one (ps_ret pe_bl)) pss_nil) (pss_one (ps_ret (pe_callB (cr_all rfl) (by rfl) T.z_all (by decide +kernel) (pa_cons (pe_lc (own := [("place", 2), ("size", 3)]) (g := (gTup K 2 (gCons (gName 2) (gCons (gName 3) gNil)))) rfl sc_Table_is_seat.nd (CZ.pi_z2s (fl := [true, true]) rfl (by rfl) T.z_zip (pa_cons (pv 1) (pa_cons (pe_fld (pv 0) rfl) pa_nil))) (blkOk_by (N := N_Table_is_seat) (sc := defScope s_Table_is_seat) (by decide +kernel)) (fun _ _ _ _ _ => (pg_tup rfl (pgs_cons (pg_name (i := 2) sc_Table_is_seat.nd rfl (Or.inl rfl)) (pgs_cons (pg_name (i := 3) sc_Table_is_seat.nd rfl (Or.inl rfl)) pgs_nil)))) (fun _ _ _ _ _ => pts_nil) (fun _ _ _ _ _ => (pe_call (ok_is_between T) hr rfl T.m_is_between T.F_is_between.kp T.b_is_between .nil pass0 (pa_cons (pv 2) (pa_cons pe_int (pa_cons (pe_op op_sub (pv 3) pe_int) pa_nil)))))) pa_nil))))), ?_⟩
    cases ot with
    | none =>
      obtain ⟨ty, hty, hk⟩ := hx
      exact ⟨_, rfl, _, _, _, _, false, rfl, .ty _, hty, hk, _, rfl, k _ exr⟩
    | some os =>
      obtain ⟨v, xs, rfl, hv, hl, hp⟩ := hx
      have lo : xs.length = os.length := Paired.length hp
      refine ⟨_, rfl, _, _, _, _, true, rfl, .ty _, .base (.tup hv), kit_ty (by decide +kernel), _, rfl, iteF ?_⟩
      refine ⟨_, rfl, v, _, rfl, .inr (SqT.of hv), _, rfl, a, _, dx, _, _, rfl, h1, T.cl_Table, T.n_Table_rings, rfl, t, _, rfl, .inr (SqT.of h2), rfl, _, rfl, ?_⟩
      by_cases c : os.length = ns.length
      · refine itf ?_ ?_
        · rw [List.length_map, lo, c]
          simp
        · refine ⟨_, rfl, _, rfl, a, _, dx, _, _, rfl, h1, T.cl_Table, T.n_Table_rings, rfl, [v, t], rfl, rfl, ?_, fun D hD => ?_⟩
          · intro p hp2
            rcases List.mem_cons.mp (show p ∈ [(true, v), (true, t)] from hp2) with e | e
            · rw [e]; exact ⟨xs, SqT.of hv⟩
            · rw [List.mem_singleton.mp e]; exact ⟨_, SqT.of h2⟩
          · have lv : (List.zipWith (fun o n => between o 0 (n - 1)) os ns).length = ns.length := by rw [List.length_zipWith, c, Nat.min_self]
            refine lc_vals (CZ.walk_rows (xss := [xs, ns.map V.int]) (n := ns.length) ?_) ((List.zipWith (fun o n => between o 0 (n - 1)) os ns).map V.bl) (by rw [List.length_map, lv]) (by omega) hD (fun H3 e => .cons (SqT.of (e _ _ hv)) (.cons (SqT.of (e _ _ h2)) .nil)) ?_ (gmono_tup (gmono_cons gmono_name (gmono_cons gmono_name gmono_nil))) ?_
            · intro ys hy
              rcases List.mem_cons.mp hy with e | e
              · rw [e, lo, c]
              · rw [List.mem_singleton.mp e, List.length_map]
            · intro i y H3 H4 R hi e yy kk
              obtain ⟨Ta, vs, rfl, hT, rfl, hr2⟩ := yy
              cases hr2 with
              | cons r1 hr2 =>
                cases hr2 with
                | cons r2 hr2 =>
                  cases hr2
                  obtain ⟨n, hn, rfl⟩ := map_get r2
                  obtain ⟨o, ho, hi2⟩ := paired_get hp r1
                  refine ⟨Ta, _, rfl, SqT.of upd_same, rfl, _, _, rfl, _, _, rfl, rfl, rfl, ?_⟩
                  refine ⟨_, rfl, _, rfl, _, _, rfl, rfl, _, o, 0, n - 1, rfl, hi2.mono (fun b u z => exn hT b u (e b u z)), ?_⟩
                  refine kk _ _ (exn hT) ?_
                  rw [List.getElem?_map, zip_get ho hn]
                  rfl
            · intro H3 e hD3
              refine ⟨D, _, rfl, SqL.of hD3, ?_⟩
              have es : isSeatO ns (some os) = (List.zipWith (fun o n => between o 0 (n - 1)) os ns).all id := by
                show (decide _ && _) = _
                rw [decide_eq_true c, Bool.true_and]
              rw [← es]
              exact k _ e
      · refine itt ?_ ?_
        · rw [List.length_map, lo]
          simp
          omega
        · have es : isSeatO ns (some os) = false := by
            show (decide _ && _) = _
            rw [decide_eq_false c, Bool.false_and]
          have := k _ exr
          rw [es] at this
          exact this
end

/-- what an argument is as a text -/
def StrA (K : PySem.W.Frag) (H : Hp) (x : V) : Option Str → Prop
  | some z => x = .str z
  | none => ∃ t, TyX K H x t ∧ PySem.W.kitOne K t (.type "str") = some false
def isDirO : Option Str → Bool
  | some z => decide (z = "forward") || decide (z = "backward")
  | none => false
theorem tup_ge {xs : List V} (h : xs.length ≤ 4) : xs.length ≤ sizeLine := Nat.le_trans h (by decide)
section
variable {P : Program} {w : World} {K : PySem.W.Frag} {mg : Str → Option Value} {base : Heap}
def sp_Table_is_call (K : PySem.W.Frag) (C : Addr) : Sp := fun vs H Q _ => ∃ (a : Addr) (x : V) (ns : List Int) (ot : Option (List (Option Int))), vs = [.ref a, x] ∧ TabAt C H a ns ∧ TupA K H x ot ∧ ∀ H2, Ex H H2 → Q (.bl (isCallO ns ot)) H2
theorem ok_Table_is_call (T : TX K mg) : FnOk P w K mg base CX0 2 T.f_Table_is_call T.fd_Table_is_call ["self", "value"] (sp_Table_is_call K T.C_Table) := by
  refine T.F_Table_is_call.ok sc_Table_is_call (fun vs H Q E h => ?_) (fun cdv A outer s H vs Q E hr h => ?_)
  · obtain ⟨a, x, ns, ot, rfl, _⟩ := h
    rfl
  · obtain ⟨a, x, ns, ot, rfl, ⟨dx, t, h1, h2⟩, hx, k⟩ := h
    refine ⟨_, (pss_one (ps_ret (pe_and (pe_callB call_isi (by rfl) T.z_isinstance (by decide +kernel) (pa_cons (pv 1) (pa_cons (pe_bltn (v := .ty "tuple") rfl T.z_tuple (by decide +kernel) rfl) pa_nil))) (pe_and (pe_cmpR op_eq (pe_callB call_len_seq (by rfl) T.z_len (by decide +kernel) (pa_cons (pv 1) pa_nil)) (pe_callB call_len_seq (by rfl) T.z_len (by decide +kernel) (pa_cons (pe_fld (pv 0) rfl) pa_nil)) (nomark _)) (pe_one (pe_callB (cr_all rfl) (by rfl) T.z_all (by decide +kernel) (pa_cons (pe_lc (own := [("one", 2)]) (g := (gName 2)) rfl sc_Table_is_call.nd (pi_tup (pv 1)) (blkOk_by (N := N_Table_is_call) (sc := defScope s_Table_is_call) (by decide +kernel)) (fun _ _ _ _ _ => (pg_name (i := 2) sc_Table_is_call.nd rfl (Or.inl rfl))) (fun _ _ _ _ _ => pts_nil) (fun _ _ _ _ _ => (pe_call (ok_is_integer T) hr rfl T.m_is_integer T.F_is_integer.kp T.b_is_integer .nil pass0 (pa_cons (pv 2) pa_nil)))) pa_nil))))))), ?_⟩
    cases ot with
    | none =>
      obtain ⟨ty, hty, hk⟩ := hx
      exact ⟨_, rfl, _, _, _, _, false, rfl, .ty _, hty, hk, _, rfl, k _ exr⟩
    | some os =>
      obtain ⟨v, xs, rfl, hv, hl, hp⟩ := hx
      have lo : xs.length = os.length := Paired.length hp
      refine ⟨_, rfl, _, _, _, _, true, rfl, .ty _, .base (.tup hv), kit_ty (by decide +kernel), _, rfl, iteT ?_⟩
      refine ⟨_, rfl, v, _, rfl, .inr (SqT.of hv), _, rfl, a, _, dx, _, _, rfl, h1, T.cl_Table, T.n_Table_rings, rfl, t, _, rfl, .inr (SqT.of h2), rfl, _, rfl, ?_⟩
      by_cases c : os.length = ns.length
      · refine itt ?_ ?_
        · rw [List.length_map, lo, c]
          simp
        · refine ⟨_, rfl, v, rfl, ⟨_, SqT.of hv⟩, fun D hD => ?_⟩
          refine lc_vals walk_tup ((os.map Option.isSome).map V.bl) (by rw [List.length_map, List.length_map, lo]) (by omega) hD (fun H3 e => SqT.of (e _ _ hv)) ?_ gmono_name ?_
          · intro i y H3 H4 R hi e yy kk
            obtain ⟨rfl, hy⟩ := yy
            obtain ⟨o, ho, hi2⟩ := paired_get hp hy
            refine ⟨rfl, _, rfl, _, o, rfl, hi2.mono e, kk _ _ exr ?_⟩
            rw [List.getElem?_map, List.getElem?_map, ho]
            rfl
          · intro H3 e hD3
            refine ⟨D, _, rfl, SqL.of hD3, ?_⟩
            have es : isCallO ns (some os) = (os.map Option.isSome).all id := by
              show (decide _ && _) = _
              rw [decide_eq_true c, Bool.true_and]
            rw [← es]
            exact k _ e
      · refine itf ?_ ?_
        · rw [List.length_map, lo]
          simp
          omega
        · have es : isCallO ns (some os) = false := by
            show (decide _ && _) = _
            rw [decide_eq_false c, Bool.false_and]
          have := k _ exr
          rw [es] at this
          exact this
def sp_Table_shifted (C : Addr) : Sp := fun vs H Q _ => ∃ (a s c : Addr) (f : Int) (ns ps cs : List Int), vs = [.ref a, .ref s, .ref c, .int f] ∧ TabAt C H a ns ∧ SzOk ns ∧ H s = some (.tup (ps.map V.int)) ∧ H c = some (.tup (cs.map V.int)) ∧ ps.length = ns.length ∧ cs.length = ns.length ∧ (f = 1 ∨ f = -1) ∧
  ∀ H2 q, Ex H H2 → H q = none → H2 q = some (.tup ((shiftL ns ps cs f).map V.int)) → Q (.ref q) H2
theorem ok_Table_shifted (T : TX K mg) : FnOk P w K mg base CX0 1 T.f_Table_shifted T.fd_Table_shifted ["self", "seat", "call", "factor"] (sp_Table_shifted T.C_Table) := by
  refine T.F_Table_shifted.ok sc_Table_shifted (fun vs H Q E h => ?_) (fun cdv A outer s H vs Q E hr h => ?_)
  · obtain ⟨a, s, c, f, ns, ps, cs, rfl, _⟩ := h
    rfl
  · obtain ⟨a, s, c, f, ns, ps, cs, rfl, ⟨dx, t, h1, h2⟩, ok, hs, hc, lp, lc, hf, k⟩ := h
    have l4 := ok.le
    refine ⟨_, (pss_one (ps_ret (pe_callTy call_tuple_of (by rfl) T.z_tuple (by decide +kernel) (pa_cons (pe_lc (own := [("place", 4), ("one", 5), ("size", 6)]) (g := (gTup K 3 (gCons (gName 4) (gCons (gName 5) (gCons (gName 6) gNil))))) rfl sc_Table_shifted.nd (CZ.pi_z3s (fl := [true, true, true]) rfl (by rfl) T.z_zip (pa_cons (pv 1) (pa_cons (pv 2) (pa_cons (pe_fld (pv 0) rfl) pa_nil)))) (blkOk_by (N := N_Table_shifted) (sc := defScope s_Table_shifted) (by decide +kernel)) (fun _ _ _ _ _ => (pg_tup rfl (pgs_cons (pg_name (i := 4) sc_Table_shifted.nd rfl (Or.inl rfl)) (pgs_cons (pg_name (i := 5) sc_Table_shifted.nd rfl (Or.inl rfl)) (pgs_cons (pg_name (i := 6) sc_Table_shifted.nd rfl (Or.inl rfl)) pgs_nil))))) (fun _ _ _ _ _ => pts_nil) (fun _ _ _ _ _ => (pe_op op_mod (pe_op op_add (pv 4) (pe_op op_mulI (pv 3) (pv 5))) (pv 6)))) pa_nil)))), ?_⟩
    refine ⟨_, rfl, _, rfl, _, rfl, a, _, dx, _, _, rfl, h1, T.cl_Table, T.n_Table_rings, rfl, [s, c, t], rfl, rfl, ?_, fun D hD => ?_⟩
    · intro p hp2
      have hp3 : p = (true, s) ∨ p = (true, c) ∨ p = (true, t) := by simpa using hp2
      rcases hp3 with e | e | e
      · rw [e]; exact ⟨_, SqT.of hs⟩
      · rw [e]; exact ⟨_, SqT.of hc⟩
      · rw [e]; exact ⟨_, SqT.of h2⟩
    · have ls : (shiftL ns ps cs f).length = ns.length := shift_len lp lc
      refine lc_vals (CZ.walk_rows (xss := [ps.map V.int, cs.map V.int, ns.map V.int]) (n := ns.length) ?_) ((shiftL ns ps cs f).map V.int) (by rw [List.length_map, ls]) (by omega) hD (fun H3 e => .cons (SqT.of (e _ _ hs)) (.cons (SqT.of (e _ _ hc)) (.cons (SqT.of (e _ _ h2)) .nil))) ?_ (gmono_tup (gmono_cons gmono_name (gmono_cons gmono_name (gmono_cons gmono_name gmono_nil)))) ?_
      · intro ys hy
        have hy2 : ys = ps.map V.int ∨ ys = cs.map V.int ∨ ys = ns.map V.int := by simpa using hy
        rcases hy2 with e | e | e
        · rw [e, List.length_map, lp]
        · rw [e, List.length_map, lc]
        · rw [e, List.length_map]
      · intro i y H3 H4 R hi e yy kk
        obtain ⟨Ta, vs, rfl, hT, rfl, hr2⟩ := yy
        cases hr2 with
        | cons r1 hr2 =>
          cases hr2 with
          | cons r2 hr2 =>
            cases hr2 with
            | cons r3 hr2 =>
              cases hr2
              obtain ⟨p, hp, rfl⟩ := map_get r1
              obtain ⟨d, hd, rfl⟩ := map_get r2
              obtain ⟨n, hn, rfl⟩ := map_get r3
              have n1 := ok.one n (List.mem_of_getElem? hn)
              refine ⟨Ta, _, rfl, SqT.of upd_same, rfl, _, _, rfl, _, _, rfl, _, _, rfl, rfl, rfl, ?_⟩
              refine ⟨_, rfl, _, rfl, _, rfl, _, _, rfl, rfl, mul_ok (.inl (by rcases hf with e | e <;> rw [e] <;> decide)), _, _, rfl, rfl, _, rfl, _, _, rfl, rfl, (by show (0 : Int) < n; omega), ?_⟩
              refine kk _ _ (exn hT) ?_
              rw [List.getElem?_map, shift_get hn hp hd]
              rfl
      · intro H3 e hD3
        exact ⟨D, _, rfl, .inl ⟨SqL.of hD3, fun q hq => k _ q (fun b o z => exn hq b o (e b o z)) (Evl.fresh_back e hq) upd_same⟩⟩
def sp_is_direction (K : PySem.W.Frag) : Sp := fun vs H Q _ => ∃ x o, vs = [x] ∧ StrA K H x o ∧ ∀ H2, Ex H H2 → Q (.bl (isDirO o)) H2
theorem ok_is_direction (T : TX K mg) : FnOk P w K mg base CX0 1 T.f_is_direction T.fd_is_direction ["value"] (sp_is_direction K) := by
  refine T.F_is_direction.ok sc_is_direction (fun vs H Q E h => ?_) (fun cdv A outer s H vs Q E hr h => ?_)
  · obtain ⟨x, o, rfl, _⟩ := h
    rfl
  · obtain ⟨x, o, rfl, hx, k⟩ := h
    refine ⟨_, (pss_one (ps_ret (pe_and (pe_callB call_isi (by rfl) T.z_isinstance (by decide +kernel) (pa_cons (pv 0) (pa_cons (pe_bltn (v := .ty "str") rfl T.z_str (by decide +kernel) rfl) pa_nil))) (pe_one (pe_cmpR op_in_seq (pv 0) (pe_tup (pa_cons pe_str (pa_cons pe_str pa_nil))) rfl))))), ?_⟩
    cases o with
    | none =>
      obtain ⟨t, ht, hk⟩ := hx
      exact ⟨_, rfl, _, _, _, _, false, rfl, .ty _, ht, hk, _, rfl, k _ exr⟩
    | some z =>
      cases hx
      refine ⟨_, rfl, _, _, _, _, true, rfl, .ty _, .base (.str z), kit_ty (by decide +kernel), _, rfl, iteT ?_⟩
      refine ⟨_, rfl, by show 2 ≤ sizeLine; decide, fun p hp => ?_⟩
      refine ⟨p, _, rfl, .inr (SqT.of upd_same), rfl, rfl, ?_⟩
      have es : (if false = true then !inV (V.str z) [V.str "forward", V.str "backward"] else inV (V.str z) [V.str "forward", V.str "backward"]) = isDirO (some z) := by
        rw [if_neg Bool.false_ne_true]
        show (eqV (V.str "forward") (V.str z) || (eqV (V.str "backward") (V.str z) || false)) = (decide (z = "forward") || decide (z = "backward"))
        have h1 : eqV (V.str "forward") (V.str z) = decide (z = "forward") := by
          show decide (("forward" : Str) = z) = _
          exact decide_eq_decide.mpr ⟨Eq.symm, Eq.symm⟩
        have h2 : eqV (V.str "backward") (V.str z) = decide (z = "backward") := by
          show decide (("backward" : Str) = z) = _
          exact decide_eq_decide.mpr ⟨Eq.symm, Eq.symm⟩
        rw [h1, h2, Bool.or_false]
      rw [es]
      exact k _ (exn hp)
def sp_require_seat (K : PySem.W.Frag) (C : Addr) : Sp := fun vs H Q _ => ∃ (a : Addr) (x : V) (ns : List Int) (ot : Option (List (Option Int))), vs = [.ref a, x] ∧ TabAt C H a ns ∧ ns.length ≤ 4 ∧ TupA K H x ot ∧ isSeatO ns ot = true ∧ ∀ H2, Ex H H2 → Q .non H2
theorem ok_require_seat (T : TX K mg) : FnOk P w K mg base CX0 4 T.f_require_seat T.fd_require_seat ["table", "seat"] (sp_require_seat K T.C_Table) := by
  refine T.F_require_seat.ok sc_require_seat (fun vs H Q E h => ?_) (fun cdv A outer s H vs Q E hr h => ?_)
  · obtain ⟨a, x, ns, ot, rfl, _⟩ := h
    rfl
  · obtain ⟨a, x, ns, ot, rfl, ht, l4, hx, ok, k⟩ := h
    refine ⟨_, (pss_one (ps_if (pt_not (pt_val (pe_meth (pv 0) T.cl_Table T.me_Table_is_seat (ok_Table_is_seat T) hr T.b_Table_is_seat .nil pass0 (pa_cons (pv 1) pa_nil)))) pss_never pss_nil)), ?_⟩
    obtain ⟨dx, t, h1, h2⟩ := id ht
    refine ⟨_, rfl, a, dx, _, rfl, h1, rfl, _, rfl, a, x, ns, ot, rfl, ht, l4, hx, fun H2 e => ⟨_, rfl, itf (by rw [ok]; rfl) (k _ e)⟩⟩
def sp_require_call (K : PySem.W.Frag) (C : Addr) : Sp := fun vs H Q _ => ∃ (a : Addr) (x : V) (ns : List Int) (ot : Option (List (Option Int))), vs = [.ref a, x] ∧ TabAt C H a ns ∧ TupA K H x ot ∧ isCallO ns ot = true ∧ ∀ H2, Ex H H2 → Q .non H2
theorem ok_require_call (T : TX K mg) : FnOk P w K mg base CX0 3 T.f_require_call T.fd_require_call ["table", "call"] (sp_require_call K T.C_Table) := by
  refine T.F_require_call.ok sc_require_call (fun vs H Q E h => ?_) (fun cdv A outer s H vs Q E hr h => ?_)
  · obtain ⟨a, x, ns, ot, rfl, _⟩ := h
    rfl
  · obtain ⟨a, x, ns, ot, rfl, ht, hx, ok, k⟩ := h
    refine ⟨_, (pss_one (ps_if (pt_not (pt_val (pe_meth (pv 0) T.cl_Table T.me_Table_is_call (ok_Table_is_call T) hr T.b_Table_is_call .nil pass0 (pa_cons (pv 1) pa_nil)))) pss_never pss_nil)), ?_⟩
    obtain ⟨dx, t, h1, h2⟩ := id ht
    refine ⟨_, rfl, a, dx, _, rfl, h1, rfl, _, rfl, a, x, ns, ot, rfl, ht, hx, fun H2 e => ⟨_, rfl, itf (by rw [ok]; rfl) (k _ e)⟩⟩
def sp_Table_moves (C : Addr) : Sp := fun vs H Q _ => ∃ (a s c : Addr) (ns ps cs : List Int), vs = [.ref a, .ref s, .ref c] ∧ TabAt C H a ns ∧ SzOk ns ∧ H s = some (.tup (ps.map V.int)) ∧ H c = some (.tup (cs.map V.int)) ∧ SeatOk ns ps ∧ cs.length = ns.length ∧
  ∀ H2 q f b, Ex H H2 → H q = none → H f = none → H b = none → H2 q = some (.tup [.ref f, .ref b]) → H2 f = some (.tup ((shiftL ns ps cs 1).map V.int)) → H2 b = some (.tup ((shiftL ns ps cs (-1)).map V.int)) → Q (.ref q) H2
theorem ok_Table_moves (T : TX K mg) : FnOk P w K mg base CX0 5 T.f_Table_moves T.fd_Table_moves ["self", "seat", "call"] (sp_Table_moves T.C_Table) := by
  refine T.F_Table_moves.ok sc_Table_moves (fun vs H Q E h => ?_) (fun cdv A outer s H vs Q E hr h => ?_)
  · obtain ⟨a, s, c, ns, ps, cs, rfl, _⟩ := h
    rfl
  · obtain ⟨a, s, c, ns, ps, cs, rfl, ht, ok, hs, hc, sk, lc, k⟩ := h
    have l4 := ok.le
    have lp := sk.len
    refine ⟨_, (pss_cons (ps_expr (pe_call (ok_require_seat T) hr rfl T.m_require_seat T.F_require_seat.kp T.b_require_seat .nil pass0 (pa_cons (pv 0) (pa_cons (pv 1) pa_nil)))) (pss_cons (ps_expr (pe_call (ok_require_call T) (hr.mono (by decide)) rfl T.m_require_call T.F_require_call.kp T.b_require_call .nil pass0 (pa_cons (pv 0) (pa_cons (pv 2) pa_nil)))) (pss_one (ps_ret (pe_tup (pa_cons (pe_meth (pv 0) T.cl_Table T.me_Table_shifted (ok_Table_shifted T) (hr.mono (by decide)) T.b_Table_shifted .nil pass0 (pa_cons (pv 1) (pa_cons (pv 2) (pa_cons pe_int pa_nil)))) (pa_cons (pe_meth (pv 0) T.cl_Table T.me_Table_shifted (ok_Table_shifted T) (hr.mono (by decide)) T.b_Table_shifted .nil pass0 (pa_cons (pv 1) (pa_cons (pv 2) (pa_cons (pe_un un_neg pe_int) pa_nil)))) pa_nil))))))), ?_⟩
    refine ⟨_, rfl, _, rfl, a, _, ns, _, rfl, ht, l4, TupA.ints hs (by omega), isSeat_ok sk, fun H1 e1 => ?_⟩
    refine ⟨_, rfl, _, rfl, a, _, ns, _, rfl, ht.mono e1, TupA.ints (e1 _ _ hc) (by omega), isCall_ok lc, fun H2 e2 => ?_⟩
    have e12 : Ex H H2 := fun b o z => e2 b o (e1 b o z)
    obtain ⟨dx, t, g1, g2⟩ := ht.mono e12
    refine ⟨_, rfl, a, dx, _, rfl, g1, rfl, _, rfl, _, rfl, a, s, c, 1, ns, ps, cs, rfl, ⟨dx, t, g1, g2⟩, ok, e12 _ _ hs, e12 _ _ hc, lp, lc, .inl rfl, fun H3 f e3 nf hf => ?_⟩
    have e13 : Ex H H3 := fun b o z => e3 b o (e12 b o z)
    refine ⟨_, rfl, a, dx, _, rfl, e3 _ _ g1, rfl, _, rfl, _, rfl, _, rfl, a, s, c, -1, ns, ps, cs, rfl, ⟨dx, t, e3 _ _ g1, e3 _ _ g2⟩, ok, e13 _ _ hs, e13 _ _ hc, lp, lc, .inr rfl, fun H4 b e4 nb hb => ?_⟩
    have e14 : Ex H H4 := fun b o z => e4 b o (e13 b o z)
    refine ⟨by show 2 ≤ sizeLine; decide, fun q hq => ?_⟩
    have nfq : f ≠ q := ne_of_none (e4 _ _ hf) hq
    have nbq : b ≠ q := ne_of_none hb hq
    exact k _ q f b (fun c o z => exn hq c o (e14 c o z)) (Evl.fresh_back e14 hq) (Evl.fresh_back e12 nf) (Evl.fresh_back e13 nb) upd_same (by rw [upd_ne nfq]; exact e4 _ _ hf) (by rw [upd_ne nbq]; exact hb)
def sp_Table_step (C : Addr) : Sp := fun vs H Q _ => ∃ (a s c : Addr) (ns ps cs : List Int) (bk : Bool), vs = [.ref a, .ref s, .ref c, .str (if bk = true then "backward" else "forward")] ∧ TabAt C H a ns ∧ SzOk ns ∧ H s = some (.tup (ps.map V.int)) ∧ H c = some (.tup (cs.map V.int)) ∧ SeatOk ns ps ∧ cs.length = ns.length ∧
  ∀ H2 q, Ex H H2 → H q = none → H2 q = some (.tup ((shiftL ns ps cs (if bk = true then -1 else 1)).map V.int)) → Q (.ref q) H2
theorem ok_Table_step (T : TX K mg) : FnOk P w K mg base CX0 6 T.f_Table_step T.fd_Table_step ["self", "seat", "call", "direction"] (sp_Table_step T.C_Table) := by
  refine T.F_Table_step.ok sc_Table_step (fun vs H Q E h => ?_) (fun cdv A outer s H vs Q E hr h => ?_)
  · obtain ⟨a, s, c, ns, ps, cs, bk, rfl, _⟩ := h
    rfl
  · obtain ⟨a, s, c, ns, ps, cs, bk, rfl, ht, ok, hs, hc, sk, lc, k⟩ := h
    refine ⟨_, (pss_cons (ps_set (i := 4) sc_Table_step.nd rfl (Or.inl rfl) (pe_meth (pv 0) T.cl_Table T.me_Table_moves (ok_Table_moves T) hr T.b_Table_moves .nil pass0 (pa_cons (pv 1) (pa_cons (pv 2) pa_nil)))) (pss_cons (ps_if (pt_not (pt_val (pe_call (ok_is_direction T) (hr.mono (by decide)) rfl T.m_is_direction T.F_is_direction.kp T.b_is_direction .nil pass0 (pa_cons (pv 3) pa_nil)))) pss_never pss_nil) (pss_one (ps_ret (pe_ix ix_tup (pv 4) (pe_callTy call_int1 (by rfl) T.z_int (by decide +kernel) (pa_cons (pe_cmpR op_eq (pv 3) pe_str (nomark _)) pa_nil)) (fun _ _ => rfl)))))), ?_⟩
    obtain ⟨dx, t, g1, g2⟩ := id ht
    refine ⟨_, rfl, a, dx, _, rfl, g1, rfl, _, rfl, _, rfl, a, s, c, ns, ps, cs, rfl, ht, ok, hs, hc, sk, lc, fun H1 q f b e1 nq nf nb hq hf hb => ?_⟩
    refine ⟨_, rfl, _, some _, rfl, rfl, fun H2 e2 => ⟨_, rfl, itf ?_ ?_⟩⟩
    · cases bk <;> decide +kernel
    · cases bk with
      | false =>
        refine ⟨_, rfl, _, rfl, rfl, .inr ⟨_, rfl, q, _, _, _, rfl, rfl, SqT.of (e2 _ _ hq), ?_, k _ f (fun c o z => e2 c o (e1 c o z)) nf (e2 _ _ hf)⟩⟩
        have ei : (if decide (V.str (if false = true then "backward" else "forward") = V.str "backward") = true then 1 else 0 : Int) = 0 := by decide +kernel
        rw [ei]
        rfl
      | true =>
        refine ⟨_, rfl, _, rfl, rfl, .inr ⟨_, rfl, q, _, _, _, rfl, rfl, SqT.of (e2 _ _ hq), ?_, k _ b (fun c o z => e2 c o (e1 c o z)) nb (e2 _ _ hb)⟩⟩
        have ei : (if decide (V.str (if true = true then "backward" else "forward") = V.str "backward") = true then 1 else 0 : Int) = 1 := by decide +kernel
        rw [ei]
        rfl
end

/-- all but what is at s stays -/
def XB (s : Addr) (H H2 : Hp) : Prop := ∀ c o, c ≠ s → H c = some o → H2 c = some o
theorem XB.refl {s : Addr} {H : Hp} : XB s H H := fun _ _ _ h => h
theorem XB.trans {s : Addr} {H H1 H2 : Hp} (a : XB s H H1) (b : XB s H1 H2) : XB s H H2 := fun c o n h => b c o n (a c o n h)
theorem XB.upd {s : Addr} {H : Hp} {o : HO} : XB s H (upd H s o) := fun c u n h => by rw [upd_ne n]; exact h
theorem XB.of {s : Addr} {H H2 : Hp} (e : Ex H H2) : XB s H H2 := fun c o _ h => e c o h
theorem XB.back {s : Addr} {H H2 : Hp} (e : XB s H H2) {p : Addr} (hn : p ≠ s) (h : H2 p = none) : H p = none := by
  cases q : H p with
  | none => rfl
  | some o => rw [e p o hn q] at h; cases h
theorem mod_lo {i n : Int} (h : 0 < n) : 0 ≤ i % n := Int.emod_nonneg i (by omega)
theorem mod_hi {i n : Int} (h : 0 < n) : i % n < n := Int.emod_lt_of_pos i h

/-! ### data -/
mutual
theorem eqv_refl : ∀ d : PyData, d.canLay0 = true → PyData.eqv d d = true
  | .none, _ => by simp only [PyData.eqv]
  | .bool b, _ => by simp only [PyData.eqv, beq_self_eq_true]
  | .int i, _ => by simp only [PyData.eqv, beq_self_eq_true]
  | .str x, _ => by simp only [PyData.eqv, beq_self_eq_true]
  | .list xs, h => by
    simp only [PyData.canLay0] at h
    simp only [PyData.eqv]
    exact eqvAll_refl xs h
  | .tuple xs, h => by
    simp only [PyData.canLay0] at h
    simp only [PyData.eqv]
    exact eqvAll_refl xs h
  | .dict _, h => by simp [PyData.canLay0] at h
theorem eqvAll_refl : ∀ ds : List PyData, PyData.canLayAll0 ds = true → PyData.eqvAll ds ds = true
  | [], _ => by simp only [PyData.eqvAll]
  | d :: ds, h => by
    simp only [PyData.canLayAll0, Bool.and_eq_true] at h
    simp only [PyData.eqvAll, Bool.and_eq_true]
    exact ⟨eqv_refl d h.1, eqvAll_refl ds h.2⟩
end
/-- data of a depth below n, in a form that may be laid -/
def Sh (n : Nat) (d : PyData) : Prop := d.canLay0 = true ∧ d.depth ≤ n
theorem Sh.ok {d : PyData} (h : Sh 60 d) : SeqAt.shaped d = true := by
  unfold SeqAt.shaped
  rw [h.1, decide_eq_true (Nat.le_trans h.2 (by decide))]
  rfl
theorem sh_int {n : Nat} (i : Int) : Sh n (.int i) := ⟨by simp only [PyData.canLay0], by simp only [PyData.depth]; omega⟩
theorem sh_bool {n : Nat} (i : Bool) : Sh n (.bool i) := ⟨by simp only [PyData.canLay0], by simp only [PyData.depth]; omega⟩
theorem sh_none {n : Nat} : Sh n .none := ⟨by simp only [PyData.canLay0], by simp only [PyData.depth]; omega⟩
theorem sh_all {n : Nat} : ∀ {ds : List PyData}, (∀ d ∈ ds, Sh n d) → PyData.canLayAll0 ds = true ∧ PyData.depthAll ds ≤ n
  | [], _ => ⟨by simp only [PyData.canLayAll0], by simp only [PyData.depthAll]; omega⟩
  | d :: ds, h => by
    obtain ⟨h1, h2⟩ := h d List.mem_cons_self
    obtain ⟨g1, g2⟩ := sh_all fun x hx => h x (List.mem_cons_of_mem _ hx)
    refine ⟨by simp only [PyData.canLayAll0, h1, g1, Bool.and_self], ?_⟩
    simp only [PyData.depthAll]
    omega
theorem sh_tuple {n : Nat} {ds : List PyData} (h : ∀ d ∈ ds, Sh n d) : Sh (n + 1) (.tuple ds) := by
  obtain ⟨h1, h2⟩ := sh_all h
  exact ⟨by simp only [PyData.canLay0, h1], by simp only [PyData.depth]; omega⟩
theorem sh_list {n : Nat} {ds : List PyData} (h : ∀ d ∈ ds, Sh n d) : Sh (n + 1) (.list ds) := by
  obtain ⟨h1, h2⟩ := sh_all h
  exact ⟨by simp only [PyData.canLay0, h1], by simp only [PyData.depth]; omega⟩
theorem Sh.up {n m : Nat} {d : PyData} (h : Sh n d) (e : n ≤ m) : Sh m d := ⟨h.1, Nat.le_trans h.2 e⟩
/-- a tuple of ints -/
abbrev iT (ns : List Int) : PyData := .tuple (ns.map PyData.int)
theorem sh_ints {n : Nat} (ns : List Int) : Sh (n + 1) (iT ns) := sh_tuple fun d hd => by
  obtain ⟨i, _, rfl⟩ := List.mem_map.mp hd
  exact sh_int i
theorem dpall_ints {K : PySem.W.Frag} {H : Hp} : ∀ ns : List Int, DpAll K H (ns.map V.int) (ns.map PyData.int)
  | [] => .nil
  | n :: ns => .cons (.int n) (dpall_ints ns)
theorem dp_ints {K : PySem.W.Frag} {H : Hp} {a : Addr} {ns : List Int} (h : H a = some (.tup (ns.map V.int))) : Dp K H (.ref a) (iT ns) := .tup (SqT.of h) (dpall_ints ns)
theorem eqvAll_ints : ∀ ns ms : List Int, PyData.eqvAll (ns.map PyData.int) (ms.map PyData.int) = decide (ns = ms)
  | [], [] => by simp [PyData.eqvAll]
  | [], _ :: _ => by simp [PyData.eqvAll]
  | _ :: _, [] => by simp [PyData.eqvAll]
  | n :: ns, m :: ms => by
    have ih := eqvAll_ints ns ms
    simp only [List.map_cons, PyData.eqvAll, PyData.eqv, ih]
    by_cases h : n = m
    · subst h
      simp
    · have : (n == m) = false := by simpa using h
      rw [this]
      simp [h]
theorem eqv_ints (ns ms : List Int) : PyData.eqv (iT ns) (iT ms) = decide (ns = ms) := by
  simp only [PyData.eqv]
  exact eqvAll_ints ns ms
theorem sh_pair {n : Nat} {a b : PyData} (ha : Sh n a) (hb : Sh n b) : Sh (n + 1) (.tuple [a, b]) := sh_tuple fun d hd => by
  rcases List.mem_cons.mp hd with e | e
  · rw [e]; exact ha
  · rw [List.mem_singleton.mp e]; exact hb
theorem eqv_same {d : PyData} (h : Sh 60 d) : (!PyData.eqv d d) = false := by rw [eqv_refl d h.1]; rfl

/-! ### zip's rows, nested comprehensions, lists of tuples of ints -/
theorem yrow2 {xs ys : List V} {i : Nat} {H H2 : Hp} {x : V} (h : CZ.YRow [xs, ys] i H x H2) : ∃ (Ta : Addr) (a b : V), x = .ref Ta ∧ H Ta = none ∧ H2 = upd H Ta (.tup [a, b]) ∧ xs[i]? = some a ∧ ys[i]? = some b := by
  obtain ⟨Ta, vs, rfl, hT, rfl, r⟩ := h
  cases r with
  | cons r1 r =>
    cases r with
    | cons r2 r =>
      cases r
      exact ⟨Ta, _, _, rfl, hT, rfl, r1, r2⟩
theorem yrow3 {xs ys zs : List V} {i : Nat} {H H2 : Hp} {x : V} (h : CZ.YRow [xs, ys, zs] i H x H2) : ∃ (Ta : Addr) (a b c : V), x = .ref Ta ∧ H Ta = none ∧ H2 = upd H Ta (.tup [a, b, c]) ∧ xs[i]? = some a ∧ ys[i]? = some b ∧ zs[i]? = some c := by
  obtain ⟨Ta, vs, rfl, hT, rfl, r⟩ := h
  cases r with
  | cons r1 r =>
    cases r with
    | cons r2 r =>
      cases r with
      | cons r3 r =>
        cases r
        exact ⟨Ta, _, _, _, rfl, hT, rfl, r1, r2, r3⟩
theorem yints2 {xs ys : List Int} {i : Nat} {H H2 : Hp} {x : V} (h : CZ.YRow [xs.map V.int, ys.map V.int] i H x H2) : ∃ (Ta : Addr) (a b : Int), x = .ref Ta ∧ H Ta = none ∧ H2 = upd H Ta (.tup [.int a, .int b]) ∧ xs[i]? = some a ∧ ys[i]? = some b := by
  obtain ⟨Ta, a, b, rfl, hT, rfl, r1, r2⟩ := yrow2 h
  obtain ⟨p, hp, rfl⟩ := map_get r1
  obtain ⟨q, hq, rfl⟩ := map_get r2
  exact ⟨Ta, p, q, rfl, hT, rfl, hp, hq⟩
theorem yints3 {xs ys zs : List Int} {i : Nat} {H H2 : Hp} {x : V} (h : CZ.YRow [xs.map V.int, ys.map V.int, zs.map V.int] i H x H2) : ∃ (Ta : Addr) (a b c : Int), x = .ref Ta ∧ H Ta = none ∧ H2 = upd H Ta (.tup [.int a, .int b, .int c]) ∧ xs[i]? = some a ∧ ys[i]? = some b ∧ zs[i]? = some c := by
  obtain ⟨Ta, a, b, c, rfl, hT, rfl, r1, r2, r3⟩ := yrow3 h
  obtain ⟨p, hp, rfl⟩ := map_get r1
  obtain ⟨q, hq, rfl⟩ := map_get r2
  obtain ⟨r, hr, rfl⟩ := map_get r3
  exact ⟨Ta, p, q, r, rfl, hT, rfl, hp, hq, hr⟩
theorem all2 {K : PySem.W.Frag} {H : Hp} {p q : Bool × Addr} {xs ys : List V} (hp : CZ.SqK K H p xs) (hq : CZ.SqK K H q ys) : ∀ r ∈ [p, q], ∃ zs, CZ.SqK K H r zs := fun r hr => by
  rcases List.mem_cons.mp hr with e | hr
  · rw [e]; exact ⟨_, hp⟩
  · rw [List.mem_singleton.mp hr]; exact ⟨_, hq⟩
theorem all3 {K : PySem.W.Frag} {H : Hp} {p q t : Bool × Addr} {xs ys us : List V} (hp : CZ.SqK K H p xs) (hq : CZ.SqK K H q ys) (ht : CZ.SqK K H t us) : ∀ r ∈ [p, q, t], ∃ zs, CZ.SqK K H r zs := fun r hr => by
  rcases List.mem_cons.mp hr with e | hr
  · rw [e]; exact ⟨_, hp⟩
  · exact all2 hq ht r hr
theorem lens2 {xs ys : List V} {n : Nat} (h1 : xs.length = n) (h2 : ys.length = n) : ∀ zs ∈ [xs, ys], zs.length = n := fun zs hz => by
  rcases List.mem_cons.mp hz with e | hz
  · rw [e]; exact h1
  · rw [List.mem_singleton.mp hz]; exact h2
theorem lens3 {xs ys us : List V} {n : Nat} (h1 : xs.length = n) (h2 : ys.length = n) (h3 : us.length = n) : ∀ zs ∈ [xs, ys, us], zs.length = n := fun zs hz => by
  rcases List.mem_cons.mp hz with e | hz
  · rw [e]; exact h1
  · exact lens2 h2 h3 zs hz
theorem sqT {K : PySem.W.Frag} {H : Hp} {a : Addr} {xs : List V} (h : H a = some (.tup xs)) : CZ.SqK K H (true, a) xs := SqT.of h
theorem sqL {K : PySem.W.Frag} {H : Hp} {a : Addr} {xs : List V} (h : H a = some (.lst xs)) : CZ.SqK K H (false, a) xs := SqL.of h
section
variable {J : It} {n : Nat} {G : Hp → Prop} {Y : Nat → Hp → V → Hp → Prop}
/-- a comprehension of two loops: the outer -/
theorem lc2_it (w : Walk J n G Y) {g g1 : TG} {tt tt1 : TT} {te : TE} {wi1 : TI} {vs vs1 : List Nat} {σ : L2.St} {H1 : Hp} {D : Addr} {Qd : Hp → Prop} (Pv : Nat → Hp → Prop) (h0 : Pv 0 (upd H1 D (.lst []))) (hG : ∀ i H, i ≤ n → Pv i H → G H)
    (hs : ∀ i x H H2, i < n → Pv i H → Y i H x H2 → g x (wipe σ vs) H2 fun σ2 H2 => wipe σ2 vs = wipe σ vs ∧ tt σ2 H2 fun b H3 =>
      if b = true then wi1 σ2 H3 fun J1 H4 => ∃ W1 : Nat → Nat → Hp → Prop, (∃ m, W1 0 m H4) ∧ ∀ j k H, W1 j k H →
        (J1.stop j H ∧ Pv (i + 1) H) ∨ (J1.go j H ∧ ∃ Nx1 : Hp → Prop, (∀ H2, Nx1 H2 → ∃ k2, k2 < k ∧ W1 (j + 1) k2 H2) ∧ ∀ x H2, J1.yld j H x H2 → g1 x (wipe σ2 vs1) H2 fun σ3 H5 => wipe σ3 vs1 = wipe σ2 vs1 ∧ tt1 σ3 H5 fun b H6 =>
          if b = true then te σ3 H6 fun y H7 => ∃ acc, H7 D = some (.lst acc) ∧ acc.length < sizeLine ∧ Nx1 (upd H7 D (.lst (acc ++ [y]))) else Nx1 H6)
      else Pv (i + 1) H3) (hd : ∀ H, Pv n H → Qd H) :
    ∃ W : Nat → Nat → Hp → Prop, (∃ m, W 0 m (upd H1 D (.lst []))) ∧ ∀ i m H, W i m H →
      (J.stop i H ∧ Qd H) ∨ (J.go i H ∧ ∃ Nx : Hp → Prop, (∀ H2, Nx H2 → ∃ m2, m2 < m ∧ W (i + 1) m2 H2) ∧ ∀ x H2, J.yld i H x H2 → g x (wipe σ vs) H2 fun σ2 H2 => wipe σ2 vs = wipe σ vs ∧ tt σ2 H2 fun b H3 =>
        if b = true then wi1 σ2 H3 fun J1 H4 => ∃ W1 : Nat → Nat → Hp → Prop, (∃ m, W1 0 m H4) ∧ ∀ j k H, W1 j k H →
          (J1.stop j H ∧ Nx H) ∨ (J1.go j H ∧ ∃ Nx1 : Hp → Prop, (∀ H2, Nx1 H2 → ∃ k2, k2 < k ∧ W1 (j + 1) k2 H2) ∧ ∀ x H2, J1.yld j H x H2 → g1 x (wipe σ2 vs1) H2 fun σ3 H5 => wipe σ3 vs1 = wipe σ2 vs1 ∧ tt1 σ3 H5 fun b H6 =>
            if b = true then te σ3 H6 fun y H7 => ∃ acc, H7 D = some (.lst acc) ∧ acc.length < sizeLine ∧ Nx1 (upd H7 D (.lst (acc ++ [y]))) else Nx1 H6)
        else Nx H3) := by
  refine ⟨fun i m H => m = n - i ∧ i ≤ n ∧ Pv i H, ⟨n, by simp, Nat.zero_le _, h0⟩, ?_⟩
  rintro i m H ⟨rfl, hi, p⟩
  have q := hG i H hi p
  by_cases hlt : i < n
  · refine .inr ⟨w.goes i H hlt q, Pv (i + 1), fun H2 p2 => ⟨n - (i + 1), by omega, rfl, hlt, p2⟩, fun x H2 y => hs i x H H2 hlt p (w.yields i H x H2 hlt q y)⟩
  · have e : i = n := by omega
    subst e
    exact .inl ⟨w.stops H q, hd H p⟩
/-- .. the inner -/
theorem in_it (w : Walk J n G Y) {g1 : TG} {tt1 : TT} {te : TE} {vs1 : List Nat} {σ2 : L2.St} {H4 : Hp} {D : Addr} {Nx : Hp → Prop} (Pw : Nat → Hp → Prop) (h0 : Pw 0 H4) (hG : ∀ i H, i ≤ n → Pw i H → G H)
    (hs : ∀ j x H H2, j < n → Pw j H → Y j H x H2 → g1 x (wipe σ2 vs1) H2 fun σ3 H5 => wipe σ3 vs1 = wipe σ2 vs1 ∧ tt1 σ3 H5 fun b H6 =>
      if b = true then te σ3 H6 fun y H7 => ∃ acc, H7 D = some (.lst acc) ∧ acc.length < sizeLine ∧ Pw (j + 1) (upd H7 D (.lst (acc ++ [y]))) else Pw (j + 1) H6) (hd : ∀ H, Pw n H → Nx H) :
    ∃ W1 : Nat → Nat → Hp → Prop, (∃ m, W1 0 m H4) ∧ ∀ j k H, W1 j k H →
      (J.stop j H ∧ Nx H) ∨ (J.go j H ∧ ∃ Nx1 : Hp → Prop, (∀ H2, Nx1 H2 → ∃ k2, k2 < k ∧ W1 (j + 1) k2 H2) ∧ ∀ x H2, J.yld j H x H2 → g1 x (wipe σ2 vs1) H2 fun σ3 H5 => wipe σ3 vs1 = wipe σ2 vs1 ∧ tt1 σ3 H5 fun b H6 =>
        if b = true then te σ3 H6 fun y H7 => ∃ acc, H7 D = some (.lst acc) ∧ acc.length < sizeLine ∧ Nx1 (upd H7 D (.lst (acc ++ [y]))) else Nx1 H6) := by
  refine ⟨fun i m H => m = n - i ∧ i ≤ n ∧ Pw i H, ⟨n, by simp, Nat.zero_le _, h0⟩, ?_⟩
  rintro i m H ⟨rfl, hi, p⟩
  have q := hG i H hi p
  by_cases hlt : i < n
  · refine .inr ⟨w.goes i H hlt q, Pw (i + 1), fun H2 p2 => ⟨n - (i + 1), by omega, rfl, hlt, p2⟩, fun x H2 y => hs i x H H2 hlt p (w.yields i H x H2 hlt q y)⟩
  · have e : i = n := by omega
    subst e
    exact .inl ⟨w.stops H q, hd H p⟩
end
/-- refs of tuples of ints -/
def RowsR (H : Hp) (xs : List V) (hss : List (List Int)) : Prop := Paired (fun x hs => ∃ r, x = V.ref r ∧ H r = some (.tup (hs.map V.int))) xs hss
theorem RowsR.mono {H H2 : Hp} (e : Ex H H2) : ∀ {xs : List V} {hss : List (List Int)}, RowsR H xs hss → RowsR H2 xs hss
  | _, _, .nil => .nil
  | _, _, .cons ⟨r, h1, h2⟩ t => .cons ⟨r, h1, e _ _ h2⟩ (RowsR.mono e t)
theorem RowsR.snoc {H : Hp} {r : Addr} {hs : List Int} (h : H r = some (.tup (hs.map V.int))) : ∀ {xs : List V} {hss : List (List Int)}, RowsR H xs hss → RowsR H (xs ++ [.ref r]) (hss ++ [hs])
  | _, _, .nil => .cons ⟨r, rfl, h⟩ .nil
  | _, _, .cons q t => .cons q (RowsR.snoc h t)
theorem RowsR.app {H : Hp} {ys : List V} {kss : List (List Int)} (h : RowsR H ys kss) : ∀ {xs : List V} {hss : List (List Int)}, RowsR H xs hss → RowsR H (xs ++ ys) (hss ++ kss)
  | _, _, .nil => h
  | _, _, .cons q t => .cons q (RowsR.app h t)
theorem RowsR.len {H : Hp} : ∀ {xs : List V} {hss : List (List Int)}, RowsR H xs hss → xs.length = hss.length
  | _, _, .nil => rfl
  | _, _, .cons _ t => by rw [List.length_cons, List.length_cons, RowsR.len t]
theorem RowsR.get {H : Hp} : ∀ {xs : List V} {hss : List (List Int)} {i : Nat} {x : V}, RowsR H xs hss → xs[i]? = some x → ∃ hs r, hss[i]? = some hs ∧ x = V.ref r ∧ H r = some (.tup (hs.map V.int))
  | _, _, _, _, .nil, h => by simp at h
  | _, _, 0, _, .cons ⟨r, e, q⟩ _, h => by
    simp only [List.length_cons, Nat.zero_lt_succ, List.getElem?_eq_getElem, List.getElem_cons_zero, Option.some.injEq] at h
    subst h
    exact ⟨_, r, rfl, e, q⟩
  | _, _, i + 1, _, .cons _ t, h => by
    rw [List.getElem?_cons_succ] at h ⊢
    exact RowsR.get t h
theorem RowsR.dp {K : PySem.W.Frag} {H : Hp} : ∀ {xs : List V} {hss : List (List Int)}, RowsR H xs hss → DpAll K H xs (hss.map iT)
  | _, _, .nil => .nil
  | _, _, .cons ⟨r, e, q⟩ t => by
    subst e
    exact .cons (dp_ints q) (RowsR.dp t)
/-- a list of tuples of ints -/
def RowsAt (H : Hp) (D : Addr) (hss : List (List Int)) : Prop := ∃ xs, H D = some (.lst xs) ∧ RowsR H xs hss
theorem RowsAt.mono {H H2 : Hp} {D : Addr} {hss : List (List Int)} (e : Ex H H2) (h : RowsAt H D hss) : RowsAt H2 D hss := by
  obtain ⟨xs, h1, h2⟩ := h
  exact ⟨xs, e _ _ h1, h2.mono e⟩
theorem RowsAt.dp {K : PySem.W.Frag} {H : Hp} {D : Addr} {hss : List (List Int)} (h : RowsAt H D hss) : Dp K H (.ref D) (.list (hss.map iT)) := by
  obtain ⟨xs, h1, h2⟩ := h
  exact .lst (SqL.of h1) h2.dp
theorem sh_rows {n : Nat} (hss : List (List Int)) : Sh (n + 2) (.list (hss.map iT)) := sh_list fun d hd => by
  obtain ⟨hs, _, rfl⟩ := List.mem_map.mp hd
  exact sh_ints hs
theorem eqvAll_rows : ∀ ns ms : List (List Int), PyData.eqvAll (ns.map iT) (ms.map iT) = decide (ns = ms)
  | [], [] => by simp [PyData.eqvAll]
  | [], _ :: _ => by simp [PyData.eqvAll]
  | _ :: _, [] => by simp [PyData.eqvAll]
  | n :: ns, m :: ms => by
    have ih := eqvAll_rows ns ms
    simp only [List.map_cons, PyData.eqvAll, eqv_ints, ih]
    by_cases h : n = m
    · subst h
      simp
    · simp [h]
theorem eqv_rows (ns ms : List (List Int)) : PyData.eqv (.list (ns.map iT)) (.list (ms.map iT)) = decide (ns = ms) := by
  simp only [PyData.eqv]
  exact eqvAll_rows ns ms
theorem RowsR.upd {H : Hp} {D : Addr} {acc : List V} {o : HO} (hD : H D = some (.lst acc)) : ∀ {xs : List V} {hss : List (List Int)}, RowsR H xs hss → RowsR (upd H D o) xs hss
  | _, _, .nil => .nil
  | _, _, .cons ⟨r, h1, h2⟩ t => .cons ⟨r, h1, by rw [upd_ne (ne_of h2 hD (by intro z; cases z))]; exact h2⟩ (RowsR.upd hD t)
theorem rows_push {H : Hp} {D u : Addr} {hss : List (List Int)} {ks : List Int} (h : RowsAt H D hss) (hu : H u = some (.tup (ks.map V.int))) : ∃ acc, H D = some (.lst acc) ∧ acc.length = hss.length ∧ RowsAt (upd H D (.lst (acc ++ [.ref u]))) D (hss ++ [ks]) := by
  obtain ⟨xs, h1, h2⟩ := h
  refine ⟨xs, h1, h2.len, _, upd_same, ?_⟩
  exact RowsR.snoc (by rw [upd_ne (ne_of hu h1 (by intro z; cases z))]; exact hu) (h2.upd h1)
theorem ex_upd {H H2 : Hp} {D : Addr} {o : HO} (e : Ex H H2) (hD : H D = none) : Ex H (upd H2 D o) := fun c u z => by
  rw [upd_ne (ne_of_none z hD)]
  exact e c u z
theorem ext {H H1 H2 : Hp} (a : Ex H H1) (b : Ex H1 H2) : Ex H H2 := fun c o z => b c o (a c o z)

/-! ### tuple * int, from 1 on -/
theorem u65 {k : Nat} {A : Around} (r : Room k A) : A.units + 65 < cLine := by have := r.un; omega
theorem tuple_mul1 (l : Addr) (items : Array Value) (n : Nat) (dd : Option Addr) (sl : Array (Option Value)) (x : Int) (u : Tok) (c0 : (decide (x < -(2 ^ 63)) || decide (x ≥ 2 ^ 63)) = false) (c1 : (items.isEmpty || x == 1) = true) :
    Meets (Builtin.«tuple.__mul__» ⟨[.ref l, .int x u], []⟩) (fun _ R s => s.heap.get? l = some { cls := .type "tuple", dict := dd, data := .seq items n, slots := sl } ∧ R (.ok (.ret (Value.ref l))) s) :=
  .of_wp fun prog w A R s h => by
    obtain ⟨hp, g, d, tk, os⟩ := s
    obtain ⟨hl, h⟩ := h
    have f1 := AutoSeq1.idx_int
    wp_walk using wpAny_loadPart' hl
    repeat (first
      | (refine wpAny_ite_false (decide_eq_false (by rw [c0]; exact Bool.false_ne_true)) ?_; wp_walk using wpAny_loadPart' hl)
      | (refine wpAny_ite_true (decide_eq_true c1) ?_; wp_walk using wpAny_loadPart' hl))
    exact ⟨_, rfl, h⟩
def rRepA (K : PySem.W.Frag) : R2 := fun x y H Q => ∃ l k xs, x = .ref l ∧ y = .int k ∧ SqT K H l xs ∧ xs ≠ [] ∧ 1 ≤ k ∧ k ≤ 1000 ∧ xs.length ≤ 1000 ∧ (k = 1 → Q (.ref l) H) ∧ ∀ p, H p = none → Q (.ref p) (upd H p (.tup (List.replicate k.toNat xs).flatten))
theorem op_repA {X : Cx} : OpR X (binaryOp .Mult) (rRepA X.K) := by
  intro pins s σ H x y v u Q I rx ry h
  obtain ⟨l, k, xs, ex, ey, hT, hne, h1, h2, hz, q1, q⟩ := h
  by_cases hk : k = 1
  · subst ex ey hk
    cases rx
    obtain ⟨t, rfl⟩ := ry
    obtain ⟨its, r, ⟨⟨cls, dd, data, sl⟩, ho, hc, n, hd⟩, hs⟩ := I.tuple hT
    simp only at hc hd
    subst hc hd
    refine wpAny_binaryOp_repeat_ref (T := "tuple") (U := "int") (by decide) ⟨_, ho, rfl⟩ (fun s2 => typeIs_int s2 1 t) noFill_tuple_mul PySem.F.fills_int_mul PySem.F.slot_int_rmul repeat_tuple PySem.F.slot_int_index.lookup
      (call_meets PySem.F.slot_int_rmul (typeIs_int s 1 t) PySem.F.entry_int_rmul (PySem.F.args_int_rmul_2 _ _) (int_rmul_tuple 1 t l its.toArray n dd sl)
        ⟨ho, rfl, ⟨_, ho, rfl⟩, call_meets PySem.F.slot_tuple_mul ⟨_, ho, rfl⟩ PySem.F.entry_tuple_mul (PySem.F.args_tuple_mul_2 _ _) (tuple_mul1 l its.toArray n dd sl 1 t (by decide) (by simp)) ⟨ho, ?_⟩⟩)
    exact ⟨.ref l, H, I, rfl, q1 rfl⟩
  · exact op_repT pins s σ H x y v u Q I rx ry ⟨l, k, xs, ex, ey, hT, hne, by omega, h2, hz, q⟩
/-- (x,) * k -/
theorem rep_one (x : V) (k : Nat) : (List.replicate k [x]).flatten = List.replicate k x := by
  induction k with
  | zero => rfl
  | succ k ih => rw [List.replicate_succ, List.flatten_cons, ih, List.replicate_succ]; rfl
theorem rep_ints {K : PySem.W.Frag} {H : Hp} {Q : VK} {u : Addr} {x k : Int} (hu : H u = some (.tup [.int x])) (h1 : 1 ≤ k) (h2 : k ≤ 1000) (h : ∀ q H2, Ex H H2 → H2 q = some (.tup ((List.replicate k.toNat x).map V.int)) → Q (.ref q) H2) : rRepA K (.ref u) (.int k) H Q := by
  refine ⟨u, k, [.int x], rfl, rfl, SqT.of hu, (fun z => nomatch z), h1, h2, (by show 1 ≤ 1000; decide), fun e => ?_, fun p hp => ?_⟩
  · subst e
    exact h u H exr hu
  · refine h p _ (exn hp) ?_
    rw [upd_same, rep_one, List.map_replicate]
theorem ne_same {a b : List Int} (h : a = b) : (!PyData.eqv (iT a) (iT b)) = false := by rw [h]; exact eqv_same (sh_ints b)
/-- a comprehension over a tuple of ints, by a value each -/
theorem row_in {hss : List (List Int)} {ps : List Int} (h : ps ∈ hss) : ((hss.map iT).any fun z => PyData.eqv z (iT ps)) = true := by
  rw [List.any_eq_true]
  exact ⟨iT ps, List.mem_map.mpr ⟨ps, h, rfl⟩, by rw [eqv_ints]; simp⟩
/-- a list of ints -/
abbrev iL (ns : List Int) : PyData := .list (ns.map PyData.int)
theorem sh_ilist {n : Nat} (ns : List Int) : Sh (n + 1) (iL ns) := sh_list fun d hd => by
  obtain ⟨i, _, rfl⟩ := List.mem_map.mp hd
  exact sh_int i
theorem dp_ilist {K : PySem.W.Frag} {H : Hp} {a : Addr} {ns : List Int} (h : H a = some (.lst (ns.map V.int))) : Dp K H (.ref a) (iL ns) := .lst (SqL.of h) (dpall_ints ns)
theorem eqv_ilist (ns ms : List Int) : PyData.eqv (iL ns) (iL ms) = decide (ns = ms) := by
  simp only [PyData.eqv]
  exact eqvAll_ints ns ms
theorem dec_bl {a b : Bool} (h : a = b) : (!decide (V.bl a = V.bl b)) = false := by rw [h]; simp
theorem emod_eq_iff {a b n : Int} : a % n = b % n ↔ n ∣ a - b := by
  rw [Int.emod_eq_emod_iff_emod_sub_eq_zero, Int.dvd_iff_emod_eq_zero]
/-- behind an if that changes names alone -/
theorem ifs_cutS {c : TT} {t u : TS} {D : Ends} {σ : L2.St} {H : Hp} (R : L2.St → Prop) (hR : ∀ σ2, R σ2 → D.nx σ2 H) (h : ∀ N : L2.St → Hp → Prop, (∀ σ2, R σ2 → N σ2 H) → tIfS c t u { D with nx := N } σ H) : tIfS c t u D σ H :=
  h D.nx hR

/-- a comprehension that lengthens a row by each of ks -/
theorem lc_rows {J : It} {n : Nat} {G : Hp → Prop} {Y : Nat → Hp → V → Hp → Prop} (w : Walk J n G Y) {g : TG} {te : TE} {vs : List Nat} {σ : L2.St} {H1 : Hp} {D : Addr} {Qd : Hp → Prop} (row ks : List Int) (hn : ks.length = n) (hl : n ≤ 10000000) (hD : H1 D = none)
    (hG : ∀ H, Ex H1 H → G H)
    (hs : ∀ i x H H2 (R : VK), i < n → Ex H1 H → Y i H x H2 → (∀ k v H5, Ex H H5 → ks[i]? = some k → H5 v = some (.tup ((row ++ [k]).map V.int)) → R (.ref v) H5) → g x (wipe σ vs) H2 fun σ2 H3 => wipe σ2 vs = wipe σ vs ∧ te σ2 H3 R)
    (hg : ∀ x σ2 H2 (R R2 : L2.St → Hp → Prop), (∀ σ3 H3, R σ3 H3 → R2 σ3 H3) → g x σ2 H2 R → g x σ2 H2 R2)
    (hd : ∀ H, Ex H1 H → RowsAt H D (ks.map fun k => row ++ [k]) → Qd H) :
    ∃ W : Nat → Nat → Hp → Prop, (∃ m, W 0 m (upd H1 D (.lst []))) ∧ ∀ i m H, W i m H →
      (J.stop i H ∧ Qd H) ∨ (J.go i H ∧ ∃ Nx : Hp → Prop, (∀ H2, Nx H2 → ∃ m2, m2 < m ∧ W (i + 1) m2 H2) ∧ ∀ x H2, J.yld i H x H2 → g x (wipe σ vs) H2 fun σ2 H3 => wipe σ2 vs = wipe σ vs ∧ tYes σ2 H3 fun b H4 =>
        if b = true then te σ2 H4 fun y H5 => ∃ acc, H5 D = some (.lst acc) ∧ acc.length < sizeLine ∧ Nx (upd H5 D (.lst (acc ++ [y]))) else Nx H4) := by
  refine lc_it w (fun i H => Ex H1 H ∧ RowsAt H D ((ks.take i).map fun k => row ++ [k])) ⟨exn hD, _, upd_same, .nil⟩ (fun i H _ p => hG H p.1) (fun i x H H2 hi p y => ?_) (fun H p => hd H p.1 (by have := p.2; rwa [List.take_of_length_le (by rw [hn]; exact Nat.le_refl _)] at this))
  refine hg _ _ _ _ _ (fun σ3 H3 q => ⟨q.1, q.2⟩) (hs i x H H2 (fun y H5 => ∃ acc, H5 D = some (.lst acc) ∧ acc.length < sizeLine ∧ Ex H1 (upd H5 D (.lst (acc ++ [y]))) ∧ RowsAt (upd H5 D (.lst (acc ++ [y]))) D ((ks.take (i + 1)).map fun k => row ++ [k])) hi p.1 y fun k v H5 e hk hv => ?_)
  obtain ⟨acc, h1, h2, h3⟩ := rows_push (p.2.mono e) hv
  refine ⟨acc, h1, ?_, ex_upd (ext p.1 e) hD, ?_⟩
  · rw [h2, List.length_map, List.length_take]
    exact Nat.lt_of_le_of_lt (Nat.le_trans (Nat.min_le_right _ _) (by rw [hn]; exact hl)) (by decide)
  · rw [take_more hk, List.map_append]
    exact h3
/-- row + (k,) -/
theorem cat_row {K : PySem.W.Frag} {H : Hp} {Q : VK} {r u : Addr} {row : List Int} {k : Int} (hr : H r = some (.tup (row.map V.int))) (hu : H u = some (.tup [.int k])) (hl : row.length ≤ 1000) (h : ∀ v H5, Ex H H5 → H5 v = some (.tup ((row ++ [k]).map V.int)) → Q (.ref v) H5) : rCatA K (.ref r) (.ref u) H Q := by
  refine ⟨r, u, row.map V.int, [.int k], rfl, rfl, SqT.of hr, SqT.of hu, ?_, fun z => ?_, fun _ z => (nomatch z), fun _ _ v hv => ?_⟩
  · rw [List.length_map]
    exact Nat.le_trans (show _ + 1 ≤ 1001 by omega) (by decide)
  · have : row = [] := List.map_eq_nil_iff.mp z
    subst this
    exact h u H exr hu
  · refine h v _ (exn hv) ?_
    rw [upd_same, List.map_append]
    rfl
theorem rows_ext {H : Hp} {D E : Addr} {hss kss : List (List Int)} (h1 : RowsAt H D hss) (h2 : RowsAt H E kss) (ne : D ≠ E) : ∃ xs zs, H D = some (.lst xs) ∧ H E = some (.lst zs) ∧ xs.length = hss.length ∧ zs.length = kss.length ∧ RowsAt (upd H D (.lst (xs ++ zs))) D (hss ++ kss) := by
  obtain ⟨xs, a1, a2⟩ := h1
  obtain ⟨zs, b1, b2⟩ := h2
  exact ⟨xs, zs, a1, b1, a2.len, b2.len, _, upd_same, RowsR.app (b2.upd a1) (a2.upd a1)⟩

theorem eqT {i j : Int} (h : decide (V.int i = V.int j) = true) : i = j := V.int.inj (of_decide_eq_true h)
theorem eqF {i j : Int} (h : ¬decide (V.int i = V.int j) = true) : i ≠ j := fun z => h (decide_eq_true (by rw [z]))
/-- behind an if -/
theorem ifs_cutG {c : TT} {t u : TS} {D : Ends} {σ : L2.St} {H : Hp} (R : L2.St → Hp → Prop) (hR : ∀ σ2 H2, R σ2 H2 → D.nx σ2 H2) (h : ∀ N : L2.St → Hp → Prop, (∀ σ2 H2, R σ2 H2 → N σ2 H2) → tIfS c t u { D with nx := N } σ H) : tIfS c t u D σ H :=
  h D.nx hR
theorem exG {H H4 : Hp} {p : Addr} {o : HO} (h : upd H p o = H4) (n : H p = none) : Ex H H4 := h ▸ exn n
theorem atG {H H4 : Hp} {p : Addr} {o : HO} (h : upd H p o = H4) : H4 p = some o := h ▸ upd_same
theorem slen {n : Nat} (h : Nat.ble n 1000 = true) : n ≤ sizeLine := Nat.le_trans (Nat.le_of_ble_eq_true h) (by decide)
/-- a comprehension with a test: what passes, by f -/
theorem lc_filt {α : Type} {J : It} {n : Nat} {G : Hp → Prop} {Y : Nat → Hp → V → Hp → Prop} (w : Walk J n G Y) {g : TG} {tt : TT} {te : TE} {vs : List Nat} {σ : L2.St} {H1 : Hp} {D : Addr} {Qd : Hp → Prop} (xs : List α) (c : α → Bool) (f : α → V) (hn : xs.length = n) (hl : n ≤ 10000000) (hD : H1 D = none)
    (hG : ∀ H, Ex H1 H → G H)
    (hs : ∀ i x a H H2 (R : VK) (S : Hp → Prop), xs[i]? = some a → Ex H1 H → Y i H x H2 → (∀ y H5, Ex H H5 → c a = true → y = f a → R y H5) → (∀ H4, Ex H H4 → c a = false → S H4) → g x (wipe σ vs) H2 fun σ2 H3 => wipe σ2 vs = wipe σ vs ∧ tt σ2 H3 fun b H4 => if b = true then te σ2 H4 R else S H4)
    (hd : ∀ H, Ex H1 H → H D = some (.lst ((xs.filter c).map f)) → Qd H) :
    ∃ W : Nat → Nat → Hp → Prop, (∃ m, W 0 m (upd H1 D (.lst []))) ∧ ∀ i m H, W i m H →
      (J.stop i H ∧ Qd H) ∨ (J.go i H ∧ ∃ Nx : Hp → Prop, (∀ H2, Nx H2 → ∃ m2, m2 < m ∧ W (i + 1) m2 H2) ∧ ∀ x H2, J.yld i H x H2 → g x (wipe σ vs) H2 fun σ2 H3 => wipe σ2 vs = wipe σ vs ∧ tt σ2 H3 fun b H4 =>
        if b = true then te σ2 H4 fun y H5 => ∃ acc, H5 D = some (.lst acc) ∧ acc.length < sizeLine ∧ Nx (upd H5 D (.lst (acc ++ [y]))) else Nx H4) := by
  refine lc_out w (fun i => ((xs.take i).filter c).map f) (by simp) hD (fun i hi => ?_) hG (fun i x H H2 Nx hi e hDi y kA kN => ?_) (fun H e h => hd H e ?_)
  · rw [List.length_map]
    refine Nat.lt_of_le_of_lt (Nat.le_trans (List.length_filter_le _ _) (Nat.le_trans (by rw [List.length_take]; exact Nat.min_le_right _ _) (by rw [hn]; exact hl))) (by decide)
  · obtain ⟨a, ha⟩ : ∃ a, xs[i]? = some a := ⟨xs[i]'(by omega), List.getElem?_eq_getElem (by omega)⟩
    refine hs i x a H H2 _ _ ha e y (fun y2 H5 e5 hc hy => kA y2 H5 e5 ?_) (fun H4 e4 hc => kN H4 e4 ?_)
    · rw [take_more ha, List.filter_append, List.map_append, hy]
      simp [hc]
    · rw [take_more ha, List.filter_append, List.map_append]
      simp [hc]
  · rw [h, List.take_of_length_le (by rw [hn]; exact Nat.le_refl _)]
/-- rows that pass a test -/
theorem RowsR.filt {H : Hp} (c : List Int → Bool) : ∀ {xs : List V} {hss : List (List Int)}, RowsR H xs hss → RowsR H (((xs.zip hss).filter fun z => c z.2).map fun z => z.1) (hss.filter c)
  | _, _, .nil => .nil
  | _, _, .cons (a := x) (b := hs) q t => by
    have ih := RowsR.filt c t
    rw [List.zip_cons_cons]
    cases e : c hs with
    | false =>
      rw [List.filter_cons_of_neg (by simp [e]), List.filter_cons_of_neg (by simp [e])]
      exact ih
    | true =>
      rw [List.filter_cons_of_pos (by simp [e]), List.filter_cons_of_pos (by simp [e])]
      exact .cons q ih
theorem zip_at2 {α β : Type} {l : List α} {m : List β} {i : Nat} {z : α × β} (h : (l.zip m)[i]? = some z) : l[i]? = some z.1 ∧ m[i]? = some z.2 := by
  rw [List.getElem?_zip_eq_some] at h
  exact h
/-- tuple(s), s a list or a tuple -/
theorem tup_of {K : PySem.W.Frag} {H : Hp} {q : Bool × Addr} {xs : List V} {Q : VK} (h : SqH H q xs) (k : ∀ t H2, Ex H H2 → H2 t = some (.tup xs) → Q (.ref t) H2) : (SqL K H q.2 xs ∧ ∀ p, H p = none → Q (.ref p) (upd H p (.tup xs))) ∨ SqT K H q.2 xs ∧ Q (.ref q.2) H := by
  obtain ⟨b, a⟩ := q
  cases b
  · exact .inl ⟨SqL.of (show H a = some (.lst xs) from h), fun p hp => k p _ (exn hp) upd_same⟩
  · exact .inr ⟨SqT.of (show H a = some (.tup xs) from h), k a H exr h⟩
def rTupQ : List V → Hp → VK → Prop := fun vs H Q => ∃ (q : Bool × Addr) (xs : List V), vs = [.ref q.2] ∧ SqH H q xs ∧ ∀ t H2, Ex H H2 → H2 t = some (.tup xs) → Q (.ref t) H2
theorem call_tuple_q {X : Cx} : CallR X (.type "tuple") rTupQ := by
  intro pins s σ H vs us Q I r h
  obtain ⟨q, xs, rfl, hq, k⟩ := h
  exact call_tuple_of pins s σ H _ us Q I r ⟨q.2, xs, rfl, tup_of hq k⟩
theorem SqH.uniq {H : Hp} {q : Bool × Addr} {xs ys : List V} (h1 : SqH H q xs) (h2 : SqH H q ys) : xs = ys := by
  obtain ⟨b, a⟩ := q
  cases b
  · have e : some (HO.lst xs) = some (HO.lst ys) := (show H a = some (.lst xs) from h1).symm.trans (show H a = some (.lst ys) from h2)
    injection e with e
    injection e
  · have e : some (HO.tup xs) = some (HO.tup ys) := (show H a = some (.tup xs) from h1).symm.trans (show H a = some (.tup ys) from h2)
    injection e with e
    injection e
theorem RowsR.monoT {H H2 : Hp} (e : ∀ c xs, H c = some (.tup xs) → H2 c = some (.tup xs)) : ∀ {xs : List V} {hss : List (List Int)}, RowsR H xs hss → RowsR H2 xs hss
  | _, _, .nil => .nil
  | _, _, .cons ⟨r, h1, h2⟩ t => .cons ⟨r, h1, e _ _ h2⟩ (RowsR.monoT e t)

theorem shift_back {f : Int} : ∀ {ns ps cs : List Int}, SeatOk ns ps → cs.length = ns.length → shiftL ns (shiftL ns ps cs f) cs (-f) = ps
  | [], [], [], _, _ => rfl
  | n :: ns, p :: ps, c :: cs, h, l => by
    show ((p + f * c) % n + -f * c) % n :: _ = _
    rw [shift_back h.2 (Nat.succ.inj l), Int.emod_add_emod, Int.neg_mul, Int.add_neg_cancel_right, Int.emod_eq_of_lt h.1.1 h.1.2]
theorem shift_neg {f : Int} : ∀ {ns ps cs : List Int}, shiftL ns ps (cs.map fun c => 0 - c) f = shiftL ns ps cs (-f)
  | [], _, _ => by cases ‹List Int› <;> simp [shiftL]
  | _ :: _, [], _ => by simp [shiftL]
  | _ :: _, _ :: _, [] => by simp [shiftL]
  | n :: ns, p :: ps, c :: cs => by
    show (p + f * (0 - c)) % n :: _ = (p + -f * c) % n :: _
    rw [shift_neg, Int.zero_sub, Int.mul_neg, Int.neg_mul]
theorem shift_comm {f g : Int} : ∀ {ns ps cs ds : List Int}, ps.length = ns.length → cs.length = ns.length → ds.length = ns.length → shiftL ns (shiftL ns ps cs f) ds g = shiftL ns (shiftL ns ps ds g) cs f
  | [], [], [], [], _, _, _ => rfl
  | n :: ns, p :: ps, c :: cs, d :: ds, l1, l2, l3 => by
    show ((p + f * c) % n + g * d) % n :: _ = ((p + g * d) % n + f * c) % n :: _
    rw [shift_comm (Nat.succ.inj l1) (Nat.succ.inj l2) (Nat.succ.inj l3), Int.emod_add_emod, Int.emod_add_emod, Int.add_right_comm]
theorem shift_seat {f : Int} : ∀ {ns ps cs : List Int}, (∀ n ∈ ns, 1 ≤ n) → ps.length = ns.length → cs.length = ns.length → SeatOk ns (shiftL ns ps cs f)
  | [], [], [], _, _, _ => True.intro
  | n :: ns, p :: ps, c :: cs, h, l1, l2 => by
    have n1 := h n List.mem_cons_self
    exact ⟨⟨Int.emod_nonneg _ (by omega), Int.emod_lt_of_pos _ (by omega)⟩, shift_seat (fun m hm => h m (List.mem_cons_of_mem _ hm)) (Nat.succ.inj l1) (Nat.succ.inj l2)⟩
theorem shift_same {f g : Int} : ∀ {ns ps cs : List Int}, ps.length = ns.length → cs.length = ns.length → (shiftL ns ps cs f = shiftL ns ps cs g ↔ ∀ z ∈ cs.zip ns, z.2 ∣ (f - g) * z.1)
  | [], [], [], _, _ => by simp [shiftL]
  | n :: ns, p :: ps, c :: cs, l1, l2 => by
    have e : p + f * c - (p + g * c) = (f - g) * c := by rw [Int.sub_mul]; omega
    show (p + f * c) % n :: _ = (p + g * c) % n :: _ ↔ _
    rw [List.cons.injEq, shift_same (Nat.succ.inj l1) (Nat.succ.inj l2), emod_eq_iff, e, List.zip_cons_cons, List.forall_mem_cons]
theorem shift_zero : ∀ {ns ps cs : List Int}, SeatOk ns ps → cs.length = ns.length → shiftL ns ps cs 0 = ps
  | [], [], [], _, _ => rfl
  | n :: ns, p :: ps, c :: cs, h, l => by
    show (p + 0 * c) % n :: _ = _
    rw [shift_zero h.2 (Nat.succ.inj l), Int.zero_mul, Int.add_zero, Int.emod_eq_of_lt h.1.1 h.1.2]
/-- a call times k -/
theorem shift_times {k : Int} : ∀ {ns ps cs : List Int}, shiftL ns ps (cs.map fun c => c * k) 1 = shiftL ns ps cs k
  | [], _, _ => by cases ‹List Int› <;> simp [shiftL]
  | _ :: _, [], _ => by simp [shiftL]
  | _ :: _, _ :: _, [] => by simp [shiftL]
  | n :: ns, p :: ps, c :: cs => by
    show (p + 1 * (c * k)) % n :: _ = (p + k * c) % n :: _
    rw [shift_times, Int.one_mul, Int.mul_comm c]
theorem zero_seat : ∀ {ns : List Int}, (∀ n ∈ ns, 1 ≤ n) → SeatOk ns (List.replicate ns.length 0)
  | [], _ => True.intro
  | n :: ns, h => ⟨⟨Int.le_refl _, by have := h n List.mem_cons_self; omega⟩, zero_seat fun m hm => h m (List.mem_cons_of_mem _ hm)⟩

/-- Table(..) -/
theorem mk_tab {C a : Addr} {b : Bool} {H : Hp} {ns : List Int} {R : Addr → Hp → Prop} {E : XK} (hq : SqH H (b, a) (ns.map V.int)) (ok : SzOk ns) (k : ∀ x H2, Ex H H2 → H x = none → TabAt C H2 x ns → R x H2) :
    ∀ x dx, H x = none → H dx = none → dx ≠ x → sp_Table_init C [.ref x, .ref a] (upd (upd H dx (.own x)) x (.ins C dx [])) (fun v H2 => v = .non ∧ R x H2) E := by
  intro x dx nx ndx _
  have exB : Ex H (upd (upd H dx (.own x)) x (.ins C dx [])) := fun c o z => by
    rw [upd_ne (ne_of_none z nx), upd_ne (ne_of_none z ndx)]
    exact z
  refine ⟨x, dx, (b, a), ns, rfl, upd_same, hq.mono exB, ok, fun H3 k3 ht3 => ⟨rfl, ?_⟩⟩
  obtain ⟨t, g1, g2⟩ := ht3
  exact k x H3 (fun c o z => k3 c o (ne_of_none z nx) (exB c o z)) nx ⟨dx, t, g1, g2⟩
theorem eqN {i j : Int} (h : ¬(!decide (V.int i = V.int j)) = true) : i = j := by
  by_cases e : i = j
  · exact e
  · exact absurd (by simp [e]) h
/-! ### lists and tuples alike -/
theorem cut_from (xs : List V) (k : Nat) : cutV xs (some (k : Int)) none = xs.drop k := by
  unfold cutV
  rw [HT.sIx_nat, HT.sIx_none]
  by_cases h : k ≤ xs.length
  · rw [Nat.min_eq_left h]
    exact List.take_of_length_le (by rw [List.length_drop]; omega)
  · rw [Nat.min_eq_right (by omega), List.drop_of_length_le (Nat.le_refl _), List.drop_of_length_le (by omega)]
    simp
theorem cut_to (xs : List V) (k : Nat) : cutV xs none (some (k : Int)) = xs.take k := by
  unfold cutV
  rw [HT.sIx_nat, HT.sIx_none, List.drop_zero, Nat.sub_zero]
  by_cases h : k ≤ xs.length
  · rw [Nat.min_eq_left h]
  · rw [Nat.min_eq_right (by omega), List.take_of_length_le (Nat.le_refl _), List.take_of_length_le (by omega)]
theorem cut_whole {xs : List V} {lo hi : Option Int} (h : HT.sIx xs.length 0 lo = 0 ∧ HT.sIx xs.length xs.length hi = xs.length) : cutV xs lo hi = xs := by
  unfold cutV
  rw [h.1, h.2, List.drop_zero, Nat.sub_zero, List.take_of_length_le (Nat.le_refl _)]
def rIxQ (K : PySem.W.Frag) : R2 := fun x y H Q => ∃ (q : Bool × Addr) (xs : List V) (i : Int) (v : V), x = .ref q.2 ∧ y = .int i ∧ CZ.SqK K H q xs ∧ atI xs i = some v ∧ Q v H
theorem ix_q {X : Cx} : IxR X (rIxQ X.K) := by
  intro value slice pins s σ H x y v u Q I rx ry h hsub
  obtain ⟨⟨b, a⟩, xs, i, z, rfl, rfl, hq, hz, q⟩ := h
  cases b
  · exact ix_list value slice pins s σ H _ _ v u Q I rx ry ⟨a, xs, i, z, rfl, rfl, hq, hz, q⟩ hsub
  · exact ix_tup value slice pins s σ H _ _ v u Q I rx ry ⟨a, xs, i, z, rfl, rfl, hq, hz, q⟩ hsub
def rSlQ : V → Option Int → Option Int → Hp → VK → Prop := fun x lo hi H Q => ∃ (q : Bool × Addr) (xs : List V), x = .ref q.2 ∧ SqH H q xs ∧ ∀ p H2, Ex H H2 → SqH H2 (q.1, p) (cutV xs lo hi) → Q (.ref p) H2
theorem sl_q {X : Cx} : SlR X rSlQ := by
  intro pins s σ H x v vl vu lo hi sl Q I rx hs pl pu h
  obtain ⟨⟨b, a⟩, xs, rfl, hq, k⟩ := h
  cases b
  · exact sl_list pins s σ H _ v vl vu lo hi sl Q I rx hs pl pu ⟨a, xs, rfl, SqL.of (show H a = some (.lst xs) from hq), fun p hp => k p _ (exn hp) upd_same⟩
  · exact sl_tupA pins s σ H _ v vl vu lo hi sl Q I rx hs pl pu ⟨a, xs, rfl, SqT.of (show H a = some (.tup xs) from hq), fun hw => k a H exr (by rw [cut_whole hw]; exact hq), fun _ p hp => k p _ (exn hp) upd_same⟩

/-- the greatest common divisor -/
abbrev gcdI (a b : Int) : Int := ((Int.gcd a b : Nat) : Int)
theorem gcd_pos2 {p n : Int} (h : 1 ≤ n) : 0 < Int.gcd p n := Int.gcd_pos_of_ne_zero_right _ (by omega)
theorem gcd_turn {a b : Int} (hb : b ≠ 0) : Int.gcd b (a % b) = Int.gcd a b := by
  rw [Int.gcd_comm b, Int.emod_def, Int.sub_eq_add_neg, ← Int.mul_neg, Int.gcd_add_mul_left_left]
theorem abs45 {n : Int} (h1 : 0 ≤ n) (h2 : n ≤ 10 ^ 45) : n.natAbs < 2 ^ 150 := by
  have h5 : (10 : Int) ^ 45 < 2 ^ 150 := by decide
  have h8 : ((2 ^ 150 : Nat) : Int) = (2 : Int) ^ 150 := by simp
  omega
section
variable {P : Program} {w : World} {K : PySem.W.Frag} {mg : Str → Option Value} {base : Heap}
def sp_greatest_common_divisor : Sp := fun vs H Q _ => ∃ a b : Int, vs = [.int a, .int b] ∧ 0 ≤ a ∧ 0 ≤ b ∧ Q (.int (gcdI a b)) H
theorem ok_greatest_common_divisor (T : TX K mg) : FnOk P w K mg base CX0 1 T.f_greatest_common_divisor T.fd_greatest_common_divisor ["first", "second"] sp_greatest_common_divisor := by
  refine T.F_greatest_common_divisor.ok sc_greatest_common_divisor (fun vs H Q E h => ?_) (fun cdv A outer s H vs Q E hr h => ?_)
  · obtain ⟨a, b, rfl, _⟩ := h
    rfl
  · obtain ⟨a0, b0, rfl, h1, h2, k⟩ := h
    refine ⟨_, (pss_cons (ps_while PassesOwn.never (pt_cmpR op_ne (pv 1) pe_int (nomark _)) (pss_one (ps_par (i := 0) (j := 1) rfl sc_greatest_common_divisor.nd rfl rfl (by decide) rfl rfl (pa_cons (pv 1) (pa_cons (pe_op op_mod (pv 0) (pv 1)) pa_nil)) (by rfl)))) (pss_one (ps_ret (pe_callB call_abs (by rfl) T.z_abs (by decide +kernel) (pa_cons (pv 0) pa_nil))))), ?_⟩
    refine ⟨fun m σ H2 => ∃ a b : Int, σ = [some (.int a), some (.int b)] ∧ H2 = H ∧ 0 ≤ a ∧ 0 ≤ b ∧ Int.gcd a b = Int.gcd a0 b0 ∧ m = b.toNat, ⟨_, a0, b0, rfl, rfl, h1, h2, rfl, rfl⟩, ?_⟩
    rintro m σ _ ⟨a, b, rfl, rfl, ha, hb, hg, rfl⟩
    refine ⟨_, rfl, rfl, _, rfl, ?_⟩
    by_cases hz : b = 0
    · subst hz
      refine itf (by simp) ⟨_, rfl, a, rfl, ?_⟩
      rw [if_neg (by omega)]
      have e : (Int.gcd a 0 : Nat) = a.natAbs := by simp
      have e2 : gcdI a0 b0 = a := by
        show ((Int.gcd a0 b0 : Nat) : Int) = a
        rw [← hg, e]
        omega
      rw [e2] at k
      exact k
    · refine itt (by rw [dec_int]; simp [hz]) ⟨_, fun _ _ h => h, ?_⟩
      have q1 := Int.emod_lt_of_pos a (show 0 < b by omega)
      have q2 := Int.emod_nonneg a hz
      exact ⟨_, rfl, _, rfl, _, rfl, _, _, rfl, rfl, (by show 0 < b; omega), _, _, rfl, _, (by show (a % b).toNat < b.toNat; omega), _, _, rfl, rfl, hb, q2, by rw [gcd_turn hz, hg], rfl⟩
end

/-! ### the order of a seat -/
def perN (p n : Int) : Nat := n.natAbs / Int.gcd p n
def ordF (zs : List (Int × Int)) : Nat := zs.foldl (fun l z => Nat.lcm l (perN z.1 z.2)) 1
theorem per_int {p n : Int} (h : 1 ≤ n) : n / gcdI p n = (perN p n : Int) := by
  have e : (n.natAbs : Int) = n := Int.natAbs_of_nonneg (by omega)
  unfold perN
  rw [Int.natCast_ediv, e]
theorem per_pos {p n : Int} (h : 1 ≤ n) : 0 < perN p n := by
  unfold perN
  refine Nat.div_pos ?_ (gcd_pos2 h)
  have := Int.gcd_dvd_right p n
  have h2 : (Int.gcd p n : Int) ≤ n := Int.le_of_dvd (by omega) this
  omega
theorem per_le {p n : Int} : perN p n ≤ n.natAbs := Nat.div_le_self _ _
theorem lcm_int {l m : Nat} : (l : Int) / gcdI l m * m = ((Nat.lcm l m : Nat) : Int) := by
  show (l : Int) / ((Nat.gcd l m : Nat) : Int) * m = _
  rw [← Int.natCast_ediv, ← Int.natCast_mul, Nat.lcm, Nat.div_mul_right_comm (Nat.gcd_dvd_left l m)]
theorem ord_snoc (zs : List (Int × Int)) (z : Int × Int) : ordF (zs ++ [z]) = Nat.lcm (ordF zs) (perN z.1 z.2) := by
  unfold ordF
  rw [List.foldl_append]
  rfl
theorem lcm_fold : ∀ {zs : List (Int × Int)} {a B : Nat}, 0 < a → (∀ z ∈ zs, 1 ≤ z.2 ∧ z.2.natAbs ≤ B) → 0 < zs.foldl (fun l z => Nat.lcm l (perN z.1 z.2)) a ∧ zs.foldl (fun l z => Nat.lcm l (perN z.1 z.2)) a ≤ a * B ^ zs.length
  | [], a, B, h, _ => by simp; exact h
  | z :: zs, a, B, h, hz => by
    have h1 := hz z List.mem_cons_self
    have h2 : 0 < Nat.lcm a (perN z.1 z.2) := Nat.lcm_pos h (per_pos h1.1)
    obtain ⟨g1, g2⟩ := lcm_fold (zs := zs) (B := B) h2 fun y hy => hz y (List.mem_cons_of_mem _ hy)
    refine ⟨g1, Nat.le_trans g2 ?_⟩
    have h3 : Nat.lcm a (perN z.1 z.2) ≤ a * B := Nat.le_trans (Nat.div_le_self _ _) (Nat.mul_le_mul_left _ (Nat.le_trans per_le h1.2))
    calc _ ≤ a * B * B ^ zs.length := Nat.mul_le_mul_right _ h3
      _ = a * B ^ (zs.length + 1) := by rw [Nat.pow_succ, Nat.mul_assoc, Nat.mul_comm B]
theorem ord_ok {zs : List (Int × Int)} (h : ∀ z ∈ zs, 1 ≤ z.2 ∧ z.2 ≤ 10 ^ 45) (hl : zs.length ≤ 4) : 0 < ordF zs ∧ ordF zs < 2 ^ 600 := by
  obtain ⟨g1, g2⟩ := lcm_fold (zs := zs) (a := 1) (B := 10 ^ 45) (by decide) fun z hz => ⟨(h z hz).1, by
    have := h z hz
    have e : ((10 ^ 45 : Nat) : Int) = (10 : Int) ^ 45 := by simp
    omega⟩
  refine ⟨g1, Nat.lt_of_le_of_lt g2 ?_⟩
  rw [Nat.one_mul]
  exact Nat.lt_of_le_of_lt (Nat.pow_le_pow_right (by decide) hl) (by decide +kernel)
theorem zip_at {α β : Type} {l : List α} {m : List β} {i : Nat} {x : α} {y : β} (h1 : l[i]? = some x) (h2 : m[i]? = some y) : (l.zip m)[i]? = some (x, y) := by
  rw [List.getElem?_zip_eq_some]
  exact ⟨h1, h2⟩
theorem zip_len {α β : Type} {l : List α} {m : List β} {n : Nat} (h1 : l.length = n) (h2 : m.length = n) : (l.zip m).length = n := by
  rw [List.length_zip, h1, h2, Nat.min_self]
theorem zip_take_len {α β : Type} {l : List α} {m : List β} {n : Nat} (h1 : l.length = n) (h2 : m.length = n) : (l.zip m).take n = l.zip m := List.take_of_length_le (by rw [zip_len h1 h2]; exact Nat.le_refl _)
/-- sizes that are not too long -/
abbrev SzB (ns : List Int) : Prop := ∀ n ∈ ns, n ≤ 10 ^ 45
theorem SeatOk.at : ∀ {ns ps : List Int} {i : Nat} {n p : Int}, SeatOk ns ps → ns[i]? = some n → ps[i]? = some p → 0 ≤ p ∧ p < n
  | [], [], _, _, _, _, h, _ => by simp at h
  | n :: ns, p :: ps, 0, _, _, h, h1, h2 => by
    simp at h1 h2
    subst h1 h2
    exact h.1
  | n :: ns, p :: ps, i + 1, _, _, h, h1, h2 => by
    rw [List.getElem?_cons_succ] at h1 h2
    exact SeatOk.at h.2 h1 h2
theorem zip_bound {ns ps : List Int} (ok : SzOk ns) (hB : SzB ns) (i : Nat) : ∀ z ∈ (ps.zip ns).take i, 1 ≤ z.2 ∧ z.2 ≤ 10 ^ 45 := fun z hz => by
  have := (List.of_mem_zip (show (z.1, z.2) ∈ ps.zip ns from List.mem_of_mem_take hz)).2
  exact ⟨ok.one _ this, hB _ this⟩
theorem abs_succ {n : Int} (h : n.natAbs < 2 ^ 150) : (n + 1).natAbs < 2 ^ 151 := by
  have : (2 : Nat) ^ 151 = 2 * 2 ^ 150 := by decide +kernel
  omega
/-- the halves of a place -/
def halfL (p n : Int) : List Int := if n % 2 = 1 then [p * (n + 1) / 2 % n] else if p % 2 = 0 then [p / 2, (p + n) / 2] else []
theorem halfL_def (p n : Int) : halfL p n = if n % 2 = 1 then [p * (n + 1) / 2 % n] else if p % 2 = 0 then [p / 2, (p + n) / 2] else [] := rfl
/-- .. of a seat -/
def crossL (hss : List (List Int)) (ks : List Int) : List (List Int) := hss.flatMap fun hs => ks.map fun k => hs ++ [k]
def halvesF (zs : List (Int × Int)) : List (List Int) := zs.foldl (fun hss z => crossL hss (halfL z.1 z.2)) [[]]
theorem halves_snoc (zs : List (Int × Int)) (z : Int × Int) : halvesF (zs ++ [z]) = crossL (halvesF zs) (halfL z.1 z.2) := by
  unfold halvesF
  rw [List.foldl_append]
  rfl
theorem cross_snoc (hss : List (List Int)) (hs ks : List Int) : crossL (hss ++ [hs]) ks = crossL hss ks ++ ks.map fun k => hs ++ [k] := by
  unfold crossL
  rw [List.flatMap_append]
  simp
theorem cross_len (ks : List Int) : ∀ hss : List (List Int), (crossL hss ks).length = hss.length * ks.length
  | [] => by simp [crossL]
  | h :: hss => by
    have ih := cross_len ks hss
    unfold crossL at ih ⊢
    rw [List.flatMap_cons, List.length_append, ih, List.length_map, List.length_cons, Nat.succ_mul, Nat.add_comm]
theorem half_len (p n : Int) : (halfL p n).length ≤ 2 := by
  unfold halfL
  split
  · simp
  · split <;> simp
theorem halves_len : ∀ (zs : List (Int × Int)) (hss : List (List Int)), (zs.foldl (fun hss z => crossL hss (halfL z.1 z.2)) hss).length ≤ hss.length * 2 ^ zs.length
  | [], hss => by simp
  | z :: zs, hss => by
    refine Nat.le_trans (halves_len zs _) ?_
    rw [cross_len, List.length_cons, Nat.pow_succ, Nat.mul_comm (2 ^ zs.length), ← Nat.mul_assoc]
    exact Nat.mul_le_mul_right _ (Nat.mul_le_mul_left _ (half_len _ _))
theorem halves_few {zs : List (Int × Int)} (h : zs.length ≤ 4) : (halvesF zs).length ≤ 16 := by
  have := halves_len zs [[]]
  refine Nat.le_trans this ?_
  rw [List.length_singleton, Nat.one_mul]
  exact Nat.pow_le_pow_right (by decide) h
theorem halves_rows : ∀ (zs : List (Int × Int)) (hss : List (List Int)) (m : Nat), (∀ hs ∈ hss, hs.length = m) → ∀ hs ∈ zs.foldl (fun hss z => crossL hss (halfL z.1 z.2)) hss, hs.length = m + zs.length
  | [], hss, m, h => h
  | z :: zs, hss, m, h => fun hs hh => by
    have := halves_rows zs (crossL hss (halfL z.1 z.2)) (m + 1) (fun ks hk => ?_) hs hh
    · rw [this, List.length_cons]
      omega
    · obtain ⟨us, hu, hk⟩ := List.mem_flatMap.mp hk
      obtain ⟨k, _, rfl⟩ := List.mem_map.mp hk
      rw [List.length_append, h us hu]
      rfl
section
variable {P : Program} {w : World} {K : PySem.W.Frag} {mg : Str → Option Value} {base : Heap}
def sp_Table_order (C : Addr) : Sp := fun vs H Q _ => ∃ (a s : Addr) (ns ps : List Int), vs = [.ref a, .ref s] ∧ TabAt C H a ns ∧ SzOk ns ∧ SzB ns ∧ H s = some (.tup (ps.map V.int)) ∧ SeatOk ns ps ∧ ∀ H2, Ex H H2 → Q (.int (ordF (ps.zip ns))) H2
theorem ok_Table_order (T : TX K mg) : FnOk P w K mg base CX0 5 T.f_Table_order T.fd_Table_order ["self", "seat"] (sp_Table_order T.C_Table) := by
  refine T.F_Table_order.ok sc_Table_order (fun vs H Q E h => ?_) (fun cdv A outer s H vs Q E hr h => ?_)
  · obtain ⟨a, s, ns, ps, rfl, _⟩ := h
    rfl
  · obtain ⟨a, s, ns, ps, rfl, tab, ok, hB, hs, sk, k⟩ := h
    have l4 := ok.le
    have lp := sk.len
    refine ⟨_, (pss_cons (ps_expr (pe_call (ok_require_seat T) hr rfl T.m_require_seat T.F_require_seat.kp T.b_require_seat .nil pass0 (pa_cons (pv 0) (pa_cons (pv 1) pa_nil)))) (pss_cons (ps_set (i := 2) sc_Table_order.nd rfl (Or.inl rfl) pe_int) (pss_cons (ps_for PassesOwn.never rfl (CZ.pi_z2s (fl := [true, true]) rfl (by rfl) T.z_zip (pa_cons (pv 1) (pa_cons (pe_fld (pv 0) rfl) pa_nil))) (pg_tup rfl (pgs_cons (pg_name (i := 3) sc_Table_order.nd rfl (Or.inl rfl)) (pgs_cons (pg_name (i := 4) sc_Table_order.nd rfl (Or.inl rfl)) pgs_nil))) (pss_cons (ps_set (i := 5) sc_Table_order.nd rfl (Or.inl rfl) (pe_op op_fdivW (pv 4) (pe_call (ok_greatest_common_divisor T) (hr.mono (by decide)) rfl T.m_greatest_common_divisor T.F_greatest_common_divisor.kp T.b_greatest_common_divisor .nil pass0 (pa_cons (pv 3) (pa_cons (pv 4) pa_nil))))) (pss_one (ps_set (i := 2) sc_Table_order.nd rfl (Or.inl rfl) (pe_op op_mulI (pe_op op_fdivW (pv 2) (pe_call (ok_greatest_common_divisor T) (hr.mono (by decide)) rfl T.m_greatest_common_divisor T.F_greatest_common_divisor.kp T.b_greatest_common_divisor .nil pass0 (pa_cons (pv 2) (pa_cons (pv 5) pa_nil)))) (pv 5)))))) (pss_one (ps_ret (pv 2)))))), ?_⟩
    refine ⟨_, rfl, _, rfl, a, _, ns, _, rfl, tab, l4, TupA.ints hs (by omega), isSeat_ok sk, fun H1 e1 => ?_⟩
    obtain ⟨dx, t, h1, h2⟩ := tab.mono e1
    have hs1 := e1 _ _ hs
    refine ⟨_, rfl, _, rfl, a, _, dx, _, _, rfl, h1, T.cl_Table, T.n_Table_rings, rfl, [s, t], rfl, rfl, all2 (sqT hs1) (sqT h2), ?_⟩
    refine for_it (CZ.walk_rows (xss := [ps.map V.int, ns.map V.int]) (n := ns.length) (lens2 (by rw [List.length_map, lp]) (by rw [List.length_map]))) (fun i σ H2 => ∃ y1 y2 y3 : Option V, σ = [some (.ref a), some (.ref s), some (.int (ordF ((ps.zip ns).take i))), y1, y2, y3] ∧ Ex H1 H2) ⟨_, _, _, rfl, exr⟩ (fun i σ H2 _ ⟨_, _, _, _, e⟩ => .cons (sqT (e _ _ hs1)) (.cons (sqT (e _ _ h2)) .nil)) ?_ ?_
    · rintro i x σ H2 H3 hi ⟨y1, y2, y3, rfl, e2⟩ yy
      obtain ⟨Ta, p, n, rfl, hT, rfl, hp, hn⟩ := yints2 yy
      have n1 := ok.one n (List.mem_of_getElem? hn)
      have n2 := hB n (List.mem_of_getElem? hn)
      obtain ⟨p0, p1⟩ := sk.at hn hp
      have lt : ((ps.zip ns).take i).length ≤ 4 := by
        rw [List.length_take, zip_len lp rfl]
        omega
      obtain ⟨o1, o2⟩ := ord_ok (zip_bound ok hB i) lt
      have ezs := take_more (zip_at hp hn)
      refine ⟨Ta, _, rfl, SqT.of upd_same, rfl, _, _, rfl, _, _, rfl, rfl, ?_⟩
      have g0 : (0 : Int) < gcdI p n := by
        have := gcd_pos2 (p := p) n1
        show (0 : Int) < ((Int.gcd p n : Nat) : Int)
        omega
      have gle : gcdI p n ≤ n := Int.le_of_dvd (by omega) (Int.gcd_dvd_right p n)
      refine ⟨_, rfl, _, rfl, _, rfl, p, n, rfl, p0, (by omega), _, _, rfl, rfl, wide_div g0 (abs45 (by omega) (by omega)) (by decide) (by decide), ?_⟩
      have q0 := per_pos (p := p) n1
      have q1 := per_le (p := p) (n := n)
      have q2 : perN p n < 2 ^ 150 := Nat.lt_of_le_of_lt q1 (abs45 (by omega) n2)
      dsimp only
      rw [per_int n1]
      have r0 : 0 < Nat.gcd (ordF ((ps.zip ns).take i)) (perN p n) := Nat.gcd_pos_of_pos_left _ o1
      have r1 : Nat.gcd (ordF ((ps.zip ns).take i)) (perN p n) ≤ perN p n := Nat.gcd_le_right _ q0
      refine ⟨_, rfl, _, rfl, _, rfl, _, _, rfl, Int.natCast_nonneg _, Int.natCast_nonneg _, _, _, rfl, rfl, wide_div (b := 150) ?_ ?_ (by decide) (by decide), _, rfl, _, _, rfl, rfl, (wide_mul (a := 600) (b := 150) ?_ ?_ (by decide) (by decide) (by decide)).ok, ?_⟩
      · show (0 : Int) < ((Nat.gcd (ordF ((ps.zip ns).take i)) (perN p n) : Nat) : Int)
        omega
      · show ((Nat.gcd (ordF ((ps.zip ns).take i)) (perN p n) : Nat) : Int).natAbs < 2 ^ 150
        rw [Int.natAbs_natCast]
        exact Nat.lt_of_le_of_lt r1 q2
      · show ((ordF ((ps.zip ns).take i) : Int) / ((Nat.gcd (ordF ((ps.zip ns).take i)) (perN p n) : Nat) : Int)).natAbs < 2 ^ 600
        rw [← Int.natCast_ediv, Int.natAbs_natCast]
        exact Nat.lt_of_le_of_lt (Nat.div_le_self _ _) o2
      · rw [Int.natAbs_natCast]
        exact q2
      · dsimp only
        rw [lcm_int]
        rw [ezs, ord_snoc]
        exact ⟨_, _, _, rfl, fun c o z => exn hT _ _ (e2 c o z)⟩
    · rintro σ H2 ⟨y1, y2, y3, rfl, e2⟩
      rw [zip_take_len lp rfl]
      exact ⟨_, rfl, k _ fun c o z => e2 c o (e1 c o z)⟩
end

/-- a list (false) or a tuple (true) of tuples of ints -/
def RowsQ (H : Hp) (q : Bool × Addr) (tss : List (List Int)) : Prop := ∃ xs, SqH H q xs ∧ RowsR H xs tss
theorem RowsQ.mono {H H2 : Hp} {q : Bool × Addr} {tss : List (List Int)} (e : Ex H H2) (h : RowsQ H q tss) : RowsQ H2 q tss := by
  obtain ⟨xs, h1, h2⟩ := h
  exact ⟨xs, h1.mono e, h2.mono e⟩
theorem RowsQ.dp {K : PySem.W.Frag} {H : Hp} {q : Bool × Addr} {tss : List (List Int)} (h : RowsQ H q tss) : Dp K H (.ref q.2) (.list (tss.map iT)) ∨ Dp K H (.ref q.2) (.tuple (tss.map iT)) := by
  obtain ⟨xs, h1, h2⟩ := h
  obtain ⟨b, a⟩ := q
  cases b
  · exact .inl (.lst (SqL.of (show H a = some (.lst xs) from h1)) h2.dp)
  · exact .inr (.tup (SqT.of (show H a = some (.tup xs) from h1)) h2.dp)
theorem any_rows (tss : List (List Int)) (ps : List Int) : ((tss.map iT).any fun z => PyData.eqv z (iT ps)) = decide (ps ∈ tss) := by
  rw [List.any_map, Bool.eq_iff_iff, List.any_eq_true, decide_eq_true_eq]
  constructor
  · rintro ⟨x, hx, h⟩
    have h2 : PyData.eqv (iT x) (iT ps) = true := h
    rw [eqv_ints] at h2
    rw [← of_decide_eq_true h2]
    exact hx
  · intro h
    refine ⟨ps, h, ?_⟩
    show PyData.eqv (iT ps) (iT ps) = true
    rw [eqv_ints]
    simp
abbrev kI (ps : List Int) : List Key := ps.map Sum.inl
theorem kI_map (ps : List Int) : (kI ps).map kV = ps.map V.int := by
  rw [List.map_map]
  rfl
theorem kI_inj {a b : List Int} (h : kI a = kI b) : a = b := by
  induction a generalizing b with
  | nil =>
    cases b with
    | nil => rfl
    | cons y ys => simp at h
  | cons x xs ih =>
    cases b with
    | nil => simp at h
    | cons y ys =>
      simp only [List.map_cons, List.cons.injEq, Sum.inl.injEq] at h
      rw [h.1, ih h.2]
theorem nodup_get {α : Type} {l : List α} (nod : l.Nodup) {i : Nat} {t : α} (ht : l[i]? = some t) : ¬ t ∈ l.take i := by
  intro hm
  obtain ⟨j, hj⟩ := List.getElem?_of_mem hm
  obtain ⟨jl, je⟩ := List.getElem?_eq_some_iff.mp hj
  rw [List.length_take] at jl
  rw [List.getElem_take] at je
  obtain ⟨il, ie⟩ := List.getElem?_eq_some_iff.mp ht
  exact absurd (je.trans ie.symm) (List.pairwise_iff_getElem.mp nod j i (by omega) il (by omega))
theorem put_len {κ : Type} [DecidableEq κ] {kvs : List (κ × V)} {k : κ} {v : V} (h : valV kvs k = none) : (putK kvs k v).length = kvs.length + 1 := by
  rw [putK_new v h, List.length_append]
  rfl
section
variable {P : Program} {w : World} {K : PySem.W.Frag} {mg : Str → Option Value} {base : Heap}
def sp_require_table (C : Addr) : Sp := fun vs H Q _ => ∃ (a : Addr) (ns : List Int), vs = [.ref a] ∧ TabAt C H a ns ∧ Q .non H
theorem ok_require_table (T : TX K mg) : FnOk P w K mg base CX0 5 T.f_require_table T.fd_require_table ["table"] (sp_require_table T.C_Table) := by
  refine T.F_require_table.ok sc_require_table (fun vs H Q E h => ?_) (fun cdv A outer s H vs Q E hr h => ?_)
  · obtain ⟨a, ns, rfl, _⟩ := h
    rfl
  · obtain ⟨a, ns, rfl, ⟨dx, t, h1, h2⟩, k⟩ := h
    refine ⟨_, (pss_one (ps_if (pt_not (pt_val (pe_callB call_isi (by rfl) T.z_isinstance (by decide +kernel) (pa_cons (pv 0) (pa_cons (pe_glob (v := .ref T.C_Table) rfl T.m_Table rfl) pa_nil))))) pss_never pss_nil)), ?_⟩
    exact ⟨_, rfl, _, _, _, _, true, rfl, .own _, .base (.ins h1 T.cl_Table T.ic_Table T.ig_ T.it_ T.im_Table), kit_self, _, rfl, itf rfl k⟩
def sp_require_targets (C : Addr) : Sp := fun vs H Q _ => ∃ (a : Addr) (q : Bool × Addr) (ns : List Int) (tss : List (List Int)), vs = [.ref a, .ref q.2] ∧ TabAt C H a ns ∧ ns.length ≤ 4 ∧ RowsQ H q tss ∧ tss ≠ [] ∧ tss.length ≤ 100000 ∧ (∀ ts ∈ tss, SeatOk ns ts) ∧ tss.Nodup ∧ ∀ H2, Ex H H2 → Q .non H2
theorem ok_require_targets (T : TX K mg) : FnOk P w K mg base CX0 4 T.f_require_targets T.fd_require_targets ["table", "targets"] (sp_require_targets T.C_Table) := by
  refine T.F_require_targets.ok sc_require_targets (fun vs H Q E h => ?_) (fun cdv A outer s H vs Q E hr h => ?_)
  · obtain ⟨a, q, ns, tss, rfl, _⟩ := h
    rfl
  · obtain ⟨a, ⟨b, q⟩, ns, tss, rfl, tab, l4, ⟨xs, hq, rr⟩, ne, lts, sks, nod, k⟩ := h
    refine ⟨_, (pss_cons (ps_if (PW.pt (pw_or (pt_not (pt_val (pe_callB call_isiT (by rfl) T.z_isinstance (by decide +kernel) (pa_cons (pv 1) (pa_cons (pe_tup (pa_cons (pe_bltn (v := .ty "list") rfl T.z_list (by decide +kernel) rfl) (pa_cons (pe_bltn (v := .ty "tuple") rfl T.z_tuple (by decide +kernel) rfl) pa_nil))) pa_nil))))) (pw_or1 (pt_cmpR op_eq (pe_callB call_len_seq (by rfl) T.z_len (by decide +kernel) (pa_cons (pv 1) pa_nil)) pe_int (nomark _))))) pss_never pss_nil) (pss_cons (ps_set (i := 2) sc_require_targets.nd rfl (Or.inl rfl) pe_dnewT) (pss_one (ps_for PassesOwn.never rfl (CE.pi_e rfl T.z_enumerate (pa_cons (pv 1) pa_nil)) (pg_tup rfl (pgs_cons (pg_name (i := 3) sc_require_targets.nd rfl (Or.inl rfl)) (pgs_cons (pg_name (i := 4) sc_require_targets.nd rfl (Or.inl rfl)) pgs_nil))) (pss_cons (ps_if (PW.pt (pw_or (pt_not (pt_val (pe_meth (pv 0) T.cl_Table T.me_Table_is_seat (ok_Table_is_seat T) hr T.b_Table_is_seat .nil pass0 (pa_cons (pv 4) pa_nil)))) (pw_or1 (pt_cmp (pc_din (hu_of hr) (pv 4) (pv 2)))))) pss_never pss_nil) (pss_one (ps_dput (hu_of hr) (pv 2) (pv 4) (pv 3) (by rfl)))))))), ?_⟩
    have lx := rr.len
    (repeat (first | refine ⟨rfl, ?_⟩ | refine ⟨_, rfl, ?_⟩ | refine ⟨_, _, rfl, rfl, ?_⟩ | refine ⟨_, _, rfl, ?_⟩ | refine ⟨slen rfl, ?_⟩ | refine ⟨⟨by decide, by decide +kernel⟩, ?_⟩ | refine ⟨⟨by decide, by decide, by decide⟩, ?_⟩ | refine ⟨(by show (0 : Int) < _; first | decide | assumption | omega), ?_⟩ | refine ⟨mul_ok (by first | exact .inr (by decide) | exact .inl (by decide)), ?_⟩))
    (intro y ny; generalize hGy : upd _ y _ = H1; have eH1 := exG hGy ny; have hy := atG hGy; clear hGy)
    have q1 := hq.mono eH1
    refine ⟨_, y, _, _, _, true, rfl, hy, .cons (.ty _) (.cons (.ty _) .nil), q1.ty, kit_seq b, _, rfl, ?_⟩
    refine ⟨_, rfl, q, _, rfl, sq_or q1, rfl, _, rfl, itf (by rw [dec_int, lx]; simp; exact ne) ?_⟩
    (intro d nd; generalize hGd : upd _ d _ = H2; have eH2 := exG hGd nd; have hd := atG hGd; clear hGd)
    have e2 : Ex H H2 := ext eH1 eH2
    have nd0 : H d = none := Evl.fresh_back eH1 nd
    refine ⟨_, rfl, (b, q), rfl, ⟨_, (hq.mono e2).sq⟩, ?_⟩
    refine for_it (CE.walk_e (xs := xs)) (fun i σ H3 => ∃ (y3 y4 : Option V) (kvs : List (List Key × V)), σ = [some (.ref a), some (.ref q), some (.ref d), y3, y4] ∧ Ex H H3 ∧ H3 d = some (.dT kvs) ∧ kvs.length = i ∧ ∀ ts : List Int, (valV kvs (kI ts)).isSome = true → ts ∈ tss.take i) ⟨_, _, [], rfl, e2, hd, rfl, fun t h => by simp [valV] at h⟩ (fun i σ H2 _ ⟨_, _, _, _, e, _⟩ => (hq.mono e).sq) ?_ ?_
    · rintro i x σ H3 H4 hi ⟨y3, y4, kvs, rfl, e3, hd3, lk, hv⟩ ⟨Ta, x1, x2, rfl, hT, rfl, hx1, hx2⟩
      cases hx1
      obtain ⟨ts, r, ht, rfl, hr0⟩ := rr.get hx2
      have sk := sks ts (List.mem_of_getElem? ht)
      have lt := sk.len
      have e4 : Ex H (upd H3 Ta (.tup [.int (i : Nat), .ref r])) := ext e3 (exn hT)
      have hd4 := exn (o := .tup [.int (i : Nat), .ref r]) hT _ _ hd3
      refine ⟨Ta, _, rfl, SqT.of upd_same, rfl, _, _, rfl, _, _, rfl, rfl, ?_⟩
      generalize upd H3 Ta (.tup [.int (i : Nat), .ref r]) = H4 at e4 hd4
      obtain ⟨dx, t, g1, g2⟩ := tab.mono e4
      refine ⟨_, rfl, a, dx, _, rfl, g1, rfl, _, rfl, a, _, ns, _, rfl, tab.mono e4, l4, TupA.ints (e4 _ _ hr0) (by omega), fun H5 e5 => ?_⟩
      refine ⟨_, rfl, itf (by rw [isSeat_ok sk]; rfl) ?_⟩
      have hno : valV kvs (kI ts) = none := by
        cases hz : valV kvs (kI ts) with
        | none => rfl
        | some v => exact absurd (hv ts (by rw [hz]; rfl)) (nodup_get nod ht)
      have hd5 := e5 _ _ hd4
      have hr5 : H5 r = some (.tup ((kI ts).map kV)) := by rw [kI_map]; exact e5 _ _ (e4 _ _ hr0)
      refine ⟨_, rfl, _, rfl, d, _, rfl, DGet.t hd5 hr5, _, rfl, itf (by rw [hno]; rfl) ?_⟩
      refine ⟨_, rfl, _, rfl, _, rfl, d, _, rfl, DPut.t hd5 hr5 ?_, ?_⟩
      · rw [lk]
        exact Nat.lt_of_lt_of_le (show i < tss.length by omega) (Nat.le_trans lts (by decide))
      · refine ⟨_, _, putK kvs (kI ts) (.int (i : Nat)), rfl, ?_, upd_same, by rw [put_len hno, lk], fun us hu => ?_⟩
        · intro c o z
          rw [upd_ne (ne_of_none z nd0)]
          exact e5 c o (e4 c o z)
        · rw [valV_put] at hu
          rw [take_more ht, List.mem_append]
          by_cases e : us = ts
          · exact .inr (by rw [e]; exact List.mem_cons_self)
          · rw [if_neg (fun z => e (kI_inj z))] at hu
            exact .inl (hv us hu)
    · rintro σ H2 ⟨y3, y4, kvs, rfl, e3, _⟩
      exact k _ e3
end

-- sorts
open PySem.W PySem.Calls in
theorem collect_tuple {prog : Program} {w : World} {A : Around} {E : Value → Shared → Prop} {s : Shared} {l : Addr} {vs : List Value} {Q : List Value → Shared → Prop} (hl : IsTup s.heap l vs.toArray)
    (h : Q vs { s with heap := (s.heap.push (seqObj "list" #[] 0)).update s.heap.objs.size (Obj.mapSeq (· ++ vs.toArray)) }) (hsz : vs.length ≤ sizeLine) :
    wpAny (model prog w) A (collect (.ref l)) Q E s := by
  obtain ⟨o, ho, hc, n, hd⟩ := id hl
  unfold collect
  refine wpAny_bind (wpAny_runValue (codeAny_builtin entry_proto_collect' ?_))
  show wpAny _ _ (do again (.builtin "list.__iadd__" ⟨[← newList [], .ref l], []⟩)) _ _ s
  refine wpAny_bind (wpAny_newList (wpAny_pure ⟨Code.quiet_builtin _ (by decide +kernel), codeAny_builtin entry_list_iadd' ?_⟩))
  show wpAny _ _ (Builtin.List.listExtendWith (.ref s.heap.objs.size) (.ref l) (.ref s.heap.objs.size)) _ _ { s with heap := s.heap.push (seqObj "list" #[] 0) }
  unfold Builtin.List.listExtendWith
  have ho' : (s.heap.push (seqObj "list" #[] 0)).get? l = some o := Heap.get?_push_of_some _ ho
  refine wpAny_bind (wpAny_typeOf (T := "tuple") ⟨o, ho', hc⟩ ?_)
  have ht : (Value.type "tuple" == Value.type "tuple") = true := by rfl
  rw [if_pos (by rw [ht]; simp)]
  refine wpAny_bind (listItems_at ho' hd ?_)
  refine wpAny_bind (listItems_at (xs := #[]) (n := 0) (Heap.get?_push_size _ rfl) rfl ?_)
  rw [if_neg (by simp)]
  refine wpAny_bind (listUpdate_at (xs := #[]) (n := 0) (Heap.get?_push_size _ rfl) rfl ?_ (Nat.zero_le _) (by show (#[] ++ vs.toArray).size ≤ sizeLine + 1; simp only [Array.size_append, List.size_toArray, List.length_nil]; omega))
  refine wpAny_pure ?_
  show wpAny (model prog w) A (do
      let o ← load s.heap.objs.size
      match o.data with
      | .seq xs _ => pure xs.toList
      | _ => unsupported "internal:collect") Q E { s with heap := (s.heap.push (seqObj "list" #[] 0)).update s.heap.objs.size (Obj.mapSeq (· ++ vs.toArray)) }
  refine wpAny_bind (wpAny_load (get?_update_seq (Heap.get?_push_size _ rfl) _) ?_)
  show wpAny _ _ (pure ((#[] : Array Value) ++ vs.toArray).toList) Q E _
  rw [show ((#[] : Array Value) ++ vs.toArray).toList = vs by simp]
  exact wpAny_pure h
open PySem.W PySem.Calls in
theorem sorted_of_tup {prog : Program} {w : World} {A : Around} {E : Value → Shared → Prop} {s : Shared} {l : Addr} {vs : List Value} {Q : Value → Shared → Prop} (hl : IsTup s.heap l vs.toArray) (hL : vs.length ≤ sizeLine)
    (body : ∀ E' : Value → Shared → Prop, wpAny (model prog w) A.in1.in1 (Builtin.«list.sort» ⟨[.ref (s.heap.objs.size + 1)], []⟩) (fun f s' => f = .done (.ret .none) ∧ Q (.ref (s.heap.objs.size + 1)) s') E' { s with heap := copyHeap s.heap vs }) :
    wpAny (model prog w) A (call (.builtin "sorted") [.ref l]) Q E s := by
  refine call_function_entry_kw kind_sorted plain_sorted entry_sorted (args_sorted1 _) ?_
  unfold Builtin.«sorted»
  refine wpAny_bind (m := checkCount "sorted" 1 1 _) (wpAny_pure ?_)
  refine wpAny_bind (collect_tuple hl ?_ hL)
  refine wpAny_bind (wpAny_newList ?_ hL)
  have hsz : ((s.heap.push (seqObj "list" #[] 0)).update s.heap.objs.size (Obj.mapSeq (· ++ vs.toArray))).objs.size = s.heap.objs.size + 1 := by
    rw [Heap.size_update, size_push']
  show wpAny _ _ _ _ _ { s with heap := copyHeap s.heap vs }
  rw [hsz]
  refine wpAny_bind (wpAny_holding (wpAny_call_entry_kw slot_list_sort ⟨_, copyHeap_at s.heap vs, rfl⟩ entry_list_sort ?body (args_list_sort _)))
  case body =>
    show wpAny (model prog w) A.in1.in1 (Builtin.«list.sort» ⟨[.ref (s.heap.objs.size + 1)], []⟩) _ _ _
    refine wpAny_mono (body _) (fun f s' hf => ?_) fun _ _ e => e
    obtain ⟨rfl, hq⟩ := hf
    exact ⟨_, rfl, wpAny_pure ⟨_, rfl, hq⟩⟩
open PySem.W PySem.Calls in
theorem sorted_data_t {prog : Program} {w : World} {A : Around} {E : Value → Shared → Prop} {s : Shared} {β : Type} {vs : List Value} {bs : List β} {enc : β → PyData} {R : Value → β → Prop} {l : Addr} {Q : Value → Shared → Prop} (hl : IsTup s.heap l vs.toArray) (e : EachIs R vs bs) (er : EachIs (fun v b => ∃ as, Reads s.heap v (enc b) as) vs bs) (hal : AllAlike (bs.map enc)) (hk : Sortable (bs.map enc)) (hL : bs.length ≤ sizeLine)
    (hu : ∀ b, b ∈ bs → A.units + 2 + (enc b).depth < cLine) (h : ∀ out, out.length = bs.length → EachIs R out (bs.mergeSort (dataLe false enc)) → Q (.ref (s.heap.objs.size + 1)) { s with heap := sortedAll s.heap vs (List.toArray out) }) :
    wpAny (model prog w) A (call (.builtin "sorted") [.ref l]) Q E s := by
  have er' : EachIs (fun v b => ∃ as, Reads (sortingHeap (copyHeap s.heap vs) (s.heap.objs.size + 1) vs) v (enc b) as) vs bs := er.mono fun _ _ ⟨as, r⟩ => ⟨as, PyProof.Rows.Reads.keeps (fun _ _ => sorting_copy_old) r⟩
  have hL' : vs.length ≤ sizeLine := by rw [e.length]; exact hL
  exact sorted_of_tup hl hL' fun _ => list_sort_vals (s := { s with heap := copyHeap s.heap vs }) (copyHeap_at s.heap vs) (SortsAt.data (s := { s with heap := sortingHeap (copyHeap s.heap vs) (s.heap.objs.size + 1) vs }) (each_map (R := fun v d => ∃ as, Reads (sortingHeap (copyHeap s.heap vs) (s.heap.objs.size + 1) vs) v d as) enc er') hal hk (bound_map hu)) hL' ⟨rfl, h _ (by rw [sortVals_length false rfl]; exact e.length) (sortVals_data false e er' hal)⟩
/-- the order of tuples of ints -/
def leT (a b : List Int) : Bool := PySem.W.dataLe false iT a b
/-- sorted(q), q a list or tuple of tuples of ints -/
def rSortQ (K : PySem.W.Frag) : List V → Hp → VK → Prop := fun vs H Q => ∃ (q : Bool × Addr) (xs : List V) (tss : List (List Int)), vs = [V.ref q.2] ∧ CZ.SqK K H q xs ∧ RowsR H xs tss ∧ (∀ ts ∈ tss, ts ≠ []) ∧
  ∀ (ys : List V) (p : Addr), RowsR H ys (tss.mergeSort leT) → H p = none → Q (.ref p) (upd H p (.lst ys))
open PySem.W in
theorem each_rows {H : Hp} : ∀ {xs : List V} {tss : List (List Int)} {us : List Value}, RowsR H xs tss → Vals xs us → EachIs (fun (u : Value) (ts : List Int) => ∃ t, u = Value.ref t ∧ H t = some (.tup (ts.map V.int))) us tss
  | _, _, _, .nil, .nil => .nil
  | _, _, _, .cons ⟨r, e, h⟩ t, .cons rv tv => by
    subst e
    cases rv
    exact .cons ⟨r, rfl, h⟩ (each_rows t tv)
open PySem.W in
theorem rows_each {H : Hp} : ∀ {us : List Value} {tss : List (List Int)}, EachIs (fun (u : Value) (ts : List Int) => ∃ t, u = Value.ref t ∧ H t = some (.tup (ts.map V.int))) us tss → ∃ ys, RowsR H ys tss ∧ Vals ys us
  | _, _, .nil => ⟨[], .nil, .nil⟩
  | _, _, .cons ⟨t, e, h⟩ r => by
    subst e
    obtain ⟨ys, h1, h2⟩ := rows_each r
    exact ⟨.ref t :: ys, .cons ⟨t, rfl, h⟩ h1, .cons rfl h2⟩
open PySem.W in
theorem each_dp {X : Cx} {pins : List (Addr × Obj)} {σ : L2.St} {H : Hp} {s : Shared} (I : Inv X pins σ H s) : ∀ {us : List Value} {tss : List (List Int)}, EachIs (fun (u : Value) (ts : List Int) => ∃ t, u = Value.ref t ∧ H t = some (.tup (ts.map V.int))) us tss → EachIs (fun v b => ∃ as, Reads s.heap v (iT b) as) us tss
  | _, _, .nil => .nil
  | _, _, .cons ⟨t, e, h⟩ r => by
    subst e
    exact .cons (Dp.reads I _ (.ref t) _ (dp_ints h) rfl) (each_dp I r)
theorem alike_iT (a b : List Int) : PySem.W.alike (iT a) (iT b) = true := by
  show PySem.W.alike (.tuple (a.map .int)) (.tuple (b.map .int)) = true
  rw [PySem.W.alike]
  exact PySem.W.alike_ints a b
theorem cr_sortQ {X : Cx} (hu : X.A.units + 65 < cLine) : CallR X (.builtin "sorted") (rSortQ X.K) := by
  intro pins s σ H vs us Q I r h
  obtain ⟨⟨b, a⟩, xs, tss, rfl, hs, rr, ne, q⟩ := h
  rw [Vals.ref1 r]
  have hk : PySem.W.Sortable (tss.map iT) := .inl fun d hd => by
    obtain ⟨ts, ht, rfl⟩ := List.mem_map.mp hd
    cases ts with
    | nil => exact absurd rfl (ne _ ht)
    | cons x l => exact ⟨_, _, rfl⟩
  have hU : ∀ ts, ts ∈ tss → X.A.units + 2 + (iT ts).depth < cLine := fun ts _ => by
    have e := PySem.W.depth_ints ts
    have : (iT ts).depth = 1 := by
      show PyData.depth (.tuple (ts.map .int)) = 1
      simp only [PyData.depth, e]
    omega
  have fin : ∀ its : List Value, Vals xs its → xs.length ≤ sizeLine → ∀ out, out.length = tss.length → PySem.W.EachIs (fun (u : Value) (ts : List Int) => ∃ t, u = Value.ref t ∧ H t = some (.tup (ts.map V.int))) out (tss.mergeSort (PySem.W.dataLe false iT)) → EP X pins σ Q (.ref (s.heap.objs.size + 1)) { s with heap := sortedAll s.heap its (List.toArray out) } := by
    intro its rv hz out lo eo
    obtain ⟨ys, h1, h2⟩ := rows_each eo
    obtain ⟨ep, he'⟩ := PyProof.Rows.sortedAll_at s.heap its (List.toArray out)
    have hlen : ys.length ≤ sizeLine := by
      rw [h2.length, lo, ← Paired.length rr]
      exact hz
    exact ⟨.ref _, upd H (s.heap.objs.size + 1) (.lst ys), I.laid (t' := s.toks) (fun _ _ => PyProof.Rows.sortedAll_old) (Nat.le_succ _) ⟨hlen, out, ep, h2, he'⟩, rfl, q ys _ h1 (I.hok.fresh (Nat.le_succ _))⟩
  have hal : PySem.W.AllAlike (tss.map iT) := PySem.W.AllAlike.of alike_iT
  cases b with
  | false =>
    obtain ⟨its, rv, hl, hz⟩ := I.list (show SqL X.K H a xs from hs)
    have e := each_rows rr rv
    exact PySem.W.sorted_data (enc := iT) hl.isList e (each_dp I e) hal hk (by rw [← Paired.length rr]; exact hz) hU (fin its rv hz)
  | true =>
    obtain ⟨its, rv, hl, hz⟩ := I.tuple (show SqT X.K H a xs from hs)
    have e := each_rows rr rv
    exact sorted_data_t (enc := iT) hl e (each_dp I e) hal hk (by rw [← Paired.length rr]; exact hz) hU (fin its rv hz)

open CD
/-! ### lattices of integer vectors -/
abbrev Vec := Nat → Int
inductive Lat (G : Vec → Prop) : Vec → Prop where
  | zero : Lat G (fun _ => 0)
  | step {v g : Vec} (k : Int) (h : Lat G v) (hg : G g) : Lat G (fun i => v i - k * g i)
theorem Lat.comb {G : Vec → Prop} {u v : Vec} (hu : Lat G u) (hv : Lat G v) : ∀ k : Int, Lat G (fun i => u i - k * v i) := by
  induction hv with
  | zero =>
    intro k
    have : (fun i => u i - k * 0) = u := by funext i; simp
    rw [this]
    exact hu
  | step j h hg ih =>
    intro k
    have := Lat.step (-(k * j)) (ih k) hg
    refine (congrArg (Lat G) (funext fun i => ?_)).mp this
    grind
theorem Lat.gen {G : Vec → Prop} {g : Vec} (h : G g) : Lat G g := by
  have := Lat.step (-1) (Lat.zero (G := G)) h
  refine (congrArg (Lat G) (funext fun i => ?_)).mp this
  grind
theorem Lat.of_eq {G : Vec → Prop} {u v : Vec} (h : Lat G u) (e : ∀ i, u i = v i) : Lat G v := (funext e : u = v) ▸ h
theorem Lat.add {G : Vec → Prop} {u v : Vec} (hu : Lat G u) (hv : Lat G v) : Lat G (fun i => u i + v i) := (hu.comb hv (-1)).of_eq fun i => by grind
theorem Lat.mul {G : Vec → Prop} {v : Vec} (hv : Lat G v) (k : Int) : Lat G (fun i => k * v i) := (Lat.zero.comb hv (-k)).of_eq fun i => by grind
theorem Lat.le {G G' : Vec → Prop} {v : Vec} (h : ∀ g, G g → Lat G' g) (hv : Lat G v) : Lat G' v := by
  induction hv with
  | zero => exact .zero
  | step k _ hg ih => exact ih.comb (h _ hg) k
/-- a list as a vector -/
def vf (v : List Int) : Vec := fun i => v.getD i 0
theorem vf_nil : vf [] = fun _ => 0 := by funext i; simp [vf]
theorem vf_ge {v : List Int} {i : Nat} (h : v.length ≤ i) : vf v i = 0 := by
  unfold vf
  rw [List.getD_eq_getElem?_getD, List.getElem?_eq_none h]
  rfl
theorem vf_at {v : List Int} {i : Nat} {x : Int} (h : v[i]? = some x) : vf v i = x := by
  unfold vf
  rw [List.getD_eq_getElem?_getD, h]
  rfl
def axpy (k : Int) (a b : List Int) : List Int := List.zipWith (fun x y => x - k * y) a b
theorem axpy_len {k : Int} {a b : List Int} (h : a.length = b.length) : (axpy k a b).length = b.length := by simp [axpy, h]
theorem axpy_vf {k : Int} {a b : List Int} (h : a.length = b.length) : vf (axpy k a b) = fun i => vf a i - k * vf b i := by
  funext i
  by_cases hi : i < a.length
  · have h1 : a[i]? = some a[i] := List.getElem?_eq_getElem hi
    have h2 : b[i]? = some (b[i]'(by omega)) := List.getElem?_eq_getElem (by omega)
    have h3 : (axpy k a b)[i]? = some (a[i] - k * b[i]'(by omega)) := by
      unfold axpy
      rw [List.getElem?_zipWith, h1, h2]
    rw [vf_at h1, vf_at h2, vf_at h3]
  · rw [vf_ge (v := a) (by omega), vf_ge (v := b) (by omega), vf_ge (by rw [axpy_len h]; omega)]
    grind
/-- what stays behind Euclid's step -/
theorem fmod_small {x y : Int} (h : y ≠ 0) : (x - x.fdiv y * y).natAbs < y.natAbs := by
  have e := Int.fmod_def x y
  have e2 : x - x.fdiv y * y = x.fmod y := by rw [e, Int.mul_comm]
  rw [e2]
  rw [Int.fmod_eq_emod]
  have a := Int.emod_nonneg x h
  have b := Int.emod_lt x h
  split
  · omega
  · rename_i hn
    have hd : ¬ y ∣ x := fun z => hn (.inr z)
    have hy : ¬ 0 ≤ y := fun z => hn (.inl z)
    have : x % y ≠ 0 := fun z => hd (Int.dvd_of_emod_eq_zero z)
    omega
/-- rows of Euclid, by a column -/
def combF (c : Nat) (f s : List Int) : List Int × List Int :=
  if h : vf s c = 0 then (f, s) else combF c s (axpy ((vf f c).fdiv (vf s c)) f s)
termination_by (vf s c).natAbs
decreasing_by
  by_cases hf : c < f.length
  · have hs : c < s.length := by
      rcases Nat.lt_or_ge c s.length with z | z
      · exact z
      · exact absurd (vf_ge z) h
    have h3 : (axpy ((vf f c).fdiv (vf s c)) f s)[c]? = some (f[c] - (vf f c).fdiv (vf s c) * s[c]) := by
      unfold axpy
      rw [List.getElem?_zipWith, List.getElem?_eq_getElem hf, List.getElem?_eq_getElem hs]
    rw [vf_at h3, ← vf_at (List.getElem?_eq_getElem hf), ← vf_at (List.getElem?_eq_getElem hs)]
    exact fmod_small h
  · rw [vf_ge (v := axpy _ f s) (by unfold axpy; rw [List.length_zipWith]; omega)]
    omega
theorem combF_eq (c : Nat) (f s : List Int) : combF c f s = if vf s c = 0 then (f, s) else combF c s (axpy ((vf f c).fdiv (vf s c)) f s) := by
  rw [combF]
  split <;> rfl
/-- by induction on Euclid's steps -/
theorem comb_ind {c : Nat} {P : List Int → List Int → Prop} {n : Nat} (h : ∀ f s, f.length = n → s.length = n → vf s c ≠ 0 → P f s → P s (axpy ((vf f c).fdiv (vf s c)) f s)) :
    ∀ (m : Nat) (f s : List Int), (vf s c).natAbs ≤ m → f.length = n → s.length = n → P f s → P (combF c f s).1 (combF c f s).2 ∧ (combF c f s).1.length = n ∧ (combF c f s).2.length = n ∧ vf (combF c f s).2 c = 0
  | m, f, s, hm, lf, ls, hp => by
    rw [combF_eq]
    by_cases z : vf s c = 0
    · rw [if_pos z]
      exact ⟨hp, lf, ls, z⟩
    · rw [if_neg z]
      have la : (axpy ((vf f c).fdiv (vf s c)) f s).length = n := by rw [axpy_len (by omega), ls]
      have lt : (vf (axpy ((vf f c).fdiv (vf s c)) f s) c).natAbs < (vf s c).natAbs := by
        rw [axpy_vf (by omega)]
        exact fmod_small z
      cases m with
      | zero => omega
      | succ m => exact comb_ind h m s _ (by omega) ls la (h f s lf ls z hp)
/-- generators: two rows and others -/
def two (R : Vec → Prop) (f s : List Int) : Vec → Prop := fun g => g = vf f ∨ g = vf s ∨ R g
theorem comb_lat {c n : Nat} {f s : List Int} (lf : f.length = n) (ls : s.length = n) (R : Vec → Prop) (v : Vec) : Lat (two R f s) v ↔ Lat (two R (combF c f s).1 (combF c f s).2) v := by
  have := comb_ind (c := c) (n := n) (P := fun a b => ∀ v, Lat (two R f s) v ↔ Lat (two R a b) v) (fun a b la lb nz ih v => (ih v).trans ?_) _ f s (Nat.le_refl _) lf ls fun v => Iff.rfl
  · exact this.1 v
  constructor
  · refine Lat.le fun g hg => ?_
    rcases hg with rfl | rfl | hg
    · have h1 : Lat (two R b (axpy ((vf a c).fdiv (vf b c)) a b)) (vf (axpy ((vf a c).fdiv (vf b c)) a b)) := Lat.gen (.inr (.inl rfl))
      rw [axpy_vf (by omega)] at h1
      have h2 : Lat (two R b (axpy ((vf a c).fdiv (vf b c)) a b)) (vf b) := Lat.gen (.inl rfl)
      exact (h1.comb h2 (-((vf a c).fdiv (vf b c)))).of_eq fun i => by grind
    · exact Lat.gen (.inl rfl)
    · exact Lat.gen (.inr (.inr hg))
  · refine Lat.le fun g hg => ?_
    rcases hg with rfl | rfl | hg
    · exact Lat.gen (.inr (.inl rfl))
    · rw [axpy_vf (by omega)]
      exact (Lat.gen (G := two R a b) (.inl rfl)).comb (Lat.gen (.inr (.inl rfl))) _
    · exact Lat.gen (.inr (.inr hg))
theorem comb_zero {c n j : Nat} {f s : List Int} (lf : f.length = n) (ls : s.length = n) (h1 : vf f j = 0) (h2 : vf s j = 0) : vf (combF c f s).1 j = 0 ∧ vf (combF c f s).2 j = 0 :=
  (comb_ind (c := c) (n := n) (P := fun a b => vf a j = 0 ∧ vf b j = 0) (fun a b la lb nz ih => ⟨ih.2, by rw [axpy_vf (by omega)]; simp [ih.1, ih.2]⟩) _ f s (Nat.le_refl _) lf ls ⟨h1, h2⟩).1
theorem comb_nz {c n : Nat} {f s : List Int} (lf : f.length = n) (ls : s.length = n) (h1 : vf f c ≠ 0) : vf (combF c f s).1 c ≠ 0 :=
  (comb_ind (c := c) (n := n) (P := fun a b => vf a c ≠ 0) (fun a b la lb nz ih => nz) _ f s (Nat.le_refl _) lf ls h1).1
theorem comb_len {c n : Nat} {f s : List Int} (lf : f.length = n) (ls : s.length = n) : (combF c f s).1.length = n ∧ (combF c f s).2.length = n ∧ vf (combF c f s).2 c = 0 :=
  (comb_ind (c := c) (n := n) (P := fun _ _ => True) (fun _ _ _ _ _ _ => True.intro) _ f s (Nat.le_refl _) lf ls True.intro).2

/-! ### a triangular basis -/
def unitV (j : Nat) (x : Int) : Vec := fun i => if i = j then x else 0
def redF (c : Nat) (odds row : List Int) : List Int := row.take (c + 1) ++ List.zipWith (fun x y => x % y) (row.drop (c + 1)) (odds.drop (c + 1))
theorem red_len {c n : Nat} {odds row : List Int} (h1 : odds.length = n) (h2 : row.length = n) : (redF c odds row).length = n := by
  unfold redF
  rw [List.length_append, List.length_take, List.length_zipWith, List.length_drop, List.length_drop]
  omega
theorem red_vf {c n : Nat} {odds row : List Int} (h1 : odds.length = n) (h2 : row.length = n) (i : Nat) : vf (redF c odds row) i = if c < i ∧ i < n then vf row i % vf odds i else vf row i := by
  by_cases hn : i < n
  · by_cases hc : c < i
    · rw [if_pos ⟨hc, hn⟩]
      have e1 : row[i]? = some (row[i]'(by omega)) := List.getElem?_eq_getElem (by omega)
      have e2 : odds[i]? = some (odds[i]'(by omega)) := List.getElem?_eq_getElem (by omega)
      rw [vf_at e1, vf_at e2]
      refine vf_at ?_
      unfold redF
      rw [List.getElem?_append_right (by rw [List.length_take]; omega), List.getElem?_zipWith, List.length_take, List.getElem?_drop, List.getElem?_drop]
      have e3 : c + 1 + (i - min (c + 1) row.length) = i := by omega
      rw [e3, e1, e2]
    · rw [if_neg (fun z => hc z.1)]
      have e1 : row[i]? = some (row[i]'(by omega)) := List.getElem?_eq_getElem (by omega)
      rw [vf_at e1]
      refine vf_at ?_
      unfold redF
      rw [List.getElem?_append_left (by rw [List.length_take]; omega), List.getElem?_take, if_pos (by omega), e1]
  · rw [if_neg (fun z => hn z.2), vf_ge (by rw [red_len h1 h2]; omega), vf_ge (by omega)]
/-- multiples of units -/
theorem units_lat {G : Vec → Prop} {c n : Nat} {o k : Nat → Int} (h : ∀ j, c < j → j < n → G (unitV j (o j))) : ∀ m, m ≤ n → Lat G (fun i => if c < i ∧ i < m then k i * o i else 0)
  | 0, _ => Lat.zero.of_eq fun i => by simp
  | m + 1, hm => by
    have ih := units_lat (k := k) h m (by omega)
    by_cases hc : c < m
    · refine (ih.comb (Lat.gen (h m hc (by omega))) (-(k m))).of_eq fun i => ?_
      unfold unitV
      by_cases hi : i = m
      · subst hi
        rw [if_neg (by omega), if_pos rfl, if_pos (by omega)]
        grind
      · rw [if_neg hi]
        by_cases hj : c < i ∧ i < m
        · rw [if_pos hj, if_pos (by omega)]
          grind
        · rw [if_neg hj, if_neg (by omega)]
          grind
    · refine ih.of_eq fun i => ?_
      by_cases hj : c < i ∧ i < m
      · omega
      · rw [if_neg hj, if_neg (by omega)]
/-- a row and the reduced one: alike beside the units -/
theorem red_lat {G : Vec → Prop} {c n : Nat} {odds row : List Int} (h1 : odds.length = n) (h2 : row.length = n) (h : ∀ j, c < j → j < n → G (unitV j (vf odds j))) : Lat G (fun i => vf row i - vf (redF c odds row) i) := by
  refine (units_lat (k := fun i => vf row i / vf odds i) h n (Nat.le_refl _)).of_eq fun i => ?_
  rw [red_vf h1 h2]
  by_cases hi : c < i ∧ i < n
  · rw [if_pos hi, if_pos hi]
    have := Int.mul_ediv_add_emod (vf row i) (vf odds i)
    grind
  · rw [if_neg hi, if_neg hi]
    grind
/-- one row more in a column -/
def pivF (c : Nat) (odds : List Int) (st : List Int × List (List Int)) (row : List Int) : List Int × List (List Int) :=
  (redF c odds (combF c st.1 row).1, st.2 ++ [redF c odds (combF c st.1 row).2])
def unitL (n c : Nat) (x : Int) : List Int := (List.range n).map fun i => if i = c then x else 0
theorem unitL_vf {n c : Nat} {x : Int} (h : c < n) : vf (unitL n c x) = unitV c x := by
  funext i
  unfold unitV unitL
  by_cases hi : i < n
  · refine vf_at ?_
    rw [List.getElem?_map, List.getElem?_range hi]
    rfl
  · rw [vf_ge (by simp; omega), if_neg (by omega)]
def colF (odds : List Int) (c : Nat) (rows : List (List Int)) : List Int × List (List Int) := rows.foldl (pivF c odds) (unitL odds.length c (vf odds c), [])
/-- generators: rows done, a pivot, rows, units behind c -/
def gens (B : Vec → Prop) (p : List Int) (rows : List (List Int)) (c n : Nat) (odds : List Int) : Vec → Prop := fun g => B g ∨ g = vf p ∨ (∃ r ∈ rows, g = vf r) ∨ ∃ j, c < j ∧ j < n ∧ g = unitV j (vf odds j)
theorem lat_same {G G' : Vec → Prop} (h : ∀ g, G g → Lat G' g) (h' : ∀ g, G' g → Lat G g) (v : Vec) : Lat G v ↔ Lat G' v := ⟨Lat.le h, Lat.le h'⟩
/-- a row replaced by one that differs by the lattice of the others -/
theorem lat_swap {R : Vec → Prop} {a b : Vec} (h : Lat R (fun i => a i - b i)) (v : Vec) : Lat (fun g => g = a ∨ R g) v ↔ Lat (fun g => g = b ∨ R g) v := by
  have up : ∀ {c : Vec} {g : Vec}, Lat R g → Lat (fun g => g = c ∨ R g) g := fun z => Lat.le (fun g hg => Lat.gen (.inr hg)) z
  refine lat_same (fun g hg => ?_) (fun g hg => ?_) v
  · rcases hg with rfl | hg
    · exact ((up h).add (Lat.gen (G := fun g => g = b ∨ R g) (.inl rfl))).of_eq fun i => by grind
    · exact Lat.gen (.inr hg)
  · rcases hg with rfl | hg
    · exact ((Lat.gen (G := fun g => g = a ∨ R g) (.inl rfl)).comb (up h) 1).of_eq fun i => by grind
    · exact Lat.gen (.inr hg)
theorem lat_congr {G G' : Vec → Prop} (h : ∀ g, G g ↔ G' g) (v : Vec) : Lat G v ↔ Lat G' v := lat_same (fun g hg => Lat.gen ((h g).mp hg)) (fun g hg => Lat.gen ((h g).mpr hg)) v
theorem piv_lat {B : Vec → Prop} {c n : Nat} {odds : List Int} (h1 : odds.length = n) {p row : List Int} {os rest : List (List Int)} (lp : p.length = n) (lr : row.length = n) (v : Vec) :
    Lat (gens B p (os ++ row :: rest) c n odds) v ↔ Lat (gens B (redF c odds (combF c p row).1) (os ++ [redF c odds (combF c p row).2] ++ rest) c n odds) v := by
  obtain ⟨l1, l2, _⟩ := comb_len (c := c) lp lr
  let R : Vec → Prop := fun g => B g ∨ (∃ r ∈ os ++ rest, g = vf r) ∨ ∃ j, c < j ∧ j < n ∧ g = unitV j (vf odds j)
  have hR : ∀ j, c < j → j < n → R (unitV j (vf odds j)) := fun j a b => .inr (.inr ⟨j, a, b, rfl⟩)
  have s1 : Lat (gens B p (os ++ row :: rest) c n odds) v ↔ Lat (two R p row) v := by
    refine lat_congr (fun g => ?_) v
    unfold gens two
    simp only [R, List.mem_append, List.mem_cons]
    constructor
    · rintro (h | h | ⟨r, (h | h | h), rfl⟩ | h)
      · exact .inr (.inr (.inl h))
      · exact .inl h
      · exact .inr (.inr (.inr (.inl ⟨r, .inl h, rfl⟩)))
      · subst h; exact .inr (.inl rfl)
      · exact .inr (.inr (.inr (.inl ⟨r, .inr h, rfl⟩)))
      · exact .inr (.inr (.inr (.inr h)))
    · rintro (h | h | h | ⟨r, (h | h), rfl⟩ | h)
      · exact .inr (.inl h)
      · exact .inr (.inr (.inl ⟨row, .inr (.inl rfl), h⟩))
      · exact .inl h
      · exact .inr (.inr (.inl ⟨r, .inl h, rfl⟩))
      · exact .inr (.inr (.inl ⟨r, .inr (.inr h), rfl⟩))
      · exact .inr (.inr (.inr h))
  have s2 := comb_lat (c := c) lp lr R v
  have s3 : Lat (two R (combF c p row).1 (combF c p row).2) v ↔ Lat (two R (redF c odds (combF c p row).1) (combF c p row).2) v :=
    lat_swap (R := fun g => g = vf (combF c p row).2 ∨ R g) (red_lat h1 l1 fun j a b => .inr (hR j a b)) v
  have s4 : Lat (two R (redF c odds (combF c p row).1) (combF c p row).2) v ↔ Lat (fun g => g = vf (redF c odds (combF c p row).2) ∨ g = vf (redF c odds (combF c p row).1) ∨ R g) v := by
    refine (lat_congr (G' := fun g => g = vf (combF c p row).2 ∨ g = vf (redF c odds (combF c p row).1) ∨ R g) (fun g => ?_) v).trans (lat_swap (R := fun g => g = vf (redF c odds (combF c p row).1) ∨ R g) (red_lat h1 l2 fun j a b => .inr (hR j a b)) v)
    unfold two
    constructor
    · rintro (h | h | h)
      · exact .inr (.inl h)
      · exact .inl h
      · exact .inr (.inr h)
    · rintro (h | h | h)
      · exact .inr (.inl h)
      · exact .inl h
      · exact .inr (.inr h)
  refine s1.trans (s2.trans (s3.trans (s4.trans (lat_congr (fun g => ?_) v))))
  unfold gens
  simp only [R, List.mem_append, List.mem_singleton]
  constructor
  · rintro (h | h | h | ⟨r, (h | h), rfl⟩ | h)
    · exact .inr (.inr (.inl ⟨_, .inl (.inr rfl), h⟩))
    · exact .inr (.inl h)
    · exact .inl h
    · exact .inr (.inr (.inl ⟨r, .inl (.inl h), rfl⟩))
    · exact .inr (.inr (.inl ⟨r, .inr h, rfl⟩))
    · exact .inr (.inr (.inr h))
  · rintro (h | h | ⟨r, ((h | h) | h), rfl⟩ | h)
    · exact .inr (.inr (.inl h))
    · exact .inr (.inl h)
    · exact .inr (.inr (.inr (.inl ⟨r, .inl h, rfl⟩)))
    · subst h; exact .inl rfl
    · exact .inr (.inr (.inr (.inl ⟨r, .inr h, rfl⟩)))
    · exact .inr (.inr (.inr (.inr h)))
/-- what a column leaves -/
theorem col_fold {B : Vec → Prop} {c n : Nat} {odds : List Int} (h1 : odds.length = n) (hc : c < n) (L : Vec → Prop) : ∀ (rows : List (List Int)) (p : List Int) (os : List (List Int)),
    (∀ r ∈ rows, r.length = n ∧ ∀ j, j < c → vf r j = 0) → p.length = n → (∀ j, j < c → vf p j = 0) → vf p c ≠ 0 → (∀ r ∈ os, r.length = n ∧ ∀ j, j ≤ c → vf r j = 0) → (∀ v, Lat (gens B p (os ++ rows) c n odds) v ↔ L v) →
    let q := rows.foldl (pivF c odds) (p, os)
    q.1.length = n ∧ (∀ j, j < c → vf q.1 j = 0) ∧ vf q.1 c ≠ 0 ∧ (∀ r ∈ q.2, r.length = n ∧ ∀ j, j ≤ c → vf r j = 0) ∧ (∀ v, Lat (gens B q.1 q.2 c n odds) v ↔ L v)
  | [], p, os, _, lp, zp, nz, zo, hl => ⟨lp, zp, nz, zo, fun v => by have := hl v; rwa [List.append_nil] at this⟩
  | row :: rows, p, os, hr, lp, zp, nz, zo, hl => by
    obtain ⟨lr, zr⟩ := hr row List.mem_cons_self
    obtain ⟨l1, l2, z2⟩ := comb_len (c := c) lp lr
    refine col_fold h1 hc L rows (redF c odds (combF c p row).1) (os ++ [redF c odds (combF c p row).2]) (fun r h => hr r (List.mem_cons_of_mem _ h)) (red_len h1 l1) (fun j hj => ?_) ?_ (fun r h => ?_) (fun v => (piv_lat h1 lp lr v).symm.trans (hl v))
    · rw [red_vf h1 l1, if_neg (by omega)]
      exact (comb_zero lp lr (zp j hj) (zr j hj)).1
    · rw [red_vf h1 l1, if_neg (by omega)]
      exact comb_nz lp lr nz
    · rcases List.mem_append.mp h with h | h
      · exact zo r h
      · rw [List.mem_singleton.mp h]
        refine ⟨red_len h1 l2, fun j hj => ?_⟩
        rw [red_vf h1 l2, if_neg (by omega)]
        by_cases e : j = c
        · rw [e]; exact z2
        · exact (comb_zero lp lr (zp j (by omega)) (zr j (by omega))).2

/-- the pivot with a positive entry -/
def posF (c : Nat) (p : List Int) : List Int := if 0 < vf p c then p else p.map fun x => -x
theorem neg_vf (p : List Int) : vf (p.map fun x => -x) = fun i => - vf p i := by
  funext i
  by_cases hi : i < p.length
  · have e : p[i]? = some p[i] := List.getElem?_eq_getElem hi
    rw [vf_at e]
    exact vf_at (by rw [List.getElem?_map, e]; rfl)
  · rw [vf_ge (by simp; omega), vf_ge (by omega)]
    rfl
theorem pos_len (c : Nat) (p : List Int) : (posF c p).length = p.length := by
  unfold posF
  split <;> simp
theorem pos_pos {c : Nat} {p : List Int} (h : vf p c ≠ 0) : 0 < vf (posF c p) c := by
  unfold posF
  split
  · assumption
  · rw [neg_vf]
    show 0 < - vf p c
    omega
theorem pos_zero {c j : Nat} {p : List Int} (h : vf p j = 0) : vf (posF c p) j = 0 := by
  unfold posF
  split
  · exact h
  · rw [neg_vf]
    show - vf p j = 0
    omega
theorem pos_lat {R : Vec → Prop} (c : Nat) (p : List Int) (v : Vec) : Lat (fun g => g = vf p ∨ R g) v ↔ Lat (fun g => g = vf (posF c p) ∨ R g) v := by
  unfold posF
  split
  · exact Iff.rfl
  · rw [neg_vf]
    refine lat_same (fun g hg => ?_) (fun g hg => ?_) v
    · rcases hg with rfl | hg
      · exact ((Lat.gen (G := fun g => g = (fun i => - vf p i) ∨ R g) (.inl rfl)).mul (-1)).of_eq fun i => by grind
      · exact Lat.gen (.inr hg)
    · rcases hg with rfl | hg
      · exact ((Lat.gen (G := fun g => g = vf p ∨ R g) (.inl rfl)).mul (-1)).of_eq fun i => by grind
      · exact Lat.gen (.inr hg)
/-- one column more -/
def nextF (odds : List Int) (st : List (List Int) × List (List Int)) (c : Nat) : List (List Int) × List (List Int) := (st.1 ++ [posF c (colF odds c st.2).1], (colF odds c st.2).2)
def basisF (odds : List Int) (rows : List (List Int)) : List (List Int) := ((List.range odds.length).foldl (nextF odds) ([], rows)).1
/-- the i-th row begins at i, with a positive entry -/
def Tri (n : Nat) (B : List (List Int)) : Prop := ∀ i (r : List Int), B[i]? = some r → r.length = n ∧ (∀ j, j < i → vf r j = 0) ∧ 0 < vf r i
def rowsG (B : List (List Int)) : Vec → Prop := fun g => ∃ r ∈ B, g = vf r
/-- free shifts: of rows and units -/
def shG (rows : List (List Int)) (c n : Nat) (odds : List Int) : Vec → Prop := fun g => (∃ r ∈ rows, g = vf r) ∨ ∃ j, c ≤ j ∧ j < n ∧ g = unitV j (vf odds j)
theorem next_inv {n : Nat} {odds : List Int} (h1 : odds.length = n) (ho : ∀ i, i < n → vf odds i ≠ 0) (L : Vec → Prop) {c : Nat} (hc : c < n) {B rows : List (List Int)} (lB : B.length = c) (tri : Tri n B) (hr : ∀ r ∈ rows, r.length = n ∧ ∀ j, j < c → vf r j = 0)
    (hl : ∀ v, Lat (fun g => rowsG B g ∨ shG rows c n odds g) v ↔ L v) :
    let q := nextF odds (B, rows) c
    q.1.length = c + 1 ∧ Tri n q.1 ∧ (∀ r ∈ q.2, r.length = n ∧ ∀ j, j < c + 1 → vf r j = 0) ∧ (∀ v, Lat (fun g => rowsG q.1 g ∨ shG q.2 (c + 1) n odds g) v ↔ L v) := by
  have lu : (unitL odds.length c (vf odds c)).length = n := by simp [unitL, h1]
  have uv : vf (unitL odds.length c (vf odds c)) = unitV c (vf odds c) := unitL_vf (by omega)
  have key := col_fold (B := rowsG B) h1 hc L rows (unitL odds.length c (vf odds c)) [] hr lu (fun j hj => by rw [uv]; unfold unitV; rw [if_neg (by omega)]) (by rw [uv]; unfold unitV; rw [if_pos rfl]; exact ho c hc) (by simp) (fun v => by
    refine (lat_congr (fun g => ?_) v).trans (hl v)
    unfold gens shG
    rw [uv, List.nil_append]
    constructor
    · rintro (h | h | h | ⟨j, a, b, rfl⟩)
      · exact .inl h
      · exact .inr (.inr ⟨c, Nat.le_refl _, hc, h⟩)
      · exact .inr (.inl h)
      · exact .inr (.inr ⟨j, by omega, b, rfl⟩)
    · rintro (h | h | ⟨j, a, b, rfl⟩)
      · exact .inl h
      · exact .inr (.inr (.inl h))
      · by_cases e : j = c
        · subst e; exact .inr (.inl rfl)
        · exact .inr (.inr (.inr ⟨j, by omega, b, rfl⟩)))
  obtain ⟨k1, k2, k3, k4, k5⟩ := key
  show (B ++ [posF c (colF odds c rows).1]).length = c + 1 ∧ Tri n (B ++ [posF c (colF odds c rows).1]) ∧ (∀ r ∈ (colF odds c rows).2, r.length = n ∧ ∀ j, j < c + 1 → vf r j = 0) ∧ (∀ v, Lat (fun g => rowsG (B ++ [posF c (colF odds c rows).1]) g ∨ shG (colF odds c rows).2 (c + 1) n odds g) v ↔ L v)
  refine ⟨by rw [List.length_append, lB]; rfl, fun i r hi => ?_, fun r hr => ⟨(k4 r hr).1, fun j hj => (k4 r hr).2 j (by omega)⟩, fun v => ?_⟩
  · by_cases hlt : i < c
    · rw [List.getElem?_append_left (by omega)] at hi
      exact tri i r hi
    · rw [List.getElem?_append_right (by omega), lB] at hi
      have : i - c = 0 := by
        rcases Nat.eq_zero_or_pos (i - c) with z | z
        · exact z
        · rw [List.getElem?_eq_none (by simp; omega)] at hi
          cases hi
      rw [this] at hi
      obtain rfl : posF c (colF odds c rows).1 = r := by simpa using hi
      have : i = c := by omega
      subst this
      exact ⟨by rw [pos_len]; exact k1, fun j hj => pos_zero (k2 j hj), pos_pos k3⟩
  · refine Iff.trans ?_ (k5 v)
    refine Iff.trans (lat_congr (G' := fun g => g = vf (posF c (colF odds c rows).1) ∨ (rowsG B g ∨ shG (colF odds c rows).2 (c + 1) n odds g)) (fun g => ?_) v) ((pos_lat c _ v).symm.trans (lat_congr (fun g => ?_) v))
    · unfold rowsG
      simp only [List.mem_append, List.mem_singleton]
      constructor
      · rintro (⟨r, (h | h), rfl⟩ | h)
        · exact .inr (.inl ⟨r, h, rfl⟩)
        · subst h; exact .inl rfl
        · exact .inr (.inr h)
      · rintro (h | ⟨r, h, rfl⟩ | h)
        · exact .inl ⟨_, .inr rfl, h⟩
        · exact .inl ⟨r, .inl h, rfl⟩
        · exact .inr h
    · unfold gens shG colF
      constructor
      · rintro (h | h | h | ⟨j, a, b, rfl⟩)
        · exact .inr (.inl h)
        · exact .inl h
        · exact .inr (.inr (.inl h))
        · exact .inr (.inr (.inr ⟨j, by omega, b, rfl⟩))
      · rintro (h | h | h | ⟨j, a, b, rfl⟩)
        · exact .inr (.inl h)
        · exact .inl h
        · exact .inr (.inr (.inl h))
        · exact .inr (.inr (.inr ⟨j, by omega, b, rfl⟩))
theorem fold_inv {n : Nat} {odds : List Int} (h1 : odds.length = n) (ho : ∀ i, i < n → vf odds i ≠ 0) {rows : List (List Int)} (hr : ∀ r ∈ rows, r.length = n) : ∀ c, c ≤ n →
    let q := (List.range c).foldl (nextF odds) ([], rows)
    q.1.length = c ∧ Tri n q.1 ∧ (∀ r ∈ q.2, r.length = n ∧ ∀ j, j < c → vf r j = 0) ∧ (∀ v, Lat (fun g => rowsG q.1 g ∨ shG q.2 c n odds g) v ↔ Lat (shG rows 0 n odds) v)
  | 0, _ => ⟨rfl, fun i r h => by simp at h, fun r h => ⟨hr r h, fun j hj => absurd hj (by omega)⟩, fun v => lat_congr (fun g => ⟨fun h => h.elim (fun ⟨r, z, _⟩ => nomatch z) id, .inr⟩) v⟩
  | c + 1, hc => by
    obtain ⟨a1, a2, a3, a4⟩ := fold_inv h1 ho hr c (by omega)
    rw [List.range_succ, List.foldl_append]
    exact next_inv h1 ho _ (by omega) a1 a2 a3 a4
/-- the basis: triangular, and of the same lattice -/
theorem basis_ok {n : Nat} {odds : List Int} (h1 : odds.length = n) (ho : ∀ i, i < n → vf odds i ≠ 0) {rows : List (List Int)} (hr : ∀ r ∈ rows, r.length = n) :
    (basisF odds rows).length = n ∧ Tri n (basisF odds rows) ∧ ∀ v, Lat (rowsG (basisF odds rows)) v ↔ Lat (shG rows 0 n odds) v := by
  obtain ⟨a1, a2, a3, a4⟩ := fold_inv h1 ho hr n (Nat.le_refl _)
  unfold basisF
  rw [h1]
  refine ⟨a1, a2, fun v => Iff.trans ?_ (a4 v)⟩
  refine lat_same (fun g hg => Lat.gen (.inl hg)) (fun g hg => ?_) v
  rcases hg with hg | ⟨r, hr2, rfl⟩ | ⟨j, b, c, _⟩
  · exact Lat.gen hg
  · refine Lat.zero.of_eq fun i => ?_
    by_cases hi : i < n
    · exact ((a3 r hr2).2 i hi).symm
    · exact (vf_ge (by rw [(a3 r hr2).1]; omega)).symm
  · omega
/-! ### what a triangular basis tells -/
/-- rows from i on -/
theorem tri_step {n i : Nat} {B : List (List Int)} {b : List Int} (tri : Tri n B) (hb : B[i]? = some b) {v : Vec} (h : Lat (rowsG (B.drop i)) v) : vf b i ∣ v i ∧ Lat (rowsG (B.drop (i + 1))) (fun j => v j - v i / vf b i * vf b j) := by
  obtain ⟨lb, zb, pb⟩ := tri i b hb
  have hd : B.drop i = b :: B.drop (i + 1) := by
    obtain ⟨hi, e⟩ := List.getElem?_eq_some_iff.mp hb
    rw [List.drop_eq_getElem_cons hi, e]
  rw [hd] at h
  induction h with
  | zero => exact ⟨Int.dvd_zero _, Lat.zero.of_eq fun j => by simp⟩
  | @step u g k hu hg ih =>
    obtain ⟨ih1, ih2⟩ := ih
    obtain ⟨r, hr, rfl⟩ := hg
    rcases List.mem_cons.mp hr with rfl | hr
    · refine ⟨Int.dvd_sub ih1 (Int.dvd_mul_left _ _), ih2.of_eq fun j => ?_⟩
      have e : (u i - k * vf r i) / vf r i = u i / vf r i - k := by
        rw [Int.sub_ediv_of_dvd _ (Int.dvd_mul_left _ _), Int.mul_ediv_cancel _ (by omega)]
      rw [e]
      grind
    · obtain ⟨m, hm⟩ := List.getElem?_of_mem hr
      rw [List.getElem?_drop] at hm
      have z := (tri _ r hm).2.1 i (by omega)
      dsimp only
      rw [z]
      refine ⟨by simpa using ih1, (ih2.comb (Lat.gen ⟨r, hr, rfl⟩) k).of_eq fun j => ?_⟩
      have e : u i - k * 0 = u i := by simp
      rw [e]
      grind
/-- a vector of the lattice that begins at i -/
theorem tri_from {n : Nat} {B : List (List Int)} (tri : Tri n B) {v : Vec} (h : Lat (rowsG B) v) : ∀ i, i ≤ B.length → (∀ j, j < i → v j = 0) → Lat (rowsG (B.drop i)) v
  | 0, _, _ => by rwa [List.drop_zero]
  | i + 1, hi, hz => by
    have hb : B[i]? = some (B[i]'(by omega)) := List.getElem?_eq_getElem (by omega)
    obtain ⟨_, g⟩ := tri_step tri hb (tri_from tri h i (by omega) fun j hj => hz j (by omega))
    refine g.of_eq fun j => ?_
    rw [hz i (by omega)]
    simp
theorem lat_drop {B : List (List Int)} {i : Nat} {v : Vec} (h : Lat (rowsG (B.drop i)) v) : Lat (rowsG B) v := h.le fun g ⟨r, hr, e⟩ => Lat.gen ⟨r, List.mem_of_mem_drop hr, e⟩
/-- is_free, from i on -/
def freeF : Nat → List (List Int) → List Int → Bool
  | _, [], _ => true
  | i, b :: B, v => if vf v i % vf b i ≠ 0 then false else freeF (i + 1) B (axpy (vf v i / vf b i) v b)
theorem free_ok {n : Nat} {B : List (List Int)} (lB : B.length = n) (tri : Tri n B) : ∀ (k i : Nat) (v : List Int), i + k = n → v.length = n → (∀ j, j < i → vf v j = 0) → (freeF i (B.drop i) v = true ↔ Lat (rowsG (B.drop i)) (vf v))
  | 0, i, v, hk, lv, hz => by
    have : B.drop i = [] := List.drop_eq_nil_of_le (by omega)
    rw [this]
    refine ⟨fun _ => Lat.zero.of_eq fun j => ?_, fun _ => rfl⟩
    by_cases hj : j < i
    · exact (hz j hj).symm
    · exact (vf_ge (by omega)).symm
  | k + 1, i, v, hk, lv, hz => by
    have hb : B[i]? = some (B[i]'(by omega)) := List.getElem?_eq_getElem (by omega)
    have hd : B.drop i = B[i]'(by omega) :: B.drop (i + 1) := List.drop_eq_getElem_cons (by omega)
    generalize B[i]'(by omega) = b at hb hd
    obtain ⟨l1, z1, p1⟩ := tri i b hb
    have la : (axpy (vf v i / vf b i) v b).length = n := by rw [axpy_len (by omega), l1]
    have va := axpy_vf (k := vf v i / vf b i) (a := v) (b := b) (by omega)
    constructor
    · intro h
      rw [hd] at h
      unfold freeF at h
      by_cases hm : vf v i % vf b i ≠ 0
      · rw [if_pos hm] at h
        cases h
      · rw [if_neg hm] at h
        have hm2 : vf v i % vf b i = 0 := Decidable.byContradiction hm
        have ih := (free_ok lB tri k (i + 1) _ (by omega) la (fun j hj => by
          rw [va]
          by_cases e : j = i
          · subst e
            show vf v j - vf v j / vf b j * vf b j = 0
            have := Int.mul_ediv_add_emod (vf v j) (vf b j)
            grind
          · show vf v j - vf v i / vf b i * vf b j = 0
            rw [hz j (by omega), z1 j (by omega)]
            simp)).mp h
        rw [va] at ih
        rw [hd]
        refine ((ih.le fun g ⟨r, hr, e⟩ => Lat.gen ⟨r, List.mem_cons_of_mem _ hr, e⟩).comb (Lat.gen (G := rowsG (b :: B.drop (i + 1))) ⟨b, List.mem_cons_self, rfl⟩) (-(vf v i / vf b i))).of_eq fun j => ?_
        grind
    · intro h
      obtain ⟨d1, d2⟩ := tri_step tri hb h
      have hm2 : vf v i % vf b i = 0 := Int.emod_eq_zero_of_dvd d1
      rw [hd]
      unfold freeF
      rw [if_neg (by simpa using hm2)]
      refine (free_ok lB tri k (i + 1) _ (by omega) la (fun j hj => ?_)).mpr ?_
      · rw [va]
        by_cases e : j = i
        · subst e
          show vf v j - vf v j / vf b j * vf b j = 0
          have := Int.mul_ediv_add_emod (vf v j) (vf b j)
          grind
        · show vf v j - vf v i / vf b i * vf b j = 0
          rw [hz j (by omega), z1 j (by omega)]
          simp
      · rw [va]
        exact d2
theorem free_iff {n : Nat} {B : List (List Int)} (lB : B.length = n) (tri : Tri n B) {v : List Int} (lv : v.length = n) : freeF 0 B v = true ↔ Lat (rowsG B) (vf v) := by
  have := free_ok lB tri n 0 v (by omega) lv (fun j hj => absurd hj (by omega))
  rwa [List.drop_zero] at this

/-! ### two lattices, one in the other -/
def diagP : Nat → List (List Int) → Int
  | _, [] => 1
  | i, b :: B => vf b i * diagP (i + 1) B
theorem diag_pos {n : Nat} {B : List (List Int)} (tri : Tri n B) : ∀ (k i : Nat), i + k = B.length → 0 < diagP i (B.drop i)
  | 0, i, h => by
    rw [List.drop_eq_nil_of_le (by omega)]
    exact Int.zero_lt_one
  | k + 1, i, h => by
    rw [List.drop_eq_getElem_cons (by omega)]
    exact Int.mul_pos (tri i _ (List.getElem?_eq_getElem (by omega))).2.2 (diag_pos tri k (i + 1) (by omega))
theorem diag_each {n : Nat} {B C : List (List Int)} (lB : B.length = n) (lC : C.length = n) (tB : Tri n B) (tC : Tri n C) (h : ∀ v, Lat (rowsG B) v → Lat (rowsG C) v) {i : Nat} {b c : List Int} (hb : B[i]? = some b) (hc : C[i]? = some c) : vf c i ∣ vf b i := by
  obtain ⟨hi, _⟩ := List.getElem?_eq_some_iff.mp hb
  have g1 : Lat (rowsG C) (vf b) := h _ (Lat.gen ⟨b, List.mem_of_getElem? hb, rfl⟩)
  exact (tri_step tC hc (tri_from tC g1 i (by omega) (tB i b hb).2.1)).1
theorem diag_dvd {n : Nat} {B C : List (List Int)} (lB : B.length = n) (lC : C.length = n) (tB : Tri n B) (tC : Tri n C) (h : ∀ v, Lat (rowsG B) v → Lat (rowsG C) v) : ∀ (k i : Nat), i + k = n → diagP i (C.drop i) ∣ diagP i (B.drop i)
  | 0, i, hk => by
    rw [List.drop_eq_nil_of_le (by omega), List.drop_eq_nil_of_le (by omega)]
    exact Int.dvd_refl _
  | k + 1, i, hk => by
    rw [List.drop_eq_getElem_cons (l := B) (by omega), List.drop_eq_getElem_cons (l := C) (by omega)]
    exact Int.mul_dvd_mul (diag_each lB lC tB tC h (List.getElem?_eq_getElem (by omega)) (List.getElem?_eq_getElem (by omega))) (diag_dvd lB lC tB tC h k (i + 1) (by omega))
theorem eq_of_prods {a b c d : Int} (h1 : 0 < a) (h2 : 0 < b) (h3 : 0 < c) (h4 : 0 < d) (x : c ∣ a) (y : d ∣ b) (e : a * b = c * d) : a = c ∧ b = d := by
  have x1 := Int.le_of_dvd h1 x
  have y1 := Int.le_of_dvd h2 y
  have e1 : c * d ≤ a * d := Int.mul_le_mul_of_nonneg_right x1 (by omega)
  have e2 : a * d ≤ a * b := Int.mul_le_mul_of_nonneg_left y1 (by omega)
  have e3 : a * d = a * b := by omega
  have e4 : c * d = a * d := by omega
  exact ⟨(Int.eq_of_mul_eq_mul_right (by omega) e4).symm, (Int.eq_of_mul_eq_mul_left (by omega) e3).symm⟩
theorem diag_same {n : Nat} {B C : List (List Int)} (lB : B.length = n) (lC : C.length = n) (tB : Tri n B) (tC : Tri n C) (h : ∀ v, Lat (rowsG B) v → Lat (rowsG C) v) : ∀ (k i : Nat), i + k = n → diagP i (B.drop i) = diagP i (C.drop i) → ∀ (m : Nat) (b c : List Int), i ≤ m → B[m]? = some b → C[m]? = some c → vf b m = vf c m
  | 0, i, hk, _ => fun m b c hm hb _ => by
    obtain ⟨hi, _⟩ := List.getElem?_eq_some_iff.mp hb
    omega
  | k + 1, i, hk, e => fun m b c hm hb hc => by
    have dB := diag_pos tB k (i + 1) (by omega)
    have dC := diag_pos tC k (i + 1) (by omega)
    rw [List.drop_eq_getElem_cons (l := B) (by omega), List.drop_eq_getElem_cons (l := C) (by omega)] at e
    have hb0 : B[i]? = some (B[i]'(by omega)) := List.getElem?_eq_getElem (by omega)
    have hc0 : C[i]? = some (C[i]'(by omega)) := List.getElem?_eq_getElem (by omega)
    obtain ⟨e1, e2⟩ := eq_of_prods (tB i _ hb0).2.2 dB (tC i _ hc0).2.2 dC (diag_each lB lC tB tC h hb0 hc0) (diag_dvd lB lC tB tC h k (i + 1) (by omega)) e
    by_cases z : m = i
    · subst z
      rw [hb] at hb0
      rw [hc] at hc0
      rw [Option.some.inj hb0, Option.some.inj hc0]
      exact e1
    · exact diag_same lB lC tB tC h k (i + 1) (by omega) e2 m b c (by omega) hb hc
/-- the same product: the same lattice -/
theorem lat_back {n : Nat} {B C : List (List Int)} (lB : B.length = n) (lC : C.length = n) (tB : Tri n B) (tC : Tri n C) (h : ∀ v, Lat (rowsG B) v → Lat (rowsG C) v) (e : diagP 0 B = diagP 0 C) : ∀ (k i : Nat) (v : Vec), i + k = n → (∀ j, j < i → v j = 0) → Lat (rowsG C) v → Lat (rowsG B) v
  | 0, i, v, hk, hz, hv => by
    have := tri_from tC hv i (by omega) hz
    rw [List.drop_eq_nil_of_le (by omega)] at this
    exact this.le fun g ⟨r, hr, _⟩ => nomatch hr
  | k + 1, i, v, hk, hz, hv => by
    have hb : B[i]? = some (B[i]'(by omega)) := List.getElem?_eq_getElem (by omega)
    have hc : C[i]? = some (C[i]'(by omega)) := List.getElem?_eq_getElem (by omega)
    generalize B[i]'(by omega) = b at hb
    generalize C[i]'(by omega) = c at hc
    have hd := (tri_step tC hc (tri_from tC hv i (by omega) hz)).1
    have eq : vf b i = vf c i := diag_same lB lC tB tC h n 0 (by omega) (by rw [List.drop_zero, List.drop_zero]; exact e) i b c (by omega) hb hc
    rw [← eq] at hd
    have gb : Lat (rowsG B) (vf b) := Lat.gen ⟨b, List.mem_of_getElem? hb, rfl⟩
    have ih := lat_back lB lC tB tC h e k (i + 1) (fun j => v j - v i / vf b i * vf b j) (by omega) (fun j hj => by
      by_cases z : j = i
      · subst z
        show v j - v j / vf b j * vf b j = 0
        rw [Int.ediv_mul_cancel hd]
        omega
      · show v j - v i / vf b i * vf b j = 0
        rw [hz j (by omega), (tB i b hb).2.1 j (by omega)]
        simp) (hv.comb (h _ gb) _)
    exact (ih.comb gb (-(v i / vf b i))).of_eq fun j => by grind
/-! ### coordinates -/
def comboV : List Int → List (List Int) → Vec
  | k :: ks, b :: B => fun j => k * vf b j + comboV ks B j
  | _, _ => fun _ => 0
theorem combo_lat : ∀ (ks : List Int) (B : List (List Int)), Lat (rowsG B) (comboV ks B)
  | [], _ => Lat.zero.of_eq fun _ => by cases ‹List (List Int)› <;> rfl
  | _ :: _, [] => Lat.zero
  | k :: ks, b :: B => (((combo_lat ks B).le fun g ⟨r, hr, e⟩ => Lat.gen ⟨r, List.mem_cons_of_mem _ hr, e⟩).comb (Lat.gen (G := rowsG (b :: B)) ⟨b, List.mem_cons_self, rfl⟩) (-k)).of_eq fun j => by
    show comboV ks B j - -k * vf b j = k * vf b j + comboV ks B j
    grind
def coordF : Nat → List (List Int) → List Int → List Int
  | _, [], _ => []
  | i, b :: B, v => vf v i / vf b i :: coordF (i + 1) B (axpy (vf v i / vf b i) v b)
theorem coord_len : ∀ (i : Nat) (B : List (List Int)) (v : List Int), (coordF i B v).length = B.length
  | _, [], _ => rfl
  | i, b :: B, v => by
    show (coordF (i + 1) B _).length + 1 = B.length + 1
    rw [coord_len]
theorem coord_ok {n : Nat} {B : List (List Int)} (lB : B.length = n) (tri : Tri n B) : ∀ (k i : Nat) (v : List Int), i + k = n → v.length = n → Lat (rowsG (B.drop i)) (vf v) → ∀ j, vf v j = comboV (coordF i (B.drop i) v) (B.drop i) j
  | 0, i, v, hk, lv, h => fun j => by
    rw [List.drop_eq_nil_of_le (by omega)] at h ⊢
    have : ∀ {u : Vec}, Lat (rowsG []) u → u j = 0 := fun hu => by
      induction hu with
      | zero => rfl
      | step k _ hg _ => exact (nomatch hg.choose_spec.1)
    exact this h
  | k + 1, i, v, hk, lv, h => fun j => by
    have hb : B[i]? = some (B[i]'(by omega)) := List.getElem?_eq_getElem (by omega)
    have hd : B.drop i = B[i]'(by omega) :: B.drop (i + 1) := List.drop_eq_getElem_cons (by omega)
    generalize B[i]'(by omega) = b at hb hd
    obtain ⟨l1, z1, p1⟩ := tri i b hb
    have va := axpy_vf (k := vf v i / vf b i) (a := v) (b := b) (by omega)
    have ih := coord_ok lB tri k (i + 1) (axpy (vf v i / vf b i) v b) (by omega) (by rw [axpy_len (by omega), l1]) (by rw [va]; exact (tri_step tri hb h).2) j
    rw [hd]
    show vf v j = vf v i / vf b i * vf b j + comboV (coordF (i + 1) (B.drop (i + 1)) (axpy (vf v i / vf b i) v b)) (B.drop (i + 1)) j
    rw [← ih, va]
    grind
/-- coordinates are unique -/
theorem combo_inj {n : Nat} {B : List (List Int)} (tri : Tri n B) : ∀ (m i : Nat) (ks ls : List Int), i + m = B.length → ks.length = m → ls.length = m → (∀ j, comboV ks (B.drop i) j = comboV ls (B.drop i) j) → ks = ls
  | 0, _, ks, ls, _, h1, h2, _ => by rw [List.length_eq_zero_iff.mp h1, List.length_eq_zero_iff.mp h2]
  | m + 1, i, k :: ks, l :: ls, hm, h1, h2, h => by
    have hb : B[i]? = some (B[i]'(by omega)) := List.getElem?_eq_getElem (by omega)
    have hd : B.drop i = B[i]'(by omega) :: B.drop (i + 1) := List.drop_eq_getElem_cons (by omega)
    generalize B[i]'(by omega) = b at hb hd
    obtain ⟨l1, z1, p1⟩ := tri i b hb
    rw [hd] at h
    have z : ∀ ks : List Int, comboV ks (B.drop (i + 1)) i = 0 := fun ks => by
      have : ∀ {u : Vec}, Lat (rowsG (B.drop (i + 1))) u → u i = 0 := fun hu => by
        induction hu with
        | zero => rfl
        | step k _ hg ih =>
          obtain ⟨r, hr, rfl⟩ := hg
          obtain ⟨q, hq⟩ := List.getElem?_of_mem hr
          rw [List.getElem?_drop] at hq
          show _ - k * vf r i = 0
          rw [ih, (tri _ r hq).2.1 i (by omega)]
          simp
      exact this (combo_lat ks _)
    have e := h i
    have e2 : k * vf b i + comboV ks (B.drop (i + 1)) i = l * vf b i + comboV ls (B.drop (i + 1)) i := e
    rw [z, z] at e2
    have kl : k = l := Int.eq_of_mul_eq_mul_right (a := vf b i) (by omega) (by omega)
    subst kl
    rw [combo_inj tri m (i + 1) ks ls (by omega) (Nat.succ.inj h1) (Nat.succ.inj h2) fun j => by
      have e3 : k * vf b j + comboV ks (B.drop (i + 1)) j = k * vf b j + comboV ls (B.drop (i + 1)) j := h j
      omega]
/-- multiples of units are in the lattice -/
theorem unit_in {n : Nat} {B : List (List Int)} (lB : B.length = n) (tri : Tri n B) : ∀ (k i : Nat), i + k = n → ∀ j, i ≤ j → j < n → Lat (rowsG (B.drop i)) (unitV j (diagP i (B.drop i)))
  | 0, i, hk => fun j h1 h2 => by omega
  | k + 1, i, hk => fun j h1 h2 => by
    have hb : B[i]? = some (B[i]'(by omega)) := List.getElem?_eq_getElem (by omega)
    have hd : B.drop i = B[i]'(by omega) :: B.drop (i + 1) := List.drop_eq_getElem_cons (by omega)
    generalize B[i]'(by omega) = b at hb hd
    obtain ⟨l1, z1, p1⟩ := tri i b hb
    have up : ∀ {u : Vec}, Lat (rowsG (B.drop (i + 1))) u → Lat (rowsG (b :: B.drop (i + 1))) u := fun hu => hu.le fun g ⟨r, hr, e⟩ => Lat.gen ⟨r, List.mem_cons_of_mem _ hr, e⟩
    have ih := unit_in lB tri k (i + 1) (by omega)
    rw [hd]
    show Lat (rowsG (b :: B.drop (i + 1))) (unitV j (vf b i * diagP (i + 1) (B.drop (i + 1))))
    by_cases e : j = i
    · subst e
      have hs : Lat (rowsG (b :: B.drop (j + 1))) (fun m => if j < m ∧ m < n then vf b m * diagP (j + 1) (B.drop (j + 1)) else 0) := by
        refine (up (Lat.le (G := fun g => ∃ m, j < m ∧ m < n ∧ g = unitV m (diagP (j + 1) (B.drop (j + 1)))) (fun g ⟨m, a, c, e⟩ => by rw [e]; exact ih m (by omega) c) (units_lat (c := j) (n := n) (o := fun _ => diagP (j + 1) (B.drop (j + 1))) (k := fun m => vf b m) (fun m a c => ⟨m, a, c, rfl⟩) n (Nat.le_refl _))))
      refine (((Lat.gen (G := rowsG (b :: B.drop (j + 1))) ⟨b, List.mem_cons_self, rfl⟩).mul (diagP (j + 1) (B.drop (j + 1)))).comb hs 1).of_eq fun m => ?_
      unfold unitV
      by_cases h3 : m = j
      · subst h3
        rw [if_pos rfl, if_neg (by omega)]
        grind
      · rw [if_neg h3]
        by_cases h4 : j < m ∧ m < n
        · rw [if_pos h4]
          grind
        · rw [if_neg h4]
          have : vf b m = 0 := by
            by_cases h5 : m < j
            · exact z1 m h5
            · exact vf_ge (by omega)
          rw [this]
          simp
    · refine ((up (ih j (by omega) h2)).mul (vf b i)).of_eq fun m => ?_
      unfold unitV
      split
      · rfl
      · simp

/-! ### sums, and what separates -/
def sumN : Nat → (Nat → Int) → Int
  | 0, _ => 0
  | n + 1, f => sumN n f + f n
theorem sumN_congr {f g : Nat → Int} : ∀ {n : Nat}, (∀ i, i < n → f i = g i) → sumN n f = sumN n g
  | 0, _ => rfl
  | n + 1, h => by
    show sumN n f + f n = sumN n g + g n
    rw [sumN_congr fun i hi => h i (by omega), h n (by omega)]
theorem sumN_add (f g : Nat → Int) : ∀ n, sumN n (fun i => f i + g i) = sumN n f + sumN n g
  | 0 => rfl
  | n + 1 => by
    show sumN n (fun i => f i + g i) + (f n + g n) = (sumN n f + f n) + (sumN n g + g n)
    rw [sumN_add f g n]
    omega
theorem sumN_mul (k : Int) (f : Nat → Int) : ∀ n, sumN n (fun i => k * f i) = k * sumN n f
  | 0 => by simp [sumN]
  | n + 1 => by
    show sumN n _ + _ = k * (sumN n f + f n)
    rw [sumN_mul k f n, Int.mul_add]
theorem sumN_zero : ∀ n, sumN n (fun _ => 0) = 0
  | 0 => rfl
  | n + 1 => by
    show sumN n _ + 0 = 0
    rw [sumN_zero n]
    rfl
theorem sumN_swap (f : Nat → Nat → Int) (m : Nat) : ∀ n, sumN n (fun i => sumN m fun k => f i k) = sumN m fun k => sumN n fun i => f i k
  | 0 => (sumN_zero m).symm
  | n + 1 => by
    show sumN n _ + sumN m _ = sumN m fun k => sumN n (fun i => f i k) + f n k
    rw [sumN_swap f m n, sumN_add]
theorem sumN_head (f : Nat → Int) : ∀ n, sumN (n + 1) f = f 0 + sumN n fun i => f (i + 1)
  | 0 => by simp [sumN]
  | n + 1 => by
    show sumN (n + 1) f + f (n + 1) = f 0 + (sumN n (fun i => f (i + 1)) + f (n + 1))
    rw [sumN_head f n]
    omega
theorem sumN_unit {n j : Nat} (f : Nat → Int) (h : j < n) : sumN n (fun k => f k * unitV k 1 j) = f j := by
  have key : ∀ m, sumN m (fun k => f k * unitV k 1 j) = if j < m then f j else 0 := by
    intro m
    induction m with
    | zero => rfl
    | succ m ih =>
      show sumN m _ + f m * unitV m 1 j = _
      rw [ih]
      unfold unitV
      by_cases e : j = m
      · subst e
        rw [if_neg (Nat.lt_irrefl _), if_pos rfl, if_pos (Nat.lt_succ_self _)]
        simp
      · rw [if_neg e]
        by_cases h2 : j < m
        · rw [if_pos h2, if_pos (by omega)]
          simp
        · rw [if_neg h2, if_neg (by omega)]
          simp
  rw [key n, if_pos h]
theorem dvd_sumN {d : Int} {f : Nat → Int} : ∀ {n : Nat}, (∀ i, i < n → d ∣ f i) → d ∣ sumN n f
  | 0, _ => Int.dvd_zero _
  | n + 1, h => Int.dvd_add (dvd_sumN fun i hi => h i (by omega)) (h n (by omega))
theorem combo_sum : ∀ (ks : List Int) (B : List (List Int)) (j : Nat), ks.length = B.length → comboV ks B j = sumN B.length fun i => vf ks i * vf (B.getD i []) j
  | [], [], _, _ => rfl
  | k :: ks, b :: B, j, h => by
    show k * vf b j + comboV ks B j = sumN (B.length + 1) _
    rw [sumN_head, combo_sum ks B j (Nat.succ.inj h)]
    rfl
theorem lat_sum {B : List (List Int)} (m : Nat → Int) : ∀ n, n ≤ B.length → Lat (rowsG B) (fun j => sumN n fun i => m i * vf (B.getD i []) j)
  | 0, _ => Lat.zero
  | n + 1, h => by
    have hb : B[n]? = some (B[n]'(by omega)) := List.getElem?_eq_getElem (by omega)
    have e : B.getD n [] = B[n]'(by omega) := by rw [List.getD_eq_getElem?_getD, hb]; rfl
    refine ((lat_sum m n (by omega)).comb (Lat.gen (G := rowsG B) ⟨B[n]'(by omega), List.getElem_mem _, rfl⟩) (-(m n))).of_eq fun j => ?_
    show _ = sumN n (fun i => m i * vf (B.getD i []) j) + m n * vf (B.getD n []) j
    rw [e]
    grind
/-- the coordinates of multiples of the units -/
def colsF (B : List (List Int)) (n k : Nat) : List Int := coordF 0 B (unitL n k (diagP 0 B))
/-- what is told of a vector at i -/
def tellF (B : List (List Int)) (n : Nat) (v : Vec) (i : Nat) : Int := sumN n fun k => v k * vf (colsF B n k) i
section
variable {n : Nat} {B : List (List Int)} (lB : B.length = n) (tri : Tri n B)
include lB tri
theorem cols_ok {k : Nat} (hk : k < n) (j : Nat) : unitV k (diagP 0 B) j = sumN n fun i => vf (colsF B n k) i * vf (B.getD i []) j := by
  have h1 := unit_in lB tri n 0 (by omega) k (by omega) hk
  rw [List.drop_zero] at h1
  have lu : (unitL n k (diagP 0 B)).length = n := by simp [unitL]
  have uv := unitL_vf (n := n) (x := diagP 0 B) hk
  have h2 := coord_ok lB tri n 0 (unitL n k (diagP 0 B)) (by omega) lu (by rw [List.drop_zero, uv]; exact h1) j
  rw [List.drop_zero, uv] at h2
  rw [h2, combo_sum _ _ _ (coord_len _ _ _), lB]
  rfl
theorem tell_combo {v : Vec} (hv : ∀ j, n ≤ j → v j = 0) (j : Nat) : diagP 0 B * v j = sumN n fun i => tellF B n v i * vf (B.getD i []) j := by
  have e1 : (sumN n fun i => tellF B n v i * vf (B.getD i []) j) = sumN n fun i => sumN n fun k => v k * (vf (colsF B n k) i * vf (B.getD i []) j) := sumN_congr fun i _ => by
    unfold tellF
    rw [Int.mul_comm, ← sumN_mul]
    exact sumN_congr fun k _ => by grind
  rw [e1, sumN_swap]
  have e2 : (sumN n fun k => sumN n fun i => v k * (vf (colsF B n k) i * vf (B.getD i []) j)) = sumN n fun k => (v k * diagP 0 B) * unitV k 1 j := sumN_congr fun k hk => by
    rw [sumN_mul, ← cols_ok lB tri hk j]
    unfold unitV
    split <;> simp
  rw [e2]
  by_cases hj : j < n
  · rw [sumN_unit (fun k => v k * diagP 0 B) hj, Int.mul_comm]
  · rw [hv j (by omega)]
    have : (sumN n fun k => (v k * diagP 0 B) * unitV k 1 j) = sumN n fun _ => 0 := sumN_congr fun k hk => by
      unfold unitV
      rw [if_neg (by omega)]
      simp
    rw [this, sumN_zero]
    simp
/-- all told 0: in the lattice -/
theorem tell_in {v : Vec} (hv : ∀ j, n ≤ j → v j = 0) (h : ∀ i, i < n → diagP 0 B ∣ tellF B n v i) : Lat (rowsG B) v := by
  have D0 : 0 < diagP 0 B := by
    have := diag_pos tri n 0 (by omega)
    rwa [List.drop_zero] at this
  refine (lat_sum (B := B) (fun i => tellF B n v i / diagP 0 B) n (by omega)).of_eq fun j => ?_
  refine Int.eq_of_mul_eq_mul_left (a := diagP 0 B) (by omega) ?_
  rw [tell_combo lB tri hv j, ← sumN_mul]
  refine sumN_congr fun i hi => ?_
  rw [← Int.mul_assoc, Int.mul_ediv_cancel' (h i hi)]
theorem tell_of {v : List Int} (lv : v.length = n) (h : Lat (rowsG B) (vf v)) {i : Nat} (hi : i < n) : diagP 0 B ∣ tellF B n (vf v) i := by
  have h2 := fun j => coord_ok lB tri n 0 v (by omega) lv (by rw [List.drop_zero]; exact h) j
  rw [List.drop_zero] at h2
  have lc : (coordF 0 B v).length = n := by rw [coord_len, lB]
  have key := combo_inj tri n 0 ((List.range n).map fun i => tellF B n (vf v) i) ((coordF 0 B v).map fun x => diagP 0 B * x) (by omega) (by simp) (by simp [lc]) (fun j => by
    rw [List.drop_zero, combo_sum _ _ _ (by simp [lB]), combo_sum _ _ _ (by rw [List.length_map, lc, lB]), lB]
    have e1 : (sumN n fun i => vf ((List.range n).map fun i => tellF B n (vf v) i) i * vf (B.getD i []) j) = diagP 0 B * vf v j := by
      rw [tell_combo lB tri (v := vf v) (fun j hj => vf_ge (by omega)) j]
      refine sumN_congr fun i hi => ?_
      rw [vf_at (v := (List.range n).map fun i => tellF B n (vf v) i) (x := tellF B n (vf v) i) (by rw [List.getElem?_map, List.getElem?_range hi]; rfl)]
    rw [e1, h2 j, combo_sum _ _ _ (by rw [lc, lB]), lB, ← sumN_mul]
    refine sumN_congr fun i hi => ?_
    have e3 : (coordF 0 B v)[i]? = some ((coordF 0 B v)[i]'(by omega)) := List.getElem?_eq_getElem (by omega)
    rw [vf_at e3, vf_at (v := (coordF 0 B v).map fun x => diagP 0 B * x) (by rw [List.getElem?_map, e3]; rfl), Int.mul_assoc])
  have e4 : ((List.range n).map fun i => tellF B n (vf v) i)[i]? = some (tellF B n (vf v) i) := by rw [List.getElem?_map, List.getElem?_range hi]; rfl
  rw [key, List.getElem?_map] at e4
  cases e5 : (coordF 0 B v)[i]? with
  | none => rw [e5] at e4; cases e4
  | some x =>
    rw [e5] at e4
    rw [← Option.some.inj e4]
    exact Int.dvd_mul_right _ _
end

/-! ### how large the rows are -/
theorem fdiv_step {x y : Int} (h : y ≠ 0) : (0 ≤ x * y → (x.fdiv y).natAbs * y.natAbs + (x - x.fdiv y * y).natAbs = x.natAbs) ∧ (x.fdiv y).natAbs * y.natAbs + (x - x.fdiv y * y).natAbs ≤ x.natAbs + 2 * y.natAbs ∧ 0 ≤ y * (x - x.fdiv y * y) := by
  have sm := fmod_small (x := x) h
  have e := Int.fmod_def x y
  have e2 : x - x.fdiv y * y = x.fmod y := by rw [e, Int.mul_comm]
  have em : (x.fdiv y).natAbs * y.natAbs = (x.fdiv y * y).natAbs := (Int.natAbs_mul _ _).symm
  have sg : (0 < y → 0 ≤ x.fmod y) ∧ (y < 0 → x.fmod y ≤ 0) := by
    refine ⟨fun p => ?_, fun p => ?_⟩
    · exact Int.fmod_nonneg_of_pos x p
    · rw [Int.fmod_eq_emod]
      have a := Int.emod_nonneg x h
      have b := Int.emod_lt x h
      split
      · rename_i hn
        rcases hn with z | z
        · omega
        · have := Int.emod_eq_zero_of_dvd z
          omega
      · omega
  rw [em]
  rw [e2] at sm ⊢
  have e3 : x.fdiv y * y = x - x.fmod y := by omega
  rw [e3]
  generalize x.fmod y = r at *
  refine ⟨fun hp => ?_, by omega, ?_⟩
  · rcases Int.lt_or_gt_of_ne h with hy | hy
    · have hx : x ≤ 0 := by
        rcases Int.lt_or_le 0 x with z | z
        · have := Int.mul_neg_of_pos_of_neg z hy
          omega
        · exact z
      have := sg.2 hy
      -- the quotient is not negative
      rcases Int.lt_or_le x r with z | z
      · omega
      · have : x = r ∨ r < x := by omega
        rcases this with z | z
        · omega
        · -- x - r is a positive multiple of y < 0, smaller than |y|
          exfalso
          have d : y ∣ x - r := ⟨x.fdiv y, by rw [Int.mul_comm]; omega⟩
          have := Int.le_of_dvd (by omega) (Int.neg_dvd.mpr d)
          omega
    · have hx : 0 ≤ x := by
        rcases Int.lt_or_le x 0 with z | z
        · have := Int.mul_neg_of_neg_of_pos z hy
          omega
        · exact z
      have := sg.1 hy
      rcases Int.lt_or_le x r with z | z
      · exfalso
        have d : y ∣ r - x := ⟨-(x.fdiv y), by rw [Int.mul_neg, Int.mul_comm]; omega⟩
        have := Int.le_of_dvd (by omega) d
        omega
      · omega
  · rcases Int.lt_or_gt_of_ne h with hy | hy
    · exact Int.mul_nonneg_of_nonpos_of_nonpos (by omega) (sg.2 hy)
    · exact Int.mul_nonneg (by omega) (sg.1 hy)
/-- the rows of Euclid stay small: all entries below M at first -/
structure EuB (M c : Nat) (f s : List Int) : Prop where
  x : (vf f c).natAbs < M
  y : (vf s c).natAbs < M
  fb : ∀ j, (vf f j).natAbs ≤ 4 * M * M
  sb : ∀ j, (vf s j).natAbs ≤ 4 * M * M
  go : (∀ j, (vf f j).natAbs < M ∧ (vf s j).natAbs < M) ∨ (0 ≤ vf f c * vf s c ∧ ∀ j, (vf s c).natAbs * (vf f j).natAbs + (vf f c).natAbs * (vf s j).natAbs ≤ 4 * M * M)
theorem EuB.start {M c : Nat} {f s : List Int} (h1 : ∀ j, (vf f j).natAbs < M) (h2 : ∀ j, (vf s j).natAbs < M) : EuB M c f s := by
  have q : ∀ a : Nat, a < M → a ≤ 4 * M * M := fun a h => by
    have : M ≤ 4 * M * M := by
      have : 1 * M ≤ 4 * M * M := Nat.mul_le_mul_right M (by omega)
      omega
    omega
  exact ⟨h1 c, h2 c, fun j => q _ (h1 j), fun j => q _ (h2 j), .inl fun j => ⟨h1 j, h2 j⟩⟩
theorem EuB.next {M c : Nat} {f s : List Int} (l : f.length = s.length) (nz : vf s c ≠ 0) (h : EuB M c f s) : EuB M c s (axpy ((vf f c).fdiv (vf s c)) f s) := by
  obtain ⟨a1, a2, a3⟩ := fdiv_step (x := vf f c) nz
  have sm := fmod_small (x := vf f c) nz
  have va := axpy_vf (k := (vf f c).fdiv (vf s c)) l
  have hx := h.x
  have hy := h.y
  have key : ∀ j, (vf f c - (vf f c).fdiv (vf s c) * vf s c).natAbs * (vf s j).natAbs + (vf s c).natAbs * (vf f j - (vf f c).fdiv (vf s c) * vf s j).natAbs ≤ 4 * M * M := fun j => by
    have t1 : (vf f j - (vf f c).fdiv (vf s c) * vf s j).natAbs ≤ (vf f j).natAbs + ((vf f c).fdiv (vf s c)).natAbs * (vf s j).natAbs := by
      rw [← Int.natAbs_mul]
      omega
    have t2 := Nat.mul_le_mul_left (vf s c).natAbs t1
    rw [Nat.mul_add] at t2
    have t3 : (vf s c).natAbs * (((vf f c).fdiv (vf s c)).natAbs * (vf s j).natAbs) = ((vf f c).fdiv (vf s c)).natAbs * (vf s c).natAbs * (vf s j).natAbs := by
      rw [← Nat.mul_assoc, Nat.mul_comm (vf s c).natAbs]
    rw [t3] at t2
    have t4 : (vf f c - (vf f c).fdiv (vf s c) * vf s c).natAbs * (vf s j).natAbs + ((vf f c).fdiv (vf s c)).natAbs * (vf s c).natAbs * (vf s j).natAbs = (((vf f c).fdiv (vf s c)).natAbs * (vf s c).natAbs + (vf f c - (vf f c).fdiv (vf s c) * vf s c).natAbs) * (vf s j).natAbs := by
      rw [Nat.add_mul]
      omega
    rcases h.go with g | ⟨g1, g2⟩
    · obtain ⟨g3, g4⟩ := g j
      have t5 : (((vf f c).fdiv (vf s c)).natAbs * (vf s c).natAbs + (vf f c - (vf f c).fdiv (vf s c) * vf s c).natAbs) * (vf s j).natAbs ≤ (3 * M) * M := Nat.mul_le_mul (by omega) (by omega)
      have t6 : (vf s c).natAbs * (vf f j).natAbs ≤ M * M := Nat.mul_le_mul (by omega) (by omega)
      have t7 : 4 * M * M = 3 * M * M + M * M := by
        rw [Nat.mul_assoc, Nat.mul_assoc]
        omega
      omega
    · rw [a1 g1] at t4
      have := g2 j
      omega
  refine ⟨hy, by rw [va]; show (vf f c - (vf f c).fdiv (vf s c) * vf s c).natAbs < M; omega, h.sb, fun j => ?_, .inr ⟨by rw [va]; exact a3, fun j => by rw [va]; exact key j⟩⟩
  rw [va]
  show (vf f j - (vf f c).fdiv (vf s c) * vf s j).natAbs ≤ 4 * M * M
  have k1 := key j
  have p1 : 1 ≤ (vf s c).natAbs := by omega
  have k2 : 1 * (vf f j - (vf f c).fdiv (vf s c) * vf s j).natAbs ≤ (vf s c).natAbs * (vf f j - (vf f c).fdiv (vf s c) * vf s j).natAbs := Nat.mul_le_mul_right _ p1
  omega
theorem comb_eu {M c n : Nat} {f s : List Int} (lf : f.length = n) (ls : s.length = n) (h : EuB M c f s) : EuB M c (combF c f s).1 (combF c f s).2 :=
  (comb_ind (c := c) (n := n) (P := EuB M c) (fun a b la lb nz ih => ih.next (by omega) nz) _ f s (Nat.le_refl _) lf ls h).1
/-- reduced rows are small again -/
theorem red_small {M c n : Nat} {odds row : List Int} (h1 : odds.length = n) (h2 : row.length = n) (ho : ∀ j, j < n → 0 < vf odds j ∧ (vf odds j).natAbs < M) (hz : ∀ j, j < c → vf row j = 0) (hc : (vf row c).natAbs < M) (hM : 0 < M) (j : Nat) : (vf (redF c odds row) j).natAbs < M := by
  rw [red_vf h1 h2]
  split
  · rename_i h
    obtain ⟨o1, o2⟩ := ho j h.2
    have a := Int.emod_nonneg (vf row j) (show vf odds j ≠ 0 by omega)
    have b := Int.emod_lt_of_pos (vf row j) o1
    omega
  · rename_i h
    by_cases e : j = c
    · rw [e]; exact hc
    · by_cases e2 : j < c
      · rw [hz j e2]
        exact hM
      · rw [vf_ge (by omega)]
        exact hM

/-- a row that begins at c, of small entries -/
structure RowB (M n c : Nat) (r : List Int) : Prop where
  len : r.length = n
  zero : ∀ j, j < c → vf r j = 0
  small : ∀ j, (vf r j).natAbs < M
structure OddB (M n : Nat) (odds : List Int) : Prop where
  len : odds.length = n
  pos : ∀ j, j < n → 0 < vf odds j
  small : ∀ j, (vf odds j).natAbs < M
  m0 : 0 < M
theorem piv_b {M n c : Nat} {odds p row : List Int} (o : OddB M n odds) (hp : RowB M n c p) (hr : RowB M n c row) : RowB M n c (redF c odds (combF c p row).1) ∧ RowB M n (c + 1) (redF c odds (combF c p row).2) := by
  obtain ⟨l1, l2, z2⟩ := comb_len (c := c) hp.len hr.len
  have eu := comb_eu (c := c) hp.len hr.len (EuB.start (M := M) (c := c) hp.small hr.small)
  have oo : ∀ j, j < n → 0 < vf odds j ∧ (vf odds j).natAbs < M := fun j hj => ⟨o.pos j hj, o.small j⟩
  have zz := fun j (hj : j < c) => comb_zero (c := c) hp.len hr.len (hp.zero j hj) (hr.zero j hj)
  refine ⟨⟨red_len o.len l1, fun j hj => ?_, red_small o.len l1 oo (fun j hj => (zz j hj).1) eu.x o.m0⟩, ⟨red_len o.len l2, fun j hj => ?_, red_small o.len l2 oo (fun j hj => (zz j hj).2) eu.y o.m0⟩⟩
  · rw [red_vf o.len l1, if_neg (by omega)]
    exact (zz j hj).1
  · rw [red_vf o.len l2, if_neg (by omega)]
    by_cases e : j = c
    · rw [e]; exact z2
    · exact (zz j (by omega)).2
theorem fold_b {M n c : Nat} {odds : List Int} (o : OddB M n odds) : ∀ (rows : List (List Int)) (p : List Int) (os : List (List Int)), (∀ r ∈ rows, RowB M n c r) → RowB M n c p → (∀ r ∈ os, RowB M n (c + 1) r) →
    RowB M n c (rows.foldl (pivF c odds) (p, os)).1 ∧ (∀ r ∈ (rows.foldl (pivF c odds) (p, os)).2, RowB M n (c + 1) r) ∧ (rows.foldl (pivF c odds) (p, os)).2.length = os.length + rows.length
  | [], p, os, _, hp, ho => ⟨hp, ho, rfl⟩
  | row :: rows, p, os, hr, hp, ho => by
    obtain ⟨a1, a2⟩ := piv_b o hp (hr row List.mem_cons_self)
    obtain ⟨b1, b2, b3⟩ := fold_b o rows (redF c odds (combF c p row).1) (os ++ [redF c odds (combF c p row).2]) (fun r h => hr r (List.mem_cons_of_mem _ h)) a1 (fun r h => by
      rcases List.mem_append.mp h with h | h
      · exact ho r h
      · rw [List.mem_singleton.mp h]; exact a2)
    refine ⟨b1, b2, ?_⟩
    show (rows.foldl (pivF c odds) (redF c odds (combF c p row).1, os ++ [redF c odds (combF c p row).2])).2.length = _
    rw [b3, List.length_append, List.length_singleton, List.length_cons]
    omega
theorem unit_b {M n c : Nat} {odds : List Int} (o : OddB M n odds) (hc : c < n) : RowB M n c (unitL odds.length c (vf odds c)) := by
  have uv : vf (unitL odds.length c (vf odds c)) = unitV c (vf odds c) := unitL_vf (by rw [o.len]; exact hc)
  refine ⟨by simp [unitL, o.len], fun j hj => ?_, fun j => ?_⟩
  · rw [uv]; unfold unitV; rw [if_neg (by omega)]
  · rw [uv]
    unfold unitV
    split
    · exact o.small c
    · exact o.m0
theorem col_b {M n c : Nat} {odds : List Int} (o : OddB M n odds) (hc : c < n) {rows : List (List Int)} (hr : ∀ r ∈ rows, RowB M n c r) : RowB M n c (colF odds c rows).1 ∧ (∀ r ∈ (colF odds c rows).2, RowB M n (c + 1) r) ∧ (colF odds c rows).2.length = rows.length := by
  have := fold_b o rows _ [] hr (unit_b o hc) (by simp)
  simpa [colF] using this
theorem neg_b {M n c : Nat} {p : List Int} (h : RowB M n c p) : RowB M n c (posF c p) := by
  refine ⟨by rw [pos_len, h.len], fun j hj => pos_zero (h.zero j hj), fun j => ?_⟩
  unfold posF
  split
  · exact h.small j
  · rw [neg_vf]
    show (- vf p j).natAbs < M
    rw [Int.natAbs_neg]
    exact h.small j
theorem next_b {M n : Nat} {odds : List Int} (o : OddB M n odds) {rows : List (List Int)} (hr : ∀ r ∈ rows, RowB M n 0 r) : ∀ c, c ≤ n →
    ((List.range c).foldl (nextF odds) ([], rows)).1.length = c ∧ (∀ r ∈ ((List.range c).foldl (nextF odds) ([], rows)).1, RowB M n 0 r) ∧ (∀ r ∈ ((List.range c).foldl (nextF odds) ([], rows)).2, RowB M n c r) ∧ ((List.range c).foldl (nextF odds) ([], rows)).2.length = rows.length
  | 0, _ => ⟨rfl, by simp, hr, rfl⟩
  | c + 1, h => by
    obtain ⟨a1, a2, a3, a4⟩ := next_b o hr c (by omega)
    rw [List.range_succ, List.foldl_append]
    generalize (List.range c).foldl (nextF odds) ([], rows) = st at a1 a2 a3 a4
    obtain ⟨b1, b2, b3⟩ := col_b o (by omega) a3
    refine ⟨by show (st.1 ++ [_]).length = _; rw [List.length_append, a1]; rfl, fun r hr => ?_, b2, b3.trans a4⟩
    rcases List.mem_append.mp (show r ∈ st.1 ++ [posF c (colF odds c st.2).1] from hr) with h | h
    · exact a2 r h
    · rw [List.mem_singleton.mp h]
      have := neg_b b1
      exact ⟨this.len, fun j hj => absurd hj (by omega), this.small⟩
theorem basis_b {M n : Nat} {odds : List Int} (o : OddB M n odds) {rows : List (List Int)} (hr : ∀ r ∈ rows, RowB M n 0 r) : ∀ r ∈ basisF odds rows, RowB M n 0 r := by
  unfold basisF
  rw [o.len]
  exact (next_b o hr n (Nat.le_refl _)).2.1
theorem nz_of {M n : Nat} {odds : List Int} (o : OddB M n odds) : ∀ i, i < n → vf odds i ≠ 0 := fun i hi => by
  have := o.pos i hi
  omega

/-- the bound of sizes here -/
abbrev MB : Nat := 2 ^ 270
theorem mb_pos : 0 < MB := Nat.pos_of_neZero _
/-- a list of ints stands at a -/
abbrev IL (H : Hp) (a : Addr) (xs : List Int) : Prop := H a = some (.lst (xs.map V.int))
theorem atI_vf {xs : List Int} {c : Nat} (h : c < xs.length) : atI (xs.map V.int) (c : Int) = some (.int (vf xs c)) := by
  unfold atI ixN
  rw [if_pos (by omega), if_pos (by rw [List.length_map]; omega)]
  show (xs.map V.int)[(c : Int).toNat]? = _
  rw [Int.toNat_natCast, List.getElem?_map, List.getElem?_eq_getElem h, vf_at (List.getElem?_eq_getElem h)]
  rfl
theorem lt_pow {a b c : Nat} (h : a < 2 ^ b) (hbc : b ≤ c) : a < 2 ^ c := Nat.lt_of_lt_of_le h (Nat.pow_le_pow_right (by decide) hbc)
theorem four_mb : 4 * MB * MB < 2 ^ 543 := by decide +kernel
section
variable {P : Program} {w : World} {K : PySem.W.Frag} {mg : Str → Option Value} {base : Heap}
def sp_combined : Sp := fun vs H Q _ => ∃ (a b : Addr) (c n : Nat) (f s : List Int), vs = [.ref a, .ref b, .int (c : Int)] ∧ IL H a f ∧ IL H b s ∧ f.length = n ∧ s.length = n ∧ n ≤ 4 ∧ c < n ∧ EuB MB c f s ∧
  ∀ t a2 b2 H2, Ex H H2 → H2 t = some (.tup [.ref a2, .ref b2]) → IL H2 a2 (combF c f s).1 → IL H2 b2 (combF c f s).2 → Q (.ref t) H2
theorem ok_combined (T : TX K mg) : FnOk P w K mg base CX0 1 T.f_combined T.fd_combined ["first", "second", "column"] sp_combined := by
  refine T.F_combined.ok sc_combined (fun vs H Q E h => ?_) (fun cdv A outer s H vs Q E hr h => ?_)
  · obtain ⟨a, b, c, n, f, s, rfl, _⟩ := h
    rfl
  · obtain ⟨a, b, c, n, f, s, rfl, ha, hb, lf, ls, n4, cn, eu, k⟩ := h
    refine ⟨_, (pss_cons (ps_while PassesOwn.never (pt_cmpR op_ne (pe_ix ix_list (pv 1) (pv 2) (fun _ _ => rfl)) pe_int (nomark _)) (pss_cons (ps_set (i := 3) sc_combined.nd rfl (Or.inr rfl) (pe_op op_fdivNW (pe_ix ix_list (pv 0) (pv 2) (fun _ _ => rfl)) (pe_ix ix_list (pv 1) (pv 2) (fun _ _ => rfl)))) (pss_one (ps_par (i := 0) (j := 1) rfl sc_combined.nd rfl rfl (by decide) rfl rfl (pa_cons (pv 1) (pa_cons (pe_lc (own := [("one", 4), ("other", 5)]) (g := (gTup K 2 (gCons (gName 4) (gCons (gName 5) gNil)))) rfl sc_combined.nd (CZ.pi_z2s (fl := [false, false]) rfl (by rfl) T.z_zip (pa_cons (pv 0) (pa_cons (pv 1) pa_nil))) (blkOk_by (N := N_combined) (sc := defScope s_combined) (by decide +kernel)) (fun _ _ _ _ _ => (pg_tup rfl (pgs_cons (pg_name (i := 4) sc_combined.nd rfl (Or.inl rfl)) (pgs_cons (pg_name (i := 5) sc_combined.nd rfl (Or.inl rfl)) pgs_nil)))) (fun _ _ _ _ _ => pts_nil) (fun _ _ _ _ _ => (pe_op op_sub (pv 4) (pe_op op_mulI (pv 3) (pv 5))))) pa_nil)) (by rfl))))) (pss_one (ps_ret (pe_tup (pa_cons (pv 0) (pa_cons (pv 1) pa_nil)))))), ?_⟩
    refine ⟨fun m σ H1 => ∃ (a1 b1 : Addr) (f1 s1 : List Int) (y3 y4 y5 : Option V), σ = [some (.ref a1), some (.ref b1), some (.int (c : Int)), y3, y4, y5] ∧ Ex H H1 ∧ IL H1 a1 f1 ∧ IL H1 b1 s1 ∧ f1.length = n ∧ s1.length = n ∧ EuB MB c f1 s1 ∧ combF c f1 s1 = combF c f s ∧ m = (vf s1 c).natAbs, ⟨_, a, b, f, s, _, _, _, rfl, exr, ha, hb, lf, ls, eu, rfl, rfl⟩, ?_⟩
    rintro m σ H1 ⟨a1, b1, f1, s1, y3, y4, y5, rfl, e1, ha1, hb1, lf1, ls1, eu1, ec, rfl⟩
    refine ⟨_, rfl, _, rfl, b1, _, _, _, rfl, rfl, SqL.of hb1, atI_vf (by omega), rfl, _, rfl, ?_⟩
    rw [combF_eq] at ec
    refine ite2 (fun hc => ?_) (fun hc => ?_)
    · have nz : vf s1 c ≠ 0 := fun z => by rw [z] at hc; simp at hc
      rw [if_neg nz] at ec
      have sy : (vf s1 c).natAbs < 2 ^ 270 := eu1.y
      refine ⟨_, fun _ _ h => h, ?_⟩
      refine ⟨_, rfl, _, rfl, a1, _, _, _, rfl, rfl, SqL.of ha1, atI_vf (by omega), _, rfl, _, rfl, b1, _, _, _, rfl, rfl, SqL.of hb1, atI_vf (by omega), _, _, rfl, rfl, wide_divN nz sy (by decide) (by decide), ?_⟩
      have nx := eu1.next (by omega) nz
      have qb : ((vf f1 c).fdiv (vf s1 c)).natAbs < 2 ^ 273 := by
        have h1 := (fdiv_step (x := vf f1 c) nz).2.1
        have h2 : 1 * ((vf f1 c).fdiv (vf s1 c)).natAbs ≤ ((vf f1 c).fdiv (vf s1 c)).natAbs * (vf s1 c).natAbs := by
          rw [Nat.mul_comm]
          exact Nat.mul_le_mul_left _ (by omega)
        have h3 : (vf f1 c).natAbs < 2 ^ 270 := eu1.x
        have h4 : (2 : Nat) ^ 273 = 8 * 2 ^ 270 := by decide +kernel
        omega
      dsimp only
      generalize hq : (vf f1 c).fdiv (vf s1 c) = q at ec nx qb ⊢
      refine ⟨_, rfl, _, rfl, _, rfl, [a1, b1], rfl, rfl, all2 (sqL ha1) (sqL hb1), fun D hD => ?_⟩
      have la : (axpy q f1 s1).length = n := by rw [axpy_len (by omega), ls1]
      refine lc_vals (CZ.walk_rows (xss := [f1.map V.int, s1.map V.int]) (n := n) (lens2 (by rw [List.length_map, lf1]) (by rw [List.length_map, ls1]))) ((axpy q f1 s1).map V.int) (by rw [List.length_map, la]) (by omega) hD (fun H3 e => .cons (sqL (e _ _ ha1)) (.cons (sqL (e _ _ hb1)) .nil)) ?_ (gmono_tup (gmono_cons gmono_name (gmono_cons gmono_name gmono_nil))) ?_
      · intro i y H3 H4 R hi e yy kk
        obtain ⟨Ta, p, d, rfl, hT, rfl, hp, hd⟩ := yints2 yy
        have db : d.natAbs < 2 ^ 543 := by
          rw [← vf_at hd]
          exact Nat.lt_of_le_of_lt (eu1.sb i) four_mb
        refine ⟨Ta, _, rfl, SqT.of upd_same, rfl, _, _, rfl, _, _, rfl, rfl, ?_⟩
        refine ⟨rfl, _, rfl, _, rfl, _, rfl, _, _, rfl, rfl, (wide_mul qb db (by decide) (by decide) (by decide)).ok, _, _, rfl, rfl, ?_⟩
        refine kk _ _ (exn hT) ?_
        rw [List.getElem?_map]
        unfold axpy
        rw [List.getElem?_zipWith, hp, hd]
        rfl
      · intro H3 e3 hD3
        refine ⟨_, _, rfl, ?_⟩
        refine ⟨_, ?_, b1, D, s1, axpy q f1 s1, _, _, _, rfl, ext e1 e3, e3 _ _ hb1, hD3, ls1, la, nx, ec, rfl⟩
        have sm := fmod_small (x := vf f1 c) nz
        rw [hq] at sm
        rw [axpy_vf (by omega)]
        exact sm
    · have z : vf s1 c = 0 := by
        have := eqN hc
        exact this
      rw [if_pos z] at ec
      refine ⟨_, rfl, _, rfl, slen rfl, ?_⟩
      (intro t nt; generalize hGt : upd _ t _ = H2; have eH2 := exG hGt nt; have ht := atG hGt; clear hGt)
      refine k t a1 b1 _ (ext e1 eH2) ht ?_ ?_
      · rw [← ec]
        exact eH2 _ _ ha1
      · rw [← ec]
        exact eH2 _ _ hb1
end

/-! ### lists of lists of ints -/
def LRows (H : Hp) (xs : List V) (rows : List (List Int)) : Prop := Paired (fun x hs => ∃ r, x = V.ref r ∧ H r = some (.lst (hs.map V.int)) ∧ hs ≠ []) xs rows
theorem LRows.mono {H H2 : Hp} (e : Ex H H2) : ∀ {xs : List V} {rows : List (List Int)}, LRows H xs rows → LRows H2 xs rows
  | _, _, .nil => .nil
  | _, _, .cons ⟨r, h1, h2, h3⟩ t => .cons ⟨r, h1, e _ _ h2, h3⟩ (LRows.mono e t)
theorem LRows.len {H : Hp} : ∀ {xs : List V} {rows : List (List Int)}, LRows H xs rows → xs.length = rows.length
  | _, _, .nil => rfl
  | _, _, .cons _ t => by rw [List.length_cons, List.length_cons, LRows.len t]
theorem LRows.get {H : Hp} {xs : List V} {rows : List (List Int)} {i : Nat} {x : V} (h : LRows H xs rows) (hx : xs[i]? = some x) : ∃ hs r, rows[i]? = some hs ∧ x = V.ref r ∧ H r = some (.lst (hs.map V.int)) ∧ hs ≠ [] := by
  obtain ⟨hs, h1, r, h2, h3, h4⟩ := paired_get h hx
  exact ⟨hs, r, h1, h2, h3, h4⟩
theorem LRows.snoc {H : Hp} {r : Addr} {hs : List Int} (h : H r = some (.lst (hs.map V.int))) (ne : hs ≠ []) : ∀ {xs : List V} {rows : List (List Int)}, LRows H xs rows → LRows H (xs ++ [.ref r]) (rows ++ [hs])
  | _, _, .nil => .cons ⟨r, rfl, h, ne⟩ .nil
  | _, _, .cons q t => .cons q (LRows.snoc h ne t)
/-- a list of rows is no row -/
theorem LRows.ne {H : Hp} {D r : Addr} {ys : List V} {rows : List (List Int)} {hs : List Int} (hD : H D = some (.lst ys)) (h : LRows H ys rows) (hr : H r = some (.lst (hs.map V.int))) (ne : hs ≠ []) : r ≠ D := by
  intro e
  rw [e, hD] at hr
  injection hr with hr
  injection hr with hr
  cases hs with
  | nil => exact ne rfl
  | cons x xs =>
    rw [List.map_cons] at hr
    rw [hr] at h
    cases h with
    | cons q _ =>
      obtain ⟨r, e, _⟩ := q
      cases e
theorem LRows.upd {H : Hp} {D : Addr} {ys zs : List V} {rows0 : List (List Int)} (hD : H D = some (.lst ys)) (h0 : LRows H ys rows0) : ∀ {xs : List V} {rows : List (List Int)}, LRows H xs rows → LRows (upd H D (.lst zs)) xs rows
  | _, _, .nil => .nil
  | _, _, .cons ⟨r, h1, h2, h3⟩ t => .cons ⟨r, h1, by rw [upd_ne (LRows.ne hD h0 h2 h3)]; exact h2, h3⟩ (LRows.upd hD h0 t)
def LAt (H : Hp) (D : Addr) (rows : List (List Int)) : Prop := ∃ xs, H D = some (.lst xs) ∧ LRows H xs rows
theorem LAt.mono {H H2 : Hp} {D : Addr} {rows : List (List Int)} (e : Ex H H2) (h : LAt H D rows) : LAt H2 D rows := by
  obtain ⟨xs, h1, h2⟩ := h
  exact ⟨xs, e _ _ h1, h2.mono e⟩
theorem lrows_push {H : Hp} {D u : Addr} {rows : List (List Int)} {ks : List Int} (h : LAt H D rows) (hu : H u = some (.lst (ks.map V.int))) (ne : ks ≠ []) : ∃ acc, H D = some (.lst acc) ∧ acc.length = rows.length ∧ LAt (upd H D (.lst (acc ++ [.ref u]))) D (rows ++ [ks]) := by
  obtain ⟨xs, h1, h2⟩ := h
  refine ⟨xs, h1, h2.len, _, upd_same, ?_⟩
  exact LRows.snoc (by rw [upd_ne (LRows.ne h1 h2 hu ne)]; exact hu) ne (h2.upd h1 h2)
theorem LAt.other {H : Hp} {D E : Addr} {rows rowsE : List (List Int)} {zs : List V} (h : LAt H D rows) (hE : LAt H E rowsE) (ne : E ≠ D) : LAt (upd H D (.lst zs)) E rowsE := by
  obtain ⟨xs, h1, h2⟩ := h
  obtain ⟨ys, g1, g2⟩ := hE
  exact ⟨ys, by rw [upd_ne ne]; exact g1, LRows.upd h1 h2 g2⟩
theorem LAt.row {H : Hp} {D r : Addr} {rows : List (List Int)} {hs : List Int} {zs : List V} (h : LAt H D rows) (hr : IL H r hs) (ne : hs ≠ []) : IL (upd H D (.lst zs)) r hs := by
  obtain ⟨xs, h1, h2⟩ := h
  show upd H D _ r = _
  rw [upd_ne (LRows.ne h1 h2 hr ne)]
  exact hr
theorem atI_zero {α : Type} (x : α) (xs : List α) : atI (x :: xs) 0 = some x := by
  unfold atI ixN
  rw [if_pos (Int.le_refl 0), if_pos (by rw [List.length_cons]; omega)]
  rfl
/-- an if that ends the def or leaves all names as they are -/
theorem ifs_ex {c : TT} {t u : TS} {D : Ends} {σ : L2.St} {H : Hp} (h : ∀ N : L2.St → Hp → Prop, (∀ H2, Ex H H2 → N σ H2) → tIfS c t u { D with nx := N } σ H) (hR : ∀ H2, Ex H H2 → D.nx σ H2) : tIfS c t u D σ H :=
  ifs_cutG (fun σ2 H2 => σ2 = σ ∧ Ex H H2) (by rintro σ2 H2 ⟨rfl, e⟩; exact hR H2 e) (fun N hN => h N fun H2 e => hN σ H2 ⟨rfl, e⟩)
theorem sif_ex {c : TT} {t u r : TS} {D : Ends} {σ : L2.St} {H : Hp} (h : ∀ N : L2.St → Hp → Prop, (∀ H2, Ex H H2 → N σ H2) → tIfS c t u { D with nx := N } σ H) (hR : ∀ H2, Ex H H2 → r D σ H2) : tSeq (tIfS c t u) r D σ H :=
  ifs_ex (D := { D with nx := r D }) h hR

theorem drop_ints (xs : List Int) (k : Nat) : (xs.map V.int).drop k = (xs.drop k).map V.int := by rw [List.map_drop]
theorem take_ints (xs : List Int) (k : Nat) : (xs.map V.int).take k = (xs.take k).map V.int := by rw [List.map_take]
theorem cut_to1 (xs : List Int) (c : Nat) : cutV (xs.map V.int) none (some ((c : Int) + 1)) = (xs.take (c + 1)).map V.int := by
  rw [show ((c : Int) + 1) = ((c + 1 : Nat) : Int) from rfl, cut_to, take_ints]
theorem cut_from1 (xs : List Int) (c : Nat) : cutV (xs.map V.int) (some ((c : Int) + 1)) none = (xs.drop (c + 1)).map V.int := by
  rw [show ((c : Int) + 1) = ((c + 1 : Nat) : Int) from rfl, cut_from, drop_ints]
theorem red_ne {c n : Nat} {odds row : List Int} (h1 : odds.length = n) (h2 : row.length = n) (h : 0 < n) : redF c odds row ≠ [] := fun z => by
  have := red_len (c := c) h1 h2
  rw [z] at this
  simp at this
  omega
section
variable {P : Program} {w : World} {K : PySem.W.Frag} {mg : Str → Option Value} {base : Heap}
def sp_reduced : Sp := fun vs H Q _ => ∃ (a b : Addr) (c n : Nat) (row odds : List Int), vs = [.ref a, .int (c : Int), .ref b] ∧ IL H a row ∧ IL H b odds ∧ row.length = n ∧ odds.length = n ∧ n ≤ 4 ∧ (∀ j, j < n → 0 < vf odds j) ∧
  ∀ q H2, Ex H H2 → H q = none → IL H2 q (redF c odds row) → Q (.ref q) H2
theorem ok_reduced (T : TX K mg) : FnOk P w K mg base CX0 1 T.f_reduced T.fd_reduced ["row", "column", "odds"] sp_reduced := by
  refine T.F_reduced.ok sc_reduced (fun vs H Q E h => ?_) (fun cdv A outer s H vs Q E hr h => ?_)
  · obtain ⟨a, b, c, n, row, odds, rfl, _⟩ := h
    rfl
  · obtain ⟨a, b, c, n, row, odds, rfl, ha, hb, lr, lo, n4, op, k⟩ := h
    refine ⟨_, (pss_one (ps_ret (pe_op (r := rCatR K) op_catR (pe_slice sl_list (pv 0) po_none (po_some (pe_op op_add (pv 1) pe_int))) (pe_lc (own := [("one", 3), ("odd", 4)]) (g := (gTup K 2 (gCons (gName 3) (gCons (gName 4) gNil)))) rfl sc_reduced.nd (CZ.pi_z2s (fl := [false, false]) rfl (by rfl) T.z_zip (pa_cons (pe_slice sl_list (pv 0) (po_some (pe_op op_add (pv 1) pe_int)) po_none) (pa_cons (pe_slice sl_list (pv 2) (po_some (pe_op op_add (pv 1) pe_int)) po_none) pa_nil))) (blkOk_by (N := N_reduced) (sc := defScope s_reduced) (by decide +kernel)) (fun _ _ _ _ _ => (pg_tup rfl (pgs_cons (pg_name (i := 3) sc_reduced.nd rfl (Or.inl rfl)) (pgs_cons (pg_name (i := 4) sc_reduced.nd rfl (Or.inl rfl)) pgs_nil)))) (fun _ _ _ _ _ => pts_nil) (fun _ _ _ _ _ => (pe_op op_mod (pv 3) (pv 4))))))), ?_⟩
    (repeat (first | refine ⟨rfl, ?_⟩ | refine ⟨_, rfl, ?_⟩ | refine ⟨_, _, rfl, rfl, ?_⟩ | refine ⟨_, _, rfl, ?_⟩ | refine ⟨slen rfl, ?_⟩ | refine ⟨⟨by decide, by decide +kernel⟩, ?_⟩ | refine ⟨⟨by decide, by decide, by decide⟩, ?_⟩ | refine ⟨(by show (0 : Int) < _; first | decide | assumption | omega), ?_⟩ | refine ⟨mul_ok (by first | exact .inr (by decide) | exact .inl (by decide)), ?_⟩))
    refine ⟨a, _, rfl, SqL.of ha, ?_⟩
    dsimp only
    rw [cut_to1]
    (intro q1 nq1; generalize hGq1 : upd _ q1 _ = H1; have eH1 := exG hGq1 nq1; have hq1 := atG hGq1; clear hGq1)
    (repeat (first | refine ⟨rfl, ?_⟩ | refine ⟨_, rfl, ?_⟩ | refine ⟨_, _, rfl, rfl, ?_⟩ | refine ⟨_, _, rfl, ?_⟩ | refine ⟨slen rfl, ?_⟩ | refine ⟨⟨by decide, by decide +kernel⟩, ?_⟩ | refine ⟨⟨by decide, by decide, by decide⟩, ?_⟩ | refine ⟨(by show (0 : Int) < _; first | decide | assumption | omega), ?_⟩ | refine ⟨mul_ok (by first | exact .inr (by decide) | exact .inl (by decide)), ?_⟩))
    refine ⟨a, _, rfl, SqL.of (eH1 _ _ ha), ?_⟩
    dsimp only
    rw [cut_from1]
    (intro q2 nq2; generalize hGq2 : upd _ q2 _ = H2; have eH2 := exG hGq2 nq2; have hq2 := atG hGq2; clear hGq2)
    (repeat (first | refine ⟨rfl, ?_⟩ | refine ⟨_, rfl, ?_⟩ | refine ⟨_, _, rfl, rfl, ?_⟩ | refine ⟨_, _, rfl, ?_⟩ | refine ⟨slen rfl, ?_⟩ | refine ⟨⟨by decide, by decide +kernel⟩, ?_⟩ | refine ⟨⟨by decide, by decide, by decide⟩, ?_⟩ | refine ⟨(by show (0 : Int) < _; first | decide | assumption | omega), ?_⟩ | refine ⟨mul_ok (by first | exact .inr (by decide) | exact .inl (by decide)), ?_⟩))
    refine ⟨b, _, rfl, SqL.of (eH2 _ _ (eH1 _ _ hb)), ?_⟩
    dsimp only
    rw [cut_from1]
    (intro q3 nq3; generalize hGq3 : upd _ q3 _ = H3; have eH3 := exG hGq3 nq3; have hq3 := atG hGq3; clear hGq3)
    have ld1 : (row.drop (c + 1)).length = n - (c + 1) := by rw [List.length_drop, lr]
    have ld2 : (odds.drop (c + 1)).length = n - (c + 1) := by rw [List.length_drop, lo]
    refine ⟨[q2, q3], rfl, rfl, all2 (sqL (eH3 _ _ hq2)) (sqL hq3), fun D hD => ?_⟩
    refine lc_vals (CZ.walk_rows (xss := [(row.drop (c + 1)).map V.int, (odds.drop (c + 1)).map V.int]) (n := n - (c + 1)) (lens2 (by rw [List.length_map, ld1]) (by rw [List.length_map, ld2]))) ((List.zipWith (fun x y => x % y) (row.drop (c + 1)) (odds.drop (c + 1))).map V.int) (by rw [List.length_map, List.length_zipWith, ld1, ld2, Nat.min_self]) (by omega) hD (fun H3 e => .cons (sqL (e _ _ (eH3 _ _ hq2))) (.cons (sqL (e _ _ hq3)) .nil)) ?_ (gmono_tup (gmono_cons gmono_name (gmono_cons gmono_name gmono_nil))) ?_
    · intro i y H4 H5 R hi e yy kk
      obtain ⟨Ta, p, d, rfl, hT, rfl, hp, hd⟩ := yints2 yy
      have d0 : 0 < d := by
        rw [List.getElem?_drop] at hd
        rw [← vf_at hd]
        exact op _ (by omega)
      refine ⟨Ta, _, rfl, SqT.of upd_same, rfl, _, _, rfl, _, _, rfl, rfl, ?_⟩
      refine ⟨rfl, _, rfl, _, rfl, _, _, rfl, rfl, d0, ?_⟩
      refine kk _ _ (exn hT) ?_
      rw [List.getElem?_map, List.getElem?_zipWith, hp, hd]
      rfl
    · intro H4 e4 hD4
      refine ⟨q1, D, _, _, rfl, rfl, SqL.of (e4 _ _ (eH3 _ _ (eH2 _ _ hq1))), SqL.of hD4, ?_, fun q hq => ?_⟩
      · rw [List.length_map, List.length_map, List.length_take, List.length_zipWith, ld1, ld2]
        exact Nat.le_trans (show _ ≤ 8 by omega) (by decide)
      · have e14 : Ex H H4 := ext eH1 (ext eH2 (ext eH3 e4))
        refine k q _ (ext e14 (exn hq)) (Evl.fresh_back e14 hq) ?_
        show upd H4 q _ q = _
        rw [upd_same, ← List.map_append]
        rfl
end

/-- the odd part -/
def oddN (n : Nat) : Nat := if h : 0 < n ∧ n % 2 = 0 then oddN (n / 2) else n
termination_by n
decreasing_by omega
theorem odd_eq (n : Nat) : oddN n = if 0 < n ∧ n % 2 = 0 then oddN (n / 2) else n := by
  rw [oddN]
  split <;> rfl
theorem odd_ok : ∀ (m n : Nat), n ≤ m → 0 < n → (∃ k, n = 2 ^ k * oddN n) ∧ oddN n % 2 = 1 ∧ 0 < oddN n ∧ oddN n ≤ n
  | 0, n, h, p => by omega
  | m + 1, n, h, p => by
    rw [odd_eq]
    by_cases e : 0 < n ∧ n % 2 = 0
    · rw [if_pos e]
      obtain ⟨⟨k, hk⟩, a, b, c⟩ := odd_ok m (n / 2) (by omega) (by omega)
      refine ⟨⟨k + 1, ?_⟩, a, b, by omega⟩
      rw [Nat.pow_succ, Nat.mul_comm (2 ^ k), Nat.mul_assoc, ← hk]
      omega
    · rw [if_neg e]
      exact ⟨⟨0, by simp⟩, by omega, p, Nat.le_refl _⟩
def oddI (n : Int) : Int := (oddN n.toNat : Nat)
/-- differences from the first target -/
def diffL (a b : List Int) : List Int := List.zipWith (fun x y => x - y) a b
def rowsF (t0 : List Int) (ts : List (List Int)) : List (List Int) := ts.map fun t => diffL t t0
/-- all free shifts, by a triangular basis -/
def shiftB (ns : List Int) (tss : List (List Int)) : List (List Int) := basisF (ns.map oddI) (rowsF (tss.headD []) tss.tail)
theorem pow2_inj : ∀ (k j : Nat) (a b : Int), a % 2 = 1 → b % 2 = 1 → 2 ^ k * a = 2 ^ j * b → a = b
  | 0, 0, a, b, _, _, h => by simpa using h
  | 0, j + 1, a, b, ha, _, h => by
    rw [Int.pow_succ, Int.mul_comm ((2 : Int) ^ j), Int.mul_assoc] at h
    simp at h
    omega
  | k + 1, 0, a, b, _, hb, h => by
    rw [Int.pow_succ, Int.mul_comm ((2 : Int) ^ k), Int.mul_assoc] at h
    simp at h
    omega
  | k + 1, j + 1, a, b, ha, hb, h => by
    rw [Int.pow_succ, Int.pow_succ, Int.mul_comm ((2 : Int) ^ k), Int.mul_comm ((2 : Int) ^ j), Int.mul_assoc, Int.mul_assoc] at h
    exact pow2_inj k j a b ha hb (by omega)
theorem oddI_ok {n : Int} (h : 1 ≤ n) : (∃ k : Nat, n = 2 ^ k * oddI n) ∧ oddI n % 2 = 1 ∧ 0 < oddI n ∧ oddI n ≤ n := by
  obtain ⟨⟨k, hk⟩, a, b, c⟩ := odd_ok n.toNat n.toNat (Nat.le_refl _) (by omega)
  refine ⟨⟨k, ?_⟩, by unfold oddI; omega, by unfold oddI; omega, by unfold oddI; omega⟩
  have : (n.toNat : Int) = ((2 ^ k * oddN n.toNat : Nat) : Int) := congrArg Nat.cast hk
  rw [Int.natCast_mul, Int.natCast_pow] at this
  unfold oddI
  rw [← show ((2 : Nat) : Int) = 2 from rfl, ← this]
  omega
theorem oddI_uniq {n o : Int} {k : Nat} (h : 1 ≤ n) (e : n = 2 ^ k * o) (ho : o % 2 = 1) : o = oddI n := by
  obtain ⟨⟨j, hj⟩, a, _, _⟩ := oddI_ok h
  exact pow2_inj k j o (oddI n) ho a (by rw [← e, ← hj])
theorem mb80 {n : Int} (h0 : 0 ≤ n) (h : n ≤ 10 ^ 80) : n.natAbs < MB := by
  have : (10 : Int) ^ 80 < 2 ^ 270 := by decide +kernel
  have e : ((2 ^ 270 : Nat) : Int) = (2 : Int) ^ 270 := by simp
  show n.natAbs < 2 ^ 270
  omega
abbrev SzC (ns : List Int) : Prop := ∀ n ∈ ns, n ≤ 10 ^ 80
theorem odds_b {ns : List Int} (ok : SzOk ns) (hB : SzC ns) : OddB MB ns.length (ns.map oddI) := by
  refine ⟨by simp, fun j hj => ?_, fun j => ?_, mb_pos⟩
  · have e : (ns.map oddI)[j]? = some (oddI ns[j]) := by rw [List.getElem?_map, List.getElem?_eq_getElem hj]; rfl
    rw [vf_at e]
    exact (oddI_ok (ok.one _ (List.getElem_mem hj))).2.2.1
  · by_cases hj : j < ns.length
    · have e : (ns.map oddI)[j]? = some (oddI ns[j]) := by rw [List.getElem?_map, List.getElem?_eq_getElem hj]; rfl
      rw [vf_at e]
      have o := oddI_ok (ok.one _ (List.getElem_mem hj))
      exact mb80 (by omega) (Int.le_trans o.2.2.2 (hB _ (List.getElem_mem hj)))
    · rw [vf_ge (by simp; omega)]
      exact mb_pos
theorem diff_len {a b : List Int} {n : Nat} (h1 : a.length = n) (h2 : b.length = n) : (diffL a b).length = n := by simp [diffL, h1, h2]
theorem diff_vf {a b : List Int} (h : a.length = b.length) : vf (diffL a b) = fun i => vf a i - vf b i := by
  have e : diffL a b = axpy 1 a b := by
    unfold diffL axpy
    congr 1
    funext x y
    simp
  rw [e, axpy_vf h]
  funext i
  simp
theorem seat_vf {ns ps : List Int} (sk : SeatOk ns ps) (hB : SzC ns) (j : Nat) : 0 ≤ vf ps j ∧ (vf ps j).natAbs < MB ∧ vf ps j ≤ 10 ^ 80 := by
  by_cases hj : j < ps.length
  · have hn : ns[j]? = some (ns[j]'(by rw [← sk.len]; exact hj)) := List.getElem?_eq_getElem _
    have hp : ps[j]? = some ps[j] := List.getElem?_eq_getElem hj
    obtain ⟨a, b⟩ := sk.at hn hp
    rw [vf_at hp]
    have := hB _ (List.mem_of_getElem? hn)
    exact ⟨a, mb80 a (by omega), by omega⟩
  · rw [vf_ge (by omega)]
    exact ⟨Int.le_refl _, mb_pos, by decide⟩
theorem diff_b {ns ps qs : List Int} (sp : SeatOk ns ps) (sq : SeatOk ns qs) (hB : SzC ns) : RowB MB ns.length 0 (diffL ps qs) := by
  have lp := sp.len
  have lq := sq.len
  refine ⟨diff_len lp lq, fun j hj => absurd hj (by omega), fun j => ?_⟩
  rw [diff_vf (by omega)]
  obtain ⟨a, b, c⟩ := seat_vf sp hB j
  obtain ⟨d, e, f⟩ := seat_vf sq hB j
  show (vf ps j - vf qs j).natAbs < MB
  omega
theorem rows_b {ns : List Int} {tss : List (List Int)} (hB : SzC ns) (ne : tss ≠ []) (sks : ∀ ts ∈ tss, SeatOk ns ts) : ∀ r ∈ rowsF (tss.headD []) tss.tail, RowB MB ns.length 0 r := by
  intro r hr
  obtain ⟨t, ht, rfl⟩ := List.mem_map.mp hr
  cases tss with
  | nil => exact absurd rfl ne
  | cons t0 ts => exact diff_b (sks t (List.mem_cons_of_mem _ ht)) (sks t0 List.mem_cons_self) hB
/-- what the law of a basis needs -/
theorem shift_ok {ns : List Int} {tss : List (List Int)} (ok : SzOk ns) (hB : SzC ns) (ne : tss ≠ []) (sks : ∀ ts ∈ tss, SeatOk ns ts) :
    (shiftB ns tss).length = ns.length ∧ Tri ns.length (shiftB ns tss) ∧ (∀ v, Lat (rowsG (shiftB ns tss)) v ↔ Lat (shG (rowsF (tss.headD []) tss.tail) 0 ns.length (ns.map oddI)) v) ∧ ∀ r ∈ shiftB ns tss, RowB MB ns.length 0 r := by
  have o := odds_b ok hB
  have rb := rows_b hB ne sks
  obtain ⟨a, b, c⟩ := basis_ok o.len (nz_of o) fun r hr => (rb r hr).len
  exact ⟨a, b, c, basis_b o rb⟩

section
variable {P : Program} {w : World} {K : PySem.W.Frag} {mg : Str → Option Value} {base : Heap}
def sp_odd_part : Sp := fun vs H Q _ => ∃ (n : Int), vs = [.int n] ∧ 1 ≤ n ∧ n ≤ 10 ^ 80 ∧ Q (.int (oddI n)) H
theorem ok_odd_part (T : TX K mg) : FnOk P w K mg base CX0 1 T.f_odd_part T.fd_odd_part ["number"] sp_odd_part := by
  refine T.F_odd_part.ok sc_odd_part (fun vs H Q E h => ?_) (fun cdv A outer s H vs Q E hr h => ?_)
  · obtain ⟨n, rfl, _⟩ := h
    rfl
  · obtain ⟨n, rfl, n1, n2, k⟩ := h
    refine ⟨_, (pss_one (ps_ret (pe_op op_fdivW (pv 0) (pe_op op_and (pv 0) (pe_un un_neg (pv 0)))))), ?_⟩
    obtain ⟨⟨j, hj⟩, o1, o2, o3⟩ := oddI_ok n1
    have ea : oddI n = 2 * (oddI n / 2) + 1 := by omega
    have eb : Builtin.bitAnd n (-n) = 2 ^ j := by
      have := PySem.W.kbt_low j (oddI n / 2)
      rw [← ea, ← hj] at this
      exact this
    have p0 : (0 : Int) < 2 ^ j := Int.pow_pos (by decide)
    have pl : (2 : Int) ^ j ≤ n := by
      have := Int.mul_le_mul_of_nonneg_left (show 1 ≤ oddI n by omega) (show 0 ≤ (2 : Int) ^ j by omega)
      omega
    refine ⟨_, rfl, _, rfl, _, rfl, _, rfl, _, _, rfl, rfl, _, _, rfl, rfl, ?_, ?_⟩
    · rw [eb]
      exact wide_div (by omega) (mb80 (by omega) (by omega)) (by decide) (by decide)
    · dsimp only
      have e2 : n / Builtin.bitAnd n (-n) = oddI n := by
        rw [eb]
        conv => lhs; lhs; rw [hj]
        exact Int.mul_ediv_cancel_left _ (by omega)
      rw [e2]
      exact k
def sp_shift_basis : Sp := fun vs H Q _ => ∃ (t : Addr) (q : Bool × Addr) (ns : List Int) (tss : List (List Int)), vs = [.ref t, .ref q.2] ∧ H t = some (.tup (ns.map V.int)) ∧ SzOk ns ∧ SzC ns ∧ RowsQ H q tss ∧ tss ≠ [] ∧ tss.length ≤ 1000 ∧ (∀ ts ∈ tss, SeatOk ns ts) ∧
  ∀ D H2, Ex H H2 → H D = none → LAt H2 D (shiftB ns tss) → Q (.ref D) H2
theorem ok_shift_basis (T : TX K mg) : FnOk P w K mg base CX0 2 T.f_shift_basis T.fd_shift_basis ["sizes", "targets"] sp_shift_basis := by
  refine T.F_shift_basis.ok sc_shift_basis (fun vs H Q E h => ?_) (fun cdv A outer s H vs Q E hr h => ?_)
  · obtain ⟨t, q, ns, tss, rfl, _⟩ := h
    rfl
  · obtain ⟨t, ⟨bq, q⟩, ns, tss, rfl, ht, ok, hB, ⟨xs, hq, rr⟩, ne, lt, sks, k⟩ := h
    refine ⟨_, (pss_cons (ps_setLc (own := [("size", 11)]) (g := (gName 11)) (i := 2) rfl sc_shift_basis.nd rfl rfl (sw_true rfl rfl rfl (by decide +kernel)) (pi_tup (pv 0)) (blkOk_by (N := N_shift_basis) (sc := defScope s_shift_basis) (by decide +kernel)) (fun _ _ _ _ _ => (pg_name (i := 11) sc_shift_basis.nd rfl (Or.inl rfl))) (fun _ _ _ _ _ => pts_nil) (fun _ _ _ _ _ => (pe_call (ok_odd_part T) hr rfl T.m_odd_part T.F_odd_part.kp T.b_odd_part .nil pass0 (pa_cons (pv 11) pa_nil)))) (pss_cons (ps_setLc (own := [("seat", 12)]) (g := (gName 12)) (i := 3) rfl sc_shift_basis.nd rfl rfl (sw_true rfl rfl rfl (by decide +kernel)) (pi_seq (pe_slice (r := rSlQ) sl_q (pv 1) (po_some pe_int) po_none)) (blkOk_by (N := N_shift_basis) (sc := defScope s_shift_basis) (by decide +kernel)) (fun _ _ _ _ _ => (pg_name (i := 12) sc_shift_basis.nd rfl (Or.inl rfl))) (fun _ _ _ _ _ => pts_nil) (fun _ _ _ _ _ => (pe_lc (wi := CZ.iZ K [true, true] _) (own := [("one", 13), ("other", 14)]) (g := (gTup K 2 (gCons (gName 13) (gCons (gName 14) gNil)))) rfl sc_shift_basis.nd (CZ.pi_z2s (fl := [true, true]) rfl (by rfl) T.z_zip (pa_cons (pv 12) (pa_cons (pe_ix (r := rIxQ K) ix_q (pv 1) pe_int (fun _ _ => rfl)) pa_nil))) (blkOk_by (N := N_shift_basis) rfl) (fun _ _ _ _ _ => (pg_tup rfl (pgs_cons (pg_name (i := 13) sc_shift_basis.nd rfl (Or.inl rfl)) (pgs_cons (pg_name (i := 14) sc_shift_basis.nd rfl (Or.inl rfl)) pgs_nil)))) (fun _ _ _ _ _ => pts_nil) (fun _ _ _ _ _ => (pe_op op_sub (pv 13) (pv 14)))))) (pss_cons (ps_set (i := 4) sc_shift_basis.nd rfl (Or.inl rfl) (pe_lst pa_nil)) (pss_cons (ps_for PassesOwn.never rfl (CE.pi_e rfl T.z_enumerate (pa_cons (pv 2) pa_nil)) (pg_tup rfl (pgs_cons (pg_name (i := 5) sc_shift_basis.nd rfl (Or.inr rfl)) (pgs_cons (pg_name (i := 6) sc_shift_basis.nd rfl (Or.inr rfl)) pgs_nil))) (pss_cons (ps_par (i := 7) (j := 8) rfl sc_shift_basis.nd rfl rfl (by decide) rfl rfl (pa_cons (pe_lc (own := [("index", 15)]) (g := (gName 15)) rfl sc_shift_basis.nd (pi_range1 rfl T.z_range (pa_cons (pe_callB call_len_seq (by rfl) T.z_len (by decide +kernel) (pa_cons (pv 0) pa_nil)) pa_nil)) (blkOk_by (N := N_shift_basis) (sc := defScope s_shift_basis) (by decide +kernel)) (fun _ _ _ _ _ => (pg_name (i := 15) sc_shift_basis.nd rfl (Or.inl rfl))) (fun _ _ _ _ _ => pts_nil) (fun _ _ _ _ _ => (pe_op op_mulI (pv 6) (pe_callTy call_int1 (by rfl) T.z_int (by decide +kernel) (pa_cons (pe_cmpR op_eq (pv 15) (pv 5) (nomark _)) pa_nil))))) (pa_cons (pe_lst pa_nil) pa_nil)) (by rfl)) (pss_cons (ps_for PassesOwn.never rfl (pi_list (pv 3)) (pg_name (i := 9) sc_shift_basis.nd rfl (Or.inl rfl)) (pss_cons (ps_asg (pe_call (ok_combined T) hr rfl T.m_combined T.F_combined.kp T.b_combined .nil pass0 (pa_cons (pv 7) (pa_cons (pv 9) (pa_cons (pv 5) pa_nil)))) (pg_tup rfl (pgs_cons (pg_name (i := 7) sc_shift_basis.nd rfl (Or.inl rfl)) (pgs_cons (pg_name (i := 10) sc_shift_basis.nd rfl (Or.inl rfl)) pgs_nil)))) (pss_cons (ps_expr (pe_bm PySem.F.plainAttrs_list PySem.F.slot_list_append PySem.F.type_list_append mt_append (pv 8) (pa_cons (pe_call (ok_reduced T) hr rfl T.m_reduced T.F_reduced.kp T.b_reduced .nil pass0 (pa_cons (pv 10) (pa_cons (pv 5) (pa_cons (pv 2) pa_nil)))) pa_nil))) (pss_one (ps_set (i := 7) sc_shift_basis.nd rfl (Or.inl rfl) (pe_call (ok_reduced T) hr rfl T.m_reduced T.F_reduced.kp T.b_reduced .nil pass0 (pa_cons (pv 7) (pa_cons (pv 5) (pa_cons (pv 2) pa_nil))))))))) (pss_cons (ps_expr (pe_bm PySem.F.plainAttrs_list PySem.F.slot_list_append PySem.F.type_list_append mt_append (pv 4) (pa_cons (pe_ifExp (pt_cmpR op_gt (pe_ix ix_list (pv 7) (pv 5) (fun _ _ => rfl)) pe_int (nomark _)) (pv 7) (pe_lc (own := [("one", 13)]) (g := (gName 13)) rfl sc_shift_basis.nd (pi_list (pv 7)) (blkOk_by (N := N_shift_basis) (sc := defScope s_shift_basis) (by decide +kernel)) (fun _ _ _ _ _ => (pg_name (i := 13) sc_shift_basis.nd rfl (Or.inl rfl))) (fun _ _ _ _ _ => pts_nil) (fun _ _ _ _ _ => (pe_un un_neg (pv 13))))) pa_nil))) (pss_one (ps_set (i := 3) sc_shift_basis.nd rfl (Or.inl rfl) (pv 8))))))) (pss_one (ps_ret (pv 4))))))), ?_⟩
    have n4 := ok.le
    have npos : 1 ≤ ns.length := List.length_pos_iff.mpr ok.pos
    have ob := odds_b ok hB
    have rb := rows_b hB ne sks
    have lx := rr.len
    -- odds
    refine ⟨_, rfl, t, rfl, ⟨_, SqT.of ht⟩, fun D1 hD1 => ?_⟩
    refine lc_vals (walk_tup (xs := ns.map V.int)) ((ns.map oddI).map V.int) (by simp) (by rw [List.length_map]; omega) hD1 (fun H3 e => SqT.of (e _ _ ht)) ?_ gmono_name ?_
    · rintro i x _ H3 R hi e ⟨rfl, hx⟩ kk
      obtain ⟨n, hn, rfl⟩ := map_get hx
      exact ⟨rfl, _, rfl, n, rfl, ok.one n (List.mem_of_getElem? hn), hB n (List.mem_of_getElem? hn), kk _ _ exr (by rw [List.getElem?_map, List.getElem?_map, hn]; rfl)⟩
    intro H1 e1 hD1'
    obtain ⟨t0, ts, rfl⟩ : ∃ t0 ts, tss = t0 :: ts := by
      cases tss with
      | nil => exact absurd rfl ne
      | cons a b => exact ⟨a, b, rfl⟩
    obtain ⟨x0, xs, rfl⟩ : ∃ x0 xs', xs = x0 :: xs' := by
      cases xs with
      | nil => cases rr
      | cons a b => exact ⟨a, b, rfl⟩
    obtain ⟨h0, r0, eh0, rfl, hr0⟩ := rr.get (i := 0) rfl
    obtain rfl : t0 = h0 := Option.some.inj eh0
    have rt : RowsR H xs ts := by
      cases rr with
      | cons _ h => exact h
    have sk0 := sks t0 List.mem_cons_self
    -- rows
    refine ⟨_, rfl, 1, rfl, (bq, q), _, rfl, hq.mono e1, fun sl H2 e2 hsl => ?_⟩
    rw [show (1 : Int) = ((1 : Nat) : Int) from rfl, cut_from] at hsl
    have hsl2 : SqH H2 (bq, sl) xs := hsl
    have e02 : Ex H H2 := ext e1 e2
    refine ⟨(bq, sl), rfl, ⟨_, hsl2.sq⟩, fun D2 hD2 => ?_⟩
    refine lc_it (walk_seq (xs := xs)) (fun i H3 => Ex H2 H3 ∧ LAt H3 D2 ((ts.take i).map fun t => diffL t t0)) ⟨exn hD2, _, upd_same, .nil⟩ (fun i H3 _ p => (hsl2.mono p.1).sq) ?_ ?_
    · rintro i x _ H3 hi ⟨e3, la⟩ ⟨rfl, hx⟩
      obtain ⟨hs, r, hhs, rfl, hrr⟩ := rt.get hx
      have sk := sks hs (List.mem_cons_of_mem _ (List.mem_of_getElem? hhs))
      have ld := diff_len sk.len sk0.len
      have e03 : Ex H H3 := ext e02 e3
      refine ⟨rfl, _, rfl, _, rfl, (bq, q), _, 0, _, rfl, rfl, (hq.mono e03).sq, ?_, [r, r0], rfl, rfl, all2 (sqT (e03 _ _ hrr)) (sqT (e03 _ _ hr0)), fun D3 hD3 => ?_⟩
      · unfold atI ixN
        rw [if_pos (Int.le_refl 0), if_pos (by rw [List.length_cons]; omega)]
        rfl
      refine lc_vals (CZ.walk_rows (xss := [hs.map V.int, t0.map V.int]) (n := ns.length) (lens2 (by rw [List.length_map, sk.len]) (by rw [List.length_map, sk0.len]))) ((diffL hs t0).map V.int) (by rw [List.length_map, ld]) (by omega) hD3 (fun H4 e => .cons (sqT (e _ _ (e03 _ _ hrr))) (.cons (sqT (e _ _ (e03 _ _ hr0))) .nil)) ?_ (gmono_tup (gmono_cons gmono_name (gmono_cons gmono_name gmono_nil))) ?_
      · intro j y H4 H5 R hj e yy kk
        obtain ⟨Ta, p, d, rfl, hT, rfl, hp, hd⟩ := yints2 yy
        refine ⟨Ta, _, rfl, SqT.of upd_same, rfl, _, _, rfl, _, _, rfl, rfl, ?_⟩
        refine ⟨rfl, _, rfl, _, rfl, _, _, rfl, rfl, ?_⟩
        refine kk _ _ (exn hT) ?_
        rw [List.getElem?_map]
        unfold diffL
        rw [List.getElem?_zipWith, hp, hd]
        rfl
      · intro H4 e4 hD4
        have nd : diffL hs t0 ≠ [] := fun z => by rw [z] at ld; simp at ld; omega
        obtain ⟨acc, p1, p2, p3⟩ := lrows_push (la.mono e4) hD4 nd
        refine ⟨acc, p1, ?_, ex_upd (ext e3 e4) hD2, ?_⟩
        · rw [p2, List.length_map, List.length_take]
          exact Nat.lt_of_le_of_lt (show _ ≤ 1000 by rw [List.length_cons] at lt; omega) (by decide)
        · rw [take_more hhs, List.map_append]
          exact p3
    rintro H3 ⟨e3, la3⟩
    have lxs := rt.len
    rw [lxs, List.take_length] at la3
    (repeat (first | refine ⟨rfl, ?_⟩ | refine ⟨_, rfl, ?_⟩ | refine ⟨_, _, rfl, rfl, ?_⟩ | refine ⟨_, _, rfl, ?_⟩ | refine ⟨slen rfl, ?_⟩ | refine ⟨⟨by decide, by decide +kernel⟩, ?_⟩ | refine ⟨⟨by decide, by decide, by decide⟩, ?_⟩ | refine ⟨(by show (0 : Int) < _; first | decide | assumption | omega), ?_⟩ | refine ⟨mul_ok (by first | exact .inr (by decide) | exact .inl (by decide)), ?_⟩))
    (intro Bs nBs; generalize hGBs : upd _ Bs _ = H4; have eH4 := exG hGBs nBs; have hBs := atG hGBs; clear hGBs)
    have e04 : Ex H H4 := ext e02 (ext e3 eH4)
    have hod : IL H4 D1 (ns.map oddI) := eH4 _ _ (e3 _ _ (e2 _ _ hD1'))
    have nB0 : H Bs = none := Evl.fresh_back e02 (Evl.fresh_back e3 nBs)
    refine ⟨_, rfl, (false, D1), rfl, ⟨_, sqL hod⟩, ?_⟩
    have lo : (ns.map oddI).length = ns.length := by simp
    have nD1R : ns.map oddI ≠ [] := fun z => by have := congrArg List.length z; simp at this; exact ok.pos this
    have nRB : D2 ≠ Bs := by
      obtain ⟨ys, g1, _⟩ := la3
      exact ne_of_none g1 nBs
    have lR : (rowsF t0 ts).length = ts.length := by simp [rowsF]
    have rb : ∀ r ∈ rowsF t0 ts, RowB MB ns.length 0 r := rb
    refine for_it (CE.walk_e (xs := (ns.map oddI).map V.int)) (fun c σ Hx => ∃ (R : Addr) (y5 y6 y7 y8 y9 y10 y11 y12 y13 y14 y15 : Option V), σ = [some (.ref t), some (.ref q), some (.ref D1), some (.ref R), some (.ref Bs), y5, y6, y7, y8, y9, y10, y11, y12, y13, y14, y15] ∧ Ex H Hx ∧ IL Hx D1 (ns.map oddI) ∧ LAt Hx Bs ((List.range c).foldl (nextF (ns.map oddI)) ([], rowsF t0 ts)).1 ∧ LAt Hx R ((List.range c).foldl (nextF (ns.map oddI)) ([], rowsF t0 ts)).2 ∧ R ≠ Bs) ⟨D2, _, _, _, _, _, _, _, _, _, _, _, rfl, e04, hod, ⟨_, hBs, .nil⟩, la3.mono eH4, nRB⟩ (fun c σ Hx _ ⟨_, _, _, _, _, _, _, _, _, _, _, _, _, _, h, _⟩ => sqL h) ?_ ?_
    · rintro c x σ H5 H6 hi ⟨R, y5, y6, y7, y8, y9, y10, y11, y12, y13, y14, y15, rfl, e5, ho5, lb5, lr5, nRB5⟩ ⟨Ta, x1, x2, rfl, hT, rfl, hx1, hx2⟩
      cases hx1
      obtain ⟨od, hod1, rfl⟩ := map_get hx2
      have cn : c < ns.length := by
        obtain ⟨h, _⟩ := List.getElem?_eq_some_iff.mp hod1
        rw [lo] at h
        exact h
      have eod : od = vf (ns.map oddI) c := (vf_at hod1).symm
      obtain ⟨sb1, sb2, sb3, sb4⟩ := next_b ob rb c (by omega)
      generalize hst : (List.range c).foldl (nextF (ns.map oddI)) ([], rowsF t0 ts) = st at lb5 lr5 sb1 sb2 sb3 sb4
      have sb4' : st.2.length = ts.length := sb4.trans lR
      have e6 := exn (o := .tup [.int (c : Nat), .int od]) hT
      refine ⟨Ta, _, rfl, SqT.of upd_same, rfl, _, _, rfl, _, _, rfl, rfl, ?_⟩
      have e6H := ext e5 e6
      have ho6 : IL _ D1 (ns.map oddI) := e6 _ _ ho5
      have lb6 := lb5.mono e6
      have lr6 := lr5.mono e6
      generalize upd H5 Ta (.tup [.int (c : Nat), .int od]) = H6 at e6H ho6 lb6 lr6
      -- the pivot
      (repeat (first | refine ⟨rfl, ?_⟩ | refine ⟨_, rfl, ?_⟩ | refine ⟨_, _, rfl, rfl, ?_⟩ | refine ⟨_, _, rfl, ?_⟩ | refine ⟨slen rfl, ?_⟩ | refine ⟨⟨by decide, by decide +kernel⟩, ?_⟩ | refine ⟨⟨by decide, by decide, by decide⟩, ?_⟩ | refine ⟨(by show (0 : Int) < _; first | decide | assumption | omega), ?_⟩ | refine ⟨mul_ok (by first | exact .inr (by decide) | exact .inl (by decide)), ?_⟩))
      refine ⟨t, _, rfl, .inr (SqT.of (e6H _ _ ht)), ?_⟩
      refine ⟨_, rfl, by rw [List.length_map]; omega, by rw [List.length_map]; omega, fun D3 hD3 => ?_⟩
      refine lc_vals walk_range ((unitL (ns.map oddI).length c od).map V.int) (by simp [unitL]) (by rw [List.length_map]; omega) hD3 (fun _ _ => True.intro) ?_ gmono_name ?_
      · rintro j x _ H7 RR hj e7 ⟨rfl, hx⟩ kk
        obtain rfl : x = .int (j : Int) := hx.trans (congrArg V.int (Int.zero_add _))
        have hj2 : j < ns.length := by
          have : j < ((ns.map V.int).length : Int).toNat := hj
          rw [List.length_map] at this
          omega
        refine ⟨rfl, _, rfl, _, rfl, _, rfl, rfl, .inr ⟨_, rfl, _, _, rfl, rfl, mul_ok (.inr (by split <;> decide)), ?_⟩⟩
        refine kk _ _ exr ?_
        unfold unitL
        rw [List.getElem?_map, List.getElem?_map, List.getElem?_range (by rw [lo]; exact hj2)]
        show some (V.int (if j = c then od else 0)) = some (V.int (od * if decide (V.int (j : Int) = V.int (c : Int)) = true then 1 else 0))
        by_cases e : j = c
        · subst e
          simp
        · have : ¬ (j : Int) = (c : Int) := by omega
          simp [e, this]
      intro H7 e7 hD7
      (repeat (first | refine ⟨rfl, ?_⟩ | refine ⟨_, rfl, ?_⟩ | refine ⟨_, _, rfl, rfl, ?_⟩ | refine ⟨_, _, rfl, ?_⟩ | refine ⟨slen rfl, ?_⟩ | refine ⟨⟨by decide, by decide +kernel⟩, ?_⟩ | refine ⟨⟨by decide, by decide, by decide⟩, ?_⟩ | refine ⟨(by show (0 : Int) < _; first | decide | assumption | omega), ?_⟩ | refine ⟨mul_ok (by first | exact .inr (by decide) | exact .inl (by decide)), ?_⟩))
      (intro O nO; generalize hGO : upd _ O _ = H8; have eH8 := exG hGO nO; have hO := atG hGO; clear hGO)
      refine ⟨_, _, rfl, ?_⟩
      have e8 : Ex H6 H8 := ext e7 eH8
      have hp8 : IL H8 D3 (unitL (ns.map oddI).length c (vf (ns.map oddI) c)) := by
        rw [← eod]
        exact eH8 _ _ hD7
      obtain ⟨xr, hR8, rR8⟩ := lr6.mono e8
      have lb8 := lb6.mono e8
      have nOB : O ≠ Bs := by
        obtain ⟨ys, g1, _⟩ := lb6.mono e7
        exact (ne_of_none g1 nO).symm
      have nOR : O ≠ R := by
        obtain ⟨ys, g1, _⟩ := lr6.mono e7
        exact (ne_of_none g1 nO).symm
      have nO0 : H O = none := Evl.fresh_back e6H (Evl.fresh_back e7 nO)
      have lxr := rR8.len
      refine ⟨_, rfl, R, rfl, ⟨_, SqL.of hR8⟩, ?_⟩
      refine for_it (walk_list (xs := xr)) (fun j σ Hx => ∃ (Pa : Addr) (y9 y10 y11 y12 y13 y14 y15 : Option V), σ = [some (.ref t), some (.ref q), some (.ref D1), some (.ref R), some (.ref Bs), some (.int (c : Nat)), some (.int od), some (.ref Pa), some (.ref O), y9, y10, y11, y12, y13, y14, y15] ∧ Ex H Hx ∧ IL Hx D1 (ns.map oddI) ∧ LAt Hx Bs st.1 ∧ Hx R = some (.lst xr) ∧ LRows Hx xr st.2 ∧ IL Hx Pa ((st.2.take j).foldl (pivF c (ns.map oddI)) (unitL (ns.map oddI).length c (vf (ns.map oddI) c), [])).1 ∧ LAt Hx O ((st.2.take j).foldl (pivF c (ns.map oddI)) (unitL (ns.map oddI).length c (vf (ns.map oddI) c), [])).2) ⟨D3, _, _, _, _, _, _, _, rfl, ext e6H e8, e8 _ _ ho6, lb8, hR8, rR8, hp8, ⟨_, hO, .nil⟩⟩ (fun j σ Hx _ ⟨_, _, _, _, _, _, _, _, _, _, _, _, h, _⟩ => SqL.of h) ?_ ?_
      · rintro j x σ _ H9 hj ⟨Pa, y9, y10, y11, y12, y13, y14, y15, rfl, e9, ho9, lb9, hR9, rR9, hp9, lO9⟩ ⟨rfl, hx⟩
        obtain ⟨row, r, hrow, rfl, hr9, nr9⟩ := rR9.get hx
        have rbb := sb3 row (List.mem_of_getElem? hrow)
        obtain ⟨fb1, fb2, fb3⟩ := fold_b ob (st.2.take j) (unitL (ns.map oddI).length c (vf (ns.map oddI) c)) [] (fun r h => sb3 r (List.mem_of_mem_take h)) (unit_b ob cn) (by simp)
        have estep : (st.2.take (j + 1)).foldl (pivF c (ns.map oddI)) (unitL (ns.map oddI).length c (vf (ns.map oddI) c), []) = pivF c (ns.map oddI) ((st.2.take j).foldl (pivF c (ns.map oddI)) (unitL (ns.map oddI).length c (vf (ns.map oddI) c), [])) row := by
          rw [take_more hrow, List.foldl_append]
          rfl
        generalize (st.2.take j).foldl (pivF c (ns.map oddI)) (unitL (ns.map oddI).length c (vf (ns.map oddI) c), []) = pq at hp9 lO9 fb1 fb2 fb3 estep
        obtain ⟨pp, os⟩ := pq
        obtain ⟨l1, l2, _⟩ := comb_len (c := c) fb1.len rbb.len
        refine ⟨_, rfl, _, rfl, _, rfl, Pa, r, c, ns.length, pp, row, rfl, hp9, hr9, fb1.len, rbb.len, n4, cn, EuB.start fb1.small rbb.small, fun tp a2 b2 Ha ea htp ha2 hb2 => ?_⟩
        refine ⟨tp, _, rfl, SqT.of htp, rfl, _, _, rfl, _, _, rfl, rfl, ?_⟩
        obtain ⟨ys, hOa, rOa⟩ := lO9.mono ea
        refine ⟨_, rfl, .inl ⟨rfl, _, SqL.of hOa⟩, _, rfl, _, rfl, _, rfl, b2, D1, c, ns.length, _, _, rfl, hb2, ea _ _ ho9, l2, lo, n4, ob.pos, fun q2 Hb eb nq2 hq2 => ?_⟩
        have nr2 : redF c (ns.map oddI) (combF c pp row).2 ≠ [] := red_ne lo l2 (by omega)
        have eab : Ex H9 Hb := ext ea eb
        have lOb := lO9.mono eab
        obtain ⟨acc, p1, p2, p3⟩ := lrows_push lOb hq2 nr2
        refine ⟨O, _, _, rfl, rfl, p1, ?_, ?_⟩
        · have fb3' : os.length = 0 + (st.2.take j).length := fb3
          rw [p2, fb3', List.length_take]
          exact Nat.lt_of_le_of_lt (show _ ≤ 1000 by rw [List.length_cons] at lt; omega) (by decide)
        have ha2b : IL Hb a2 (combF c pp row).1 := eb _ _ ha2
        have nc1 : (combF c pp row).1 ≠ [] := fun z => by rw [z] at l1; exact absurd l1 (by simp; omega)
        refine ⟨_, rfl, _, rfl, _, rfl, a2, D1, c, ns.length, _, _, rfl, lOb.row ha2b nc1, lOb.row (eab _ _ ho9) nD1R, l1, lo, n4, ob.pos, fun q3 Hc ec nq3 hq3 => ?_⟩
        have hRb : LAt Hb R st.2 := ⟨xr, eab _ _ hR9, rR9.mono eab⟩
        obtain ⟨xr2, hR2, rR2⟩ := lOb.other (zs := acc ++ [.ref q2]) hRb nOR.symm
        obtain rfl : xr2 = xr := by
          have h1 : (upd Hb O (.lst (acc ++ [.ref q2]))) R = some (.lst xr) := by rw [upd_ne nOR.symm]; exact eab _ _ hR9
          rw [h1] at hR2
          injection hR2 with hR2
          injection hR2 with hR2
          exact hR2.symm
        refine ⟨q3, _, _, _, _, _, _, _, rfl, ext (ex_upd (ext e9 eab) nO0) ec, ec _ _ (lOb.row (eab _ _ ho9) nD1R), (lOb.other (lb9.mono eab) nOB.symm).mono ec, ec _ _ hR2, rR2.mono ec, ?_, ?_⟩
        · rw [estep]
          exact hq3
        · rw [estep]
          exact p3.mono ec
      · rintro σ H9 ⟨Pa, y9, y10, y11, y12, y13, y14, y15, rfl, e9, ho9, lb9, hR9, rR9, hp9, lO9⟩
        rw [lxr, List.take_length] at hp9 lO9
        obtain ⟨cb1, cb2, cb3⟩ := col_b ob cn sb3
        have hp : IL H9 Pa (colF (ns.map oddI) c st.2).1 := hp9
        have lO : LAt H9 O (colF (ns.map oddI) c st.2).2 := lO9
        clear hp9 lO9
        have enext : (List.range (c + 1)).foldl (nextF (ns.map oddI)) ([], rowsF t0 ts) = (st.1 ++ [posF c (colF (ns.map oddI) c st.2).1], (colF (ns.map oddI) c st.2).2) := by
          rw [List.range_succ, List.foldl_append, hst]
          rfl
        obtain ⟨zs, hB9, rB9⟩ := id lb9
        have fin : ∀ (u : Addr) (Hx : Hp) (y9 y10 y11 y12 y13 y14 y15 : Option V), Ex H9 Hx → IL Hx u (posF c (colF (ns.map oddI) c st.2).1) → ∃ acc, Hx Bs = some (.lst acc) ∧ acc.length < sizeLine ∧ Ex H (upd Hx Bs (.lst (acc ++ [.ref u]))) ∧ IL (upd Hx Bs (.lst (acc ++ [.ref u]))) D1 (ns.map oddI) ∧ LAt (upd Hx Bs (.lst (acc ++ [.ref u]))) Bs ((List.range (c + 1)).foldl (nextF (ns.map oddI)) ([], rowsF t0 ts)).1 ∧ LAt (upd Hx Bs (.lst (acc ++ [.ref u]))) O ((List.range (c + 1)).foldl (nextF (ns.map oddI)) ([], rowsF t0 ts)).2 := fun u Hx _ _ _ _ _ _ _ ex hu => by
          have np : posF c (colF (ns.map oddI) c st.2).1 ≠ [] := fun z => by
            have := congrArg List.length z
            rw [pos_len, cb1.len] at this
            have this2 : ns.length = 0 := this
            omega
          have lbx := lb9.mono ex
          obtain ⟨acc, p1, p2, p3⟩ := lrows_push lbx hu np
          refine ⟨acc, p1, ?_, ex_upd (ext e9 ex) nB0, lbx.row (ex _ _ ho9) nD1R, ?_, ?_⟩
          · rw [p2, sb1]
            exact Nat.lt_of_le_of_lt (show c ≤ 4 by omega) (by decide)
          · rw [enext]
            exact p3
          · rw [enext]
            exact lbx.other (lO.mono ex) nOB
        refine ⟨_, rfl, .inl ⟨rfl, _, SqL.of hB9⟩, ?_⟩
        refine ⟨_, rfl, _, rfl, Pa, _, _, _, rfl, rfl, SqL.of hp, atI_vf (by rw [cb1.len]; exact cn), _, _, rfl, rfl, _, rfl, ?_⟩
        by_cases hpos : 0 < vf (colF (ns.map oddI) c st.2).1 c
        · refine itt (decide_eq_true hpos) ?_
          have epos : posF c (colF (ns.map oddI) c st.2).1 = (colF (ns.map oddI) c st.2).1 := by unfold posF; rw [if_pos hpos]
          rw [← epos] at hp
          obtain ⟨acc, q1, q2, q3, q4, q5, q6⟩ := fin Pa H9 none none none none none none none exr hp
          exact ⟨_, rfl, Bs, _, _, rfl, rfl, q1, q2, _, rfl, O, _, _, _, _, _, _, _, _, _, _, _, rfl, q3, q4, q5, q6, nOB⟩
        · refine itf (decide_eq_false hpos) ?_
          have epos : posF c (colF (ns.map oddI) c st.2).1 = (colF (ns.map oddI) c st.2).1.map fun x => -x := by unfold posF; rw [if_neg hpos]
          refine ⟨_, rfl, Pa, rfl, ⟨_, SqL.of hp⟩, fun D4 hD4 => ?_⟩
          refine lc_vals (walk_list (xs := (colF (ns.map oddI) c st.2).1.map V.int)) ((posF c (colF (ns.map oddI) c st.2).1).map V.int) (by rw [List.length_map, List.length_map, pos_len]) (by rw [List.length_map, cb1.len]; omega) hD4 (fun H3 e => SqL.of (e _ _ hp)) ?_ gmono_name ?_
          · rintro j x _ Ha RR hj ea ⟨rfl, hx⟩ kk
            obtain ⟨z, hz, rfl⟩ := map_get hx
            refine ⟨rfl, _, rfl, _, rfl, kk _ _ exr ?_⟩
            rw [epos, List.getElem?_map, List.getElem?_map, hz]
            rfl
          · intro Ha ea hDa
            obtain ⟨acc, q1, q2, q3, q4, q5, q6⟩ := fin D4 Ha none none none none none none none ea hDa
            exact ⟨Bs, _, _, rfl, rfl, q1, q2, _, rfl, O, _, _, _, _, _, _, _, _, _, _, _, rfl, q3, q4, q5, q6, nOB⟩
    · rintro σ H5 ⟨R, y5, y6, y7, y8, y9, y10, y11, y12, y13, y14, y15, rfl, e5, ho5, lb5, lr5, nRB5⟩
      rw [List.length_map, lo] at lb5
      refine ⟨_, rfl, k Bs H5 e5 nB0 ?_⟩
      show LAt H5 Bs (basisF (ns.map oddI) (rowsF t0 ts))
      unfold basisF
      rw [lo]
      exact lb5
end

theorem lget {rows : List (List Int)} {i : Nat} {r : List Int} (h : rows[i]? = some r) : rows.getD i [] = r := by rw [List.getD_eq_getElem?_getD, h]; rfl
def dpre (B : List (List Int)) : Nat → Int
  | 0 => 1
  | k + 1 => dpre B k * vf (B.getD k []) k
theorem dpre_all (B : List (List Int)) : ∀ k, k ≤ B.length → dpre B k * diagP k (B.drop k) = diagP 0 B
  | 0, _ => by rw [List.drop_zero]; show 1 * _ = _; rw [Int.one_mul]
  | k + 1, h => by
    have hd : B.drop k = B[k]'(by omega) :: B.drop (k + 1) := List.drop_eq_getElem_cons (by omega)
    have ih := dpre_all B k (by omega)
    rw [hd] at ih
    rw [← ih]
    show dpre B k * vf (B.getD k []) k * _ = dpre B k * (vf (B[k]'(by omega)) k * _)
    rw [lget (List.getElem?_eq_getElem (show k < B.length by omega)), Int.mul_assoc]
theorem dpre_full (B : List (List Int)) : dpre B B.length = diagP 0 B := by
  have := dpre_all B B.length (Nat.le_refl _)
  rw [List.drop_length] at this
  show dpre B B.length = _
  rw [← this]
  show _ = _ * 1
  rw [Int.mul_one]
theorem dpre_small {B : List (List Int)} {n : Nat} (hb : ∀ r ∈ B, RowB MB n 0 r) : ∀ k, (dpre B k).natAbs < 2 ^ (1 + 270 * k)
  | 0 => by show (1 : Int).natAbs < 2 ^ 1; decide
  | k + 1 => by
    show (dpre B k * vf (B.getD k []) k).natAbs < _
    have h1 := dpre_small hb k
    have h2 : (vf (B.getD k []) k).natAbs < 2 ^ 270 := by
      by_cases hk : k < B.length
      · rw [lget (List.getElem?_eq_getElem hk)]
        exact (hb _ (List.getElem_mem hk)).small k
      · rw [List.getD_eq_getElem?_getD, List.getElem?_eq_none (by omega)]
        show (vf [] k).natAbs < _
        rw [vf_nil]
        exact Nat.pos_of_neZero _
    have := wide_lt h1 h2
    rw [show 1 + 270 * (k + 1) = 1 + 270 * k + 270 by omega]
    exact this
/-- one step of an elimination stays small -/
theorem axpy_small {a : Nat} {q : Int} {v b : List Int} (l : v.length = b.length) (hv : ∀ j, (vf v j).natAbs < 2 ^ a) (hq : q.natAbs < 2 ^ a) (hb : ∀ j, (vf b j).natAbs < 2 ^ 270) (j : Nat) : (vf (axpy q v b) j).natAbs < 2 ^ (a + 271) := by
  rw [axpy_vf l]
  show (vf v j - q * vf b j).natAbs < _
  have h1 := wide_lt hq (hb j)
  have h2 := hv j
  have h3 : (2 : Nat) ^ (a + 271) = 2 ^ (a + 270) + 2 ^ (a + 270) := by
    rw [show a + 271 = a + 270 + 1 from rfl, Nat.pow_succ]
    omega
  have h4 : (2 : Nat) ^ a ≤ 2 ^ (a + 270) := Nat.pow_le_pow_right (by decide) (by omega)
  omega
theorem div_small {x y : Int} {a : Nat} (h : x.natAbs < 2 ^ a) (hy : 0 < y) : (x / y).natAbs < 2 ^ a := by
  refine Nat.lt_of_le_of_lt ?_ h
  have h1 := Int.mul_ediv_add_emod x y
  have h2 := Int.emod_nonneg x (show y ≠ 0 by omega)
  have h3 := Int.emod_lt_of_pos x hy
  rcases Int.lt_or_le x 0 with hx | hx
  · have h4 : x / y < 0 := Int.ediv_neg_of_neg_of_pos hx hy
    have h5 : x ≤ x / y := by
      have : y * (x / y) ≤ 1 * (x / y) := Int.mul_le_mul_of_nonpos_right (by omega) (by omega)
      have h6 : x - y < y * (x / y) := by omega
      have h7 : y * (x / y + 1) = y * (x / y) + y := by rw [Int.mul_add, Int.mul_one]
      rcases Int.lt_or_le (x / y) x with z | z
      · exfalso
        have h8 : x / y + 1 ≤ x := by omega
        have h9 : y * (x / y + 1) ≤ 1 * (x / y + 1) := Int.mul_le_mul_of_nonpos_right (by omega) (by omega)
        omega
      · exact z
    omega
  · have h4 : 0 ≤ x / y := Int.ediv_nonneg hx (by omega)
    have h5 : x / y ≤ x := Int.ediv_le_self y hx
    omega
theorem free_cons (i : Nat) (b : List Int) (B : List (List Int)) (v : List Int) : freeF i (b :: B) v = if vf v i % vf b i ≠ 0 then false else freeF (i + 1) B (axpy (vf v i / vf b i) v b) := rfl
section
variable {P : Program} {w : World} {K : PySem.W.Frag} {mg : Str → Option Value} {base : Heap}
def sp_diagonal_product : Sp := fun vs H Q _ => ∃ (D : Addr) (B : List (List Int)) (n : Nat), vs = [.ref D] ∧ LAt H D B ∧ B.length = n ∧ n ≤ 4 ∧ (∀ r ∈ B, RowB MB n 0 r) ∧ ∀ H2, Ex H H2 → Q (.int (diagP 0 B)) H2
theorem ok_diagonal_product (T : TX K mg) : FnOk P w K mg base CX0 1 T.f_diagonal_product T.fd_diagonal_product ["basis"] sp_diagonal_product := by
  refine T.F_diagonal_product.ok sc_diagonal_product (fun vs H Q E h => ?_) (fun cdv A outer s H vs Q E hr h => ?_)
  · obtain ⟨D, B, n, rfl, _⟩ := h
    rfl
  · obtain ⟨D, B, n, rfl, ⟨xs, hD, rr⟩, lB, n4, hb, k⟩ := h
    refine ⟨_, (pss_cons (ps_set (i := 1) sc_diagonal_product.nd rfl (Or.inl rfl) pe_int) (pss_cons (ps_for PassesOwn.never rfl (CE.pi_e rfl T.z_enumerate (pa_cons (pv 0) pa_nil)) (pg_tup rfl (pgs_cons (pg_name (i := 2) sc_diagonal_product.nd rfl (Or.inl rfl)) (pgs_cons (pg_name (i := 3) sc_diagonal_product.nd rfl (Or.inl rfl)) pgs_nil))) (pss_one (ps_set (i := 1) sc_diagonal_product.nd rfl (Or.inl rfl) (pe_op op_mulI (pv 1) (pe_ix ix_list (pv 3) (pv 2) (fun _ _ => rfl)))))) (pss_one (ps_ret (pv 1))))), ?_⟩
    have lx := rr.len
    refine ⟨_, rfl, (false, D), rfl, ⟨_, sqL hD⟩, ?_⟩
    refine for_it (CE.walk_e (xs := xs)) (fun i σ H3 => (∃ (y2 y3 : Option V), σ = [some (.ref D), some (.int (dpre B i)), y2, y3]) ∧ Ex H H3) ⟨⟨_, _, rfl⟩, exr⟩ (fun i σ H2 _ ⟨_, e⟩ => sqL (e _ _ hD)) ?_ ?_
    · rintro i x σ H3 H4 hi ⟨⟨y2, y3, rfl⟩, e3⟩ ⟨Ta, x1, x2, rfl, hT, rfl, hx1, hx2⟩
      cases hx1
      obtain ⟨hs, r, hhs, rfl, hr0, _⟩ := rr.get hx2
      have e4 : Ex H (upd H3 Ta (.tup [.int (i : Nat), .ref r])) := ext e3 (exn hT)
      have lh := (hb hs (List.mem_of_getElem? hhs)).len
      refine ⟨Ta, _, rfl, SqT.of upd_same, rfl, _, _, rfl, _, _, rfl, rfl, ?_⟩
      refine ⟨_, rfl, _, rfl, _, rfl, r, _, _, _, rfl, rfl, SqL.of (e4 _ _ hr0), atI_vf (by omega), _, _, rfl, rfl, ?_, ?_⟩
      · have h1 := dpre_small hb i
        have h2 : (vf hs i).natAbs < 2 ^ 270 := (hb hs (List.mem_of_getElem? hhs)).small i
        exact (wide_mul h1 h2 (by omega) (by decide) (by omega)).ok
      · refine ⟨⟨some (.int (i : Nat)), some (.ref r), ?_⟩, e4⟩
        show _ = [some (V.ref D), some (V.int (dpre B i * vf (B.getD i []) i)), _, _]
        rw [lget hhs]
        rfl
    · rintro σ H3 ⟨⟨y2, y3, rfl⟩, e3⟩
      refine ⟨_, rfl, ?_⟩
      rw [lx, dpre_full]
      exact k _ e3
def sp_is_free : Sp := fun vs H Q _ => ∃ (D V0 : Addr) (B : List (List Int)) (v : List Int) (n : Nat), vs = [.ref D, .ref V0] ∧ LAt H D B ∧ B.length = n ∧ n ≤ 4 ∧ Tri n B ∧ (∀ r ∈ B, RowB MB n 0 r) ∧ IL H V0 v ∧ v.length = n ∧ (∀ j, (vf v j).natAbs < 2 ^ 271) ∧ ∀ H2, Ex H H2 → Q (.bl (freeF 0 B v)) H2
theorem ok_is_free (T : TX K mg) : FnOk P w K mg base CX0 1 T.f_is_free T.fd_is_free ["basis", "vector"] sp_is_free := by
  refine T.F_is_free.ok sc_is_free (fun vs H Q E h => ?_) (fun cdv A outer s H vs Q E hr h => ?_)
  · obtain ⟨D, V0, B, v, n, rfl, _⟩ := h
    rfl
  · obtain ⟨D, V0, B, v, n, rfl, ⟨xs, hD, rr⟩, lB, n4, tri, hb, hv, lv, sv, k⟩ := h
    refine ⟨_, (pss_cons (ps_for PassesOwn.never rfl (CE.pi_e rfl T.z_enumerate (pa_cons (pv 0) pa_nil)) (pg_tup rfl (pgs_cons (pg_name (i := 2) sc_is_free.nd rfl (Or.inl rfl)) (pgs_cons (pg_name (i := 3) sc_is_free.nd rfl (Or.inl rfl)) pgs_nil))) (pss_cons (ps_if (pt_cmpR op_ne (pe_op op_mod (pe_ix ix_list (pv 1) (pv 2) (fun _ _ => rfl)) (pe_ix ix_list (pv 3) (pv 2) (fun _ _ => rfl))) pe_int (nomark _)) (pss_one (ps_ret pe_bl)) pss_nil) (pss_cons (ps_set (i := 4) sc_is_free.nd rfl (Or.inr rfl) (pe_op op_fdivW (pe_ix ix_list (pv 1) (pv 2) (fun _ _ => rfl)) (pe_ix ix_list (pv 3) (pv 2) (fun _ _ => rfl)))) (pss_one (ps_setLc (own := [("one", 5), ("other", 6)]) (g := (gTup K 2 (gCons (gName 5) (gCons (gName 6) gNil)))) (i := 1) rfl sc_is_free.nd rfl rfl (sw_true rfl rfl rfl (by decide +kernel)) (CZ.pi_z2s (fl := [false, false]) rfl (by rfl) T.z_zip (pa_cons (pv 1) (pa_cons (pv 3) pa_nil))) (blkOk_by (N := N_is_free) (sc := defScope s_is_free) (by decide +kernel)) (fun _ _ _ _ _ => (pg_tup rfl (pgs_cons (pg_name (i := 5) sc_is_free.nd rfl (Or.inl rfl)) (pgs_cons (pg_name (i := 6) sc_is_free.nd rfl (Or.inl rfl)) pgs_nil)))) (fun _ _ _ _ _ => pts_nil) (fun _ _ _ _ _ => (pe_op op_sub (pv 5) (pe_op op_mulI (pv 4) (pv 6))))))))) (pss_one (ps_ret pe_bl))), ?_⟩
    have lx := rr.len
    refine ⟨_, rfl, (false, D), rfl, ⟨_, sqL hD⟩, ?_⟩
    refine for_it (CE.walk_e (xs := xs)) (fun i σ H3 => ∃ (V1 : Addr) (u : List Int) (y2 y3 y4 y5 y6 : Option V), σ = [some (.ref D), some (.ref V1), y2, y3, y4, y5, y6] ∧ Ex H H3 ∧ IL H3 V1 u ∧ u.length = n ∧ (∀ j, (vf u j).natAbs < 2 ^ (271 * (i + 1))) ∧ freeF i (B.drop i) u = freeF 0 B v) ⟨V0, v, _, _, _, _, _, rfl, exr, hv, lv, sv, rfl⟩ (fun i σ H2 _ ⟨_, _, _, _, _, _, _, _, e, _⟩ => sqL (e _ _ hD)) ?_ ?_
    · rintro i x σ H3 H4 hi ⟨V1, u, y2, y3, y4, y5, y6, rfl, e3, hu, lu, su, ef⟩ ⟨Ta, x1, x2, rfl, hT, rfl, hx1, hx2⟩
      cases hx1
      obtain ⟨hs, r, hhs, rfl, hr0, _⟩ := rr.get hx2
      have hib : i < B.length := by
        rw [← lx]
        exact hi
      have e4 : Ex H (upd H3 Ta (.tup [.int (i : Nat), .ref r])) := ext e3 (exn hT)
      have hu4 : IL (upd H3 Ta (.tup [.int (i : Nat), .ref r])) V1 u := exn hT _ _ hu
      have rbb := hb hs (List.mem_of_getElem? hhs)
      have lh := rbb.len
      have pos := (tri i hs hhs).2.2
      have hd : B.drop i = hs :: B.drop (i + 1) := by
        rw [List.drop_eq_getElem_cons hib]
        congr 1
        exact Option.some.inj ((List.getElem?_eq_getElem hib).symm.trans hhs)
      rw [hd] at ef
      rw [free_cons] at ef
      have hr4 := e4 _ _ hr0
      refine ⟨Ta, _, rfl, SqT.of upd_same, rfl, _, _, rfl, _, _, rfl, rfl, ?_⟩
      generalize upd H3 Ta (.tup [.int (i : Nat), .ref r]) = H4 at e4 hu4 hr4
      refine ⟨_, rfl, _, rfl, V1, _, _, _, rfl, rfl, SqL.of hu4, atI_vf (by omega), _, rfl, _, rfl, r, _, _, _, rfl, rfl, SqL.of hr4, atI_vf (by omega), _, _, rfl, rfl, pos, rfl, _, rfl, ?_⟩
      by_cases hm : vf u i % vf hs i ≠ 0
      · rw [if_pos hm] at ef
        refine itt (by simp [hm]) ?_
        rw [← ef] at k
        exact k _ e4
      · rw [if_neg hm] at ef
        refine itf (by simpa using hm) ?_
        have sb : (vf hs i).natAbs < 2 ^ 270 := rbb.small i
        refine ⟨_, rfl, _, rfl, V1, _, _, _, rfl, rfl, SqL.of hu4, atI_vf (by omega), _, rfl, _, rfl, r, _, _, _, rfl, rfl, SqL.of hr4, atI_vf (by omega), _, _, rfl, rfl, wide_div pos sb (by decide) (by decide), ?_⟩
        have qs : (vf u i / vf hs i).natAbs < 2 ^ (271 * (i + 1)) := div_small (su i) pos
        have nxs := axpy_small (q := vf u i / vf hs i) (v := u) (b := hs) (by omega) su qs rbb.small
        dsimp only
        generalize vf u i / vf hs i = fq at ef qs nxs
        refine ⟨_, rfl, _, rfl, [V1, r], rfl, rfl, all2 (sqL hu4) (sqL hr4), fun D2 hD2 => ?_⟩
        have la : (axpy fq u hs).length = n := by rw [axpy_len (by omega), lh]
        refine lc_vals (CZ.walk_rows (xss := [u.map V.int, hs.map V.int]) (n := n) (lens2 (by rw [List.length_map, lu]) (by rw [List.length_map, lh]))) ((axpy fq u hs).map V.int) (by rw [List.length_map, la]) (by omega) hD2 (fun H3 e => .cons (sqL (e _ _ hu4)) (.cons (sqL (e _ _ hr4)) .nil)) ?_ (gmono_tup (gmono_cons gmono_name (gmono_cons gmono_name gmono_nil))) ?_
        · intro j y H5 H6 R hj e yy kk
          obtain ⟨Tb, p, d, rfl, hTb, rfl, hp, hdd⟩ := yints2 yy
          have db : d.natAbs < 2 ^ 270 := by
            rw [← vf_at hdd]
            exact rbb.small j
          refine ⟨Tb, _, rfl, SqT.of upd_same, rfl, _, _, rfl, _, _, rfl, rfl, ?_⟩
          refine ⟨rfl, _, rfl, _, rfl, _, rfl, _, _, rfl, rfl, (wide_mul qs db (by omega) (by decide) (by omega)).ok, _, _, rfl, rfl, ?_⟩
          refine kk _ _ (exn hTb) ?_
          rw [List.getElem?_map]
          unfold axpy
          rw [List.getElem?_zipWith, hp, hdd]
          rfl
        · intro H5 e5 hD5
          exact ⟨D2, axpy fq u hs, _, _, _, _, _, rfl, ext e4 e5, hD5, la, fun j => by have := nxs j; rwa [show 271 * (i + 1) + 271 = 271 * (i + 1 + 1) by omega] at this, ef⟩
    · rintro σ H3 ⟨V1, u, y2, y3, y4, y5, y6, rfl, e3, hu, lu, su, ef⟩
      rw [lx, List.drop_length] at ef
      have : freeF 0 B v = true := ef.symm
      rw [this] at k
      exact k _ e3
end

theorem coord_cons (i : Nat) (b : List Int) (B : List (List Int)) (v : List Int) : coordF i (b :: B) v = vf v i / vf b i :: coordF (i + 1) B (axpy (vf v i / vf b i) v b) := rfl
/-- Σ w * x -/
def wsum (ws xs : List Int) : Int := (List.zipWith (fun w x => w * x) ws xs).sum
section
variable {P : Program} {w : World} {K : PySem.W.Frag} {mg : Str → Option Value} {base : Heap}
def sp_coordinates : Sp := fun vs H Q _ => ∃ (D V0 : Addr) (B : List (List Int)) (v : List Int) (n : Nat), vs = [.ref D, .ref V0] ∧ LAt H D B ∧ B.length = n ∧ n ≤ 4 ∧ Tri n B ∧ (∀ r ∈ B, RowB MB n 0 r) ∧ IL H V0 v ∧ v.length = n ∧ (∀ j, (vf v j).natAbs < 2 ^ 1100) ∧ ∀ q H2, Ex H H2 → H q = none → IL H2 q (coordF 0 B v) → Q (.ref q) H2
theorem ok_coordinates (T : TX K mg) : FnOk P w K mg base CX0 1 T.f_coordinates T.fd_coordinates ["basis", "vector"] sp_coordinates := by
  refine T.F_coordinates.ok sc_coordinates (fun vs H Q E h => ?_) (fun cdv A outer s H vs Q E hr h => ?_)
  · obtain ⟨D, V0, B, v, n, rfl, _⟩ := h
    rfl
  · obtain ⟨D, V0, B, v, n, rfl, ⟨xs, hD, rr⟩, lB, n4, tri, hb, hv, lv, sv, k⟩ := h
    refine ⟨_, (pss_cons (ps_set (i := 2) sc_coordinates.nd rfl (Or.inl rfl) (pe_lst pa_nil)) (pss_cons (ps_for PassesOwn.never rfl (CE.pi_e rfl T.z_enumerate (pa_cons (pv 0) pa_nil)) (pg_tup rfl (pgs_cons (pg_name (i := 3) sc_coordinates.nd rfl (Or.inl rfl)) (pgs_cons (pg_name (i := 4) sc_coordinates.nd rfl (Or.inl rfl)) pgs_nil))) (pss_cons (ps_set (i := 5) sc_coordinates.nd rfl (Or.inr rfl) (pe_op op_fdivW (pe_ix ix_list (pv 1) (pv 3) (fun _ _ => rfl)) (pe_ix ix_list (pv 4) (pv 3) (fun _ _ => rfl)))) (pss_cons (ps_expr (pe_bm PySem.F.plainAttrs_list PySem.F.slot_list_append PySem.F.type_list_append mt_append (pv 2) (pa_cons (pv 5) pa_nil))) (pss_one (ps_setLc (own := [("one", 6), ("other", 7)]) (g := (gTup K 2 (gCons (gName 6) (gCons (gName 7) gNil)))) (i := 1) rfl sc_coordinates.nd rfl rfl (sw_true rfl rfl rfl (by decide +kernel)) (CZ.pi_z2s (fl := [false, false]) rfl (by rfl) T.z_zip (pa_cons (pv 1) (pa_cons (pv 4) pa_nil))) (blkOk_by (N := N_coordinates) (sc := defScope s_coordinates) (by decide +kernel)) (fun _ _ _ _ _ => (pg_tup rfl (pgs_cons (pg_name (i := 6) sc_coordinates.nd rfl (Or.inl rfl)) (pgs_cons (pg_name (i := 7) sc_coordinates.nd rfl (Or.inl rfl)) pgs_nil)))) (fun _ _ _ _ _ => pts_nil) (fun _ _ _ _ _ => (pe_op op_sub (pv 6) (pe_op op_mulI (pv 5) (pv 7))))))))) (pss_one (ps_ret (pv 2))))), ?_⟩
    have lx := rr.len
    (repeat (first | refine ⟨rfl, ?_⟩ | refine ⟨_, rfl, ?_⟩ | refine ⟨_, _, rfl, rfl, ?_⟩ | refine ⟨_, _, rfl, ?_⟩ | refine ⟨slen rfl, ?_⟩ | refine ⟨⟨by decide, by decide +kernel⟩, ?_⟩ | refine ⟨⟨by decide, by decide, by decide⟩, ?_⟩ | refine ⟨(by show (0 : Int) < _; first | decide | assumption | omega), ?_⟩ | refine ⟨mul_ok (by first | exact .inr (by decide) | exact .inl (by decide)), ?_⟩))
    (intro F nF; generalize hGF : upd _ F _ = H1; have eH1 := exG hGF nF; have hF := atG hGF; clear hGF)
    have nFD : D ≠ F := ne_of_none hD nF
    refine ⟨_, rfl, (false, D), rfl, ⟨_, sqL (eH1 _ _ hD)⟩, ?_⟩
    refine for_it (CE.walk_e (xs := xs)) (fun i σ H3 => ∃ (V1 : Addr) (u fs : List Int) (y3 y4 y5 y6 y7 : Option V), σ = [some (.ref D), some (.ref V1), some (.ref F), y3, y4, y5, y6, y7] ∧ Ex H H3 ∧ IL H3 V1 u ∧ V1 ≠ F ∧ u.length = n ∧ (∀ j, (vf u j).natAbs < 2 ^ (1100 + 271 * i)) ∧ IL H3 F fs ∧ fs.length = i ∧ fs ++ coordF i (B.drop i) u = coordF 0 B v) ⟨V0, v, [], _, _, _, _, _, rfl, eH1, eH1 _ _ hv, ne_of_none hv nF, lv, sv, hF, rfl, rfl⟩ (fun i σ H2 _ ⟨_, _, _, _, _, _, _, _, _, e, _⟩ => sqL (e _ _ hD)) ?_ ?_
    · rintro i x σ H3 H4 hi ⟨V1, u, fs, y3, y4, y5, y6, y7, rfl, e3, hu, nVF, lu, su, hF3, lfs, ef⟩ ⟨Ta, x1, x2, rfl, hT, rfl, hx1, hx2⟩
      cases hx1
      obtain ⟨hs, r, hhs, rfl, hr0, _⟩ := rr.get hx2
      have hib : i < B.length := by
        rw [← lx]
        exact hi
      have e4 : Ex H (upd H3 Ta (.tup [.int (i : Nat), .ref r])) := ext e3 (exn hT)
      have hu4 : IL (upd H3 Ta (.tup [.int (i : Nat), .ref r])) V1 u := exn hT _ _ hu
      have hF4 : IL (upd H3 Ta (.tup [.int (i : Nat), .ref r])) F fs := exn hT _ _ hF3
      have rbb := hb hs (List.mem_of_getElem? hhs)
      have lh := rbb.len
      have pos := (tri i hs hhs).2.2
      have hd : B.drop i = hs :: B.drop (i + 1) := by
        rw [List.drop_eq_getElem_cons hib]
        congr 1
        exact Option.some.inj ((List.getElem?_eq_getElem hib).symm.trans hhs)
      rw [hd, coord_cons] at ef
      have hr4 := e4 _ _ hr0
      refine ⟨Ta, _, rfl, SqT.of upd_same, rfl, _, _, rfl, _, _, rfl, rfl, ?_⟩
      generalize upd H3 Ta (.tup [.int (i : Nat), .ref r]) = H4 at e4 hu4 hr4 hF4
      have sb : (vf hs i).natAbs < 2 ^ 270 := rbb.small i
      refine ⟨_, rfl, _, rfl, V1, _, _, _, rfl, rfl, SqL.of hu4, atI_vf (by omega), _, rfl, _, rfl, r, _, _, _, rfl, rfl, SqL.of hr4, atI_vf (by omega), _, _, rfl, rfl, wide_div pos sb (by decide) (by decide), ?_⟩
      have qs : (vf u i / vf hs i).natAbs < 2 ^ (1100 + 271 * i) := div_small (su i) pos
      have nxs := axpy_small (q := vf u i / vf hs i) (v := u) (b := hs) (by omega) su qs rbb.small
      dsimp only
      generalize vf u i / vf hs i = fq at ef qs nxs
      refine ⟨_, rfl, .inl ⟨rfl, _, SqL.of hF4⟩, _, rfl, F, _, _, rfl, rfl, hF4, ?_, ?_⟩
      · rw [List.length_map, lfs]
        exact Nat.lt_of_le_of_lt (show i ≤ 4 by omega) (by decide)
      have e5 : Ex H (upd H4 F (.lst (fs.map V.int ++ [.int fq]))) := ex_upd e4 nF
      have hF5 : IL (upd H4 F (.lst (fs.map V.int ++ [.int fq]))) F (fs ++ [fq]) := by
        show upd H4 F _ F = _
        rw [upd_same, List.map_append]
        rfl
      have hu5 : IL (upd H4 F (.lst (fs.map V.int ++ [.int fq]))) V1 u := by
        show upd H4 F _ V1 = _
        rw [upd_ne nVF]
        exact hu4
      have hr5 := e5 _ _ hr0
      generalize upd H4 F (.lst (fs.map V.int ++ [.int fq])) = H5 at e5 hF5 hu5 hr5
      refine ⟨_, rfl, _, rfl, [V1, r], rfl, rfl, all2 (sqL hu5) (sqL hr5), fun D2 hD2 => ?_⟩
      have la : (axpy fq u hs).length = n := by rw [axpy_len (by omega), lh]
      refine lc_vals (CZ.walk_rows (xss := [u.map V.int, hs.map V.int]) (n := n) (lens2 (by rw [List.length_map, lu]) (by rw [List.length_map, lh]))) ((axpy fq u hs).map V.int) (by rw [List.length_map, la]) (by omega) hD2 (fun H3 e => .cons (sqL (e _ _ hu5)) (.cons (sqL (e _ _ hr5)) .nil)) ?_ (gmono_tup (gmono_cons gmono_name (gmono_cons gmono_name gmono_nil))) ?_
      · intro j y H6 H7 R hj e yy kk
        obtain ⟨Tb, p, d, rfl, hTb, rfl, hp, hdd⟩ := yints2 yy
        have db : d.natAbs < 2 ^ 270 := by
          rw [← vf_at hdd]
          exact rbb.small j
        refine ⟨Tb, _, rfl, SqT.of upd_same, rfl, _, _, rfl, _, _, rfl, rfl, ?_⟩
        refine ⟨rfl, _, rfl, _, rfl, _, rfl, _, _, rfl, rfl, (wide_mul qs db (by omega) (by decide) (by omega)).ok, _, _, rfl, rfl, ?_⟩
        refine kk _ _ (exn hTb) ?_
        rw [List.getElem?_map]
        unfold axpy
        rw [List.getElem?_zipWith, hp, hdd]
        rfl
      · intro H6 e6 hD6
        refine ⟨D2, axpy fq u hs, fs ++ [fq], _, _, _, _, _, rfl, ext e5 e6, hD6, (ne_of_none hF5 hD2).symm, la, fun j => ?_, e6 _ _ hF5, by rw [List.length_append, lfs]; rfl, ?_⟩
        · have := nxs j
          rwa [show 1100 + 271 * i + 271 = 1100 + 271 * (i + 1) by omega] at this
        · rw [List.append_assoc]
          exact ef
    · rintro σ H3 ⟨V1, u, fs, y3, y4, y5, y6, y7, rfl, e3, hu, nVF, lu, su, hF3, lfs, ef⟩
      rw [lx, List.drop_length] at ef
      have ef2 : fs = coordF 0 B v := by rw [← ef]; show fs = fs ++ []; rw [List.append_nil]
      rw [ef2] at hF3
      exact ⟨_, rfl, k F _ e3 nF hF3⟩
def sp_weighted : Sp := fun vs H Q _ => ∃ (m : Int) (a b : Addr) (ws ps : List Int), vs = [.int m, .ref a, .ref b] ∧ 0 < m ∧ H a = some (.tup (ws.map V.int)) ∧ H b = some (.tup (ps.map V.int)) ∧ ws.length = ps.length ∧ ps.length ≤ 4 ∧ (∀ w ∈ ws, w.natAbs < 2 ^ 5000) ∧ (∀ p ∈ ps, p.natAbs < 2 ^ 5000) ∧ ∀ H2, Ex H H2 → Q (.int (wsum ws ps % m)) H2
theorem ok_weighted (T : TX K mg) : FnOk P w K mg base CX0 1 T.f_weighted T.fd_weighted ["modulus", "weights", "seat"] sp_weighted := by
  refine T.F_weighted.ok sc_weighted (fun vs H Q E h => ?_) (fun cdv A outer s H vs Q E hr h => ?_)
  · obtain ⟨m, a, b, ws, ps, rfl, _⟩ := h
    rfl
  · obtain ⟨m, a, b, ws, ps, rfl, m0, ha, hb, l, l4, bw, bp, k⟩ := h
    refine ⟨_, (pss_one (ps_ret (pe_op op_mod (pe_callB (cr_sum rfl) (by rfl) T.z_sum (by decide +kernel) (pa_cons (pe_lc (own := [("weight", 3), ("place", 4)]) (g := (gTup K 2 (gCons (gName 3) (gCons (gName 4) gNil)))) rfl sc_weighted.nd (CZ.pi_z2s (fl := [true, true]) rfl (by rfl) T.z_zip (pa_cons (pv 1) (pa_cons (pv 2) pa_nil))) (blkOk_by (N := N_weighted) (sc := defScope s_weighted) (by decide +kernel)) (fun _ _ _ _ _ => (pg_tup rfl (pgs_cons (pg_name (i := 3) sc_weighted.nd rfl (Or.inl rfl)) (pgs_cons (pg_name (i := 4) sc_weighted.nd rfl (Or.inl rfl)) pgs_nil)))) (fun _ _ _ _ _ => pts_nil) (fun _ _ _ _ _ => (pe_op op_mulI (pv 3) (pv 4)))) pa_nil)) (pv 0)))), ?_⟩
    refine ⟨_, rfl, _, rfl, [a, b], rfl, rfl, all2 (sqT ha) (sqT hb), fun D hD => ?_⟩
    refine lc_vals (CZ.walk_rows (xss := [ws.map V.int, ps.map V.int]) (n := ps.length) (lens2 (by rw [List.length_map, l]) (by rw [List.length_map]))) ((List.zipWith (fun w x => w * x) ws ps).map V.int) (by rw [List.length_map, List.length_zipWith, l, Nat.min_self]) (by omega) hD (fun H3 e => .cons (sqT (e _ _ ha)) (.cons (sqT (e _ _ hb)) .nil)) ?_ (gmono_tup (gmono_cons gmono_name (gmono_cons gmono_name gmono_nil))) ?_
    · intro j y H6 H7 R hj e yy kk
      obtain ⟨Tb, p, d, rfl, hTb, rfl, hp, hdd⟩ := yints2 yy
      refine ⟨Tb, _, rfl, SqT.of upd_same, rfl, _, _, rfl, _, _, rfl, rfl, ?_⟩
      refine ⟨rfl, _, rfl, _, rfl, _, _, rfl, rfl, (wide_mul (bw p (List.mem_of_getElem? hp)) (bp d (List.mem_of_getElem? hdd)) (by decide) (by decide) (by decide)).ok, ?_⟩
      refine kk _ _ (exn hTb) ?_
      rw [List.getElem?_map, List.getElem?_zipWith, hp, hdd]
      rfl
    · intro H3 e3 hD3
      exact ⟨D, _, rfl, SqL.of hD3, _, rfl, _, _, rfl, rfl, m0, k _ e3⟩
end

def wtsF (B : List (List Int)) (n i : Nat) : List Int := (List.range n).map fun k => vf (colsF B n k) i % diagP 0 B
def gcdF (D : Int) (ws : List Int) : Int := ws.foldl (fun g w => gcdI g w) D
def sepI (B : List (List Int)) (n : Nat) (v : List Int) : Option Nat := (List.range n).find? fun i => decide (wsum (wtsF B n i) v % diagP 0 B ≠ 0)
def witM (B : List (List Int)) (n i : Nat) : Int := diagP 0 B / gcdF (diagP 0 B) (wtsF B n i)
def witW (B : List (List Int)) (n i : Nat) : List Int := (wtsF B n i).map fun w => w / gcdF (diagP 0 B) (wtsF B n i)
theorem wts_len (B : List (List Int)) (n i : Nat) : (wtsF B n i).length = n := by simp [wtsF]
theorem wts_at {B : List (List Int)} {n i k : Nat} (h : k < n) : (wtsF B n i)[k]? = some (vf (colsF B n k) i % diagP 0 B) := by
  unfold wtsF
  rw [List.getElem?_map, List.getElem?_range h]
  rfl
theorem wts_mem {B : List (List Int)} {n i : Nat} (h : 0 < diagP 0 B) {x : Int} (hx : x ∈ wtsF B n i) : 0 ≤ x ∧ x < diagP 0 B := by
  obtain ⟨k, _, rfl⟩ := List.mem_map.mp hx
  exact ⟨Int.emod_nonneg _ (by omega), Int.emod_lt_of_pos _ h⟩
theorem gcdF_snoc (D : Int) (ws : List Int) (x : Int) : gcdF D (ws ++ [x]) = gcdI (gcdF D ws) x := by
  unfold gcdF
  rw [List.foldl_append]
  rfl
theorem gcdF_pos : ∀ (ws : List Int) {D : Int}, 0 < D → 0 < gcdF D ws ∧ gcdF D ws ≤ D ∧ gcdF D ws ∣ D ∧ ∀ x ∈ ws, gcdF D ws ∣ x
  | [], D, h => ⟨h, Int.le_refl _, Int.dvd_refl _, by simp⟩
  | x :: ws, D, h => by
    have g0 : 0 < gcdI D x := by
      have := Int.gcd_pos_of_ne_zero_left (a := D) x (by omega)
      show (0 : Int) < ((Int.gcd D x : Nat) : Int)
      omega
    have gl : gcdI D x ∣ D := Int.gcd_dvd_left D x
    obtain ⟨a, b, c, d⟩ := gcdF_pos ws g0
    refine ⟨a, Int.le_trans b (Int.le_of_dvd h gl), Int.dvd_trans c gl, fun y hy => ?_⟩
    rcases List.mem_cons.mp hy with rfl | hy
    · exact Int.dvd_trans c (Int.gcd_dvd_right D y)
    · exact d y hy
theorem tri_D {n : Nat} {B : List (List Int)} (lB : B.length = n) (tri : Tri n B) : 0 < diagP 0 B := by
  have := diag_pos tri n 0 (by omega)
  rwa [List.drop_zero] at this
theorem small_D {n : Nat} {B : List (List Int)} (lB : B.length = n) (n4 : n ≤ 4) (hb : ∀ r ∈ B, RowB MB n 0 r) : (diagP 0 B).natAbs < 2 ^ 1090 := by
  rw [← dpre_full]
  exact lt_pow (dpre_small hb B.length) (by omega)
theorem ite_if {c : Prop} [Decidable c] {a b : Int} : V.int (if c then a else b) = if c then V.int a else V.int b := by split <;> rfl
section
variable {P : Program} {w : World} {K : PySem.W.Frag} {mg : Str → Option Value} {base : Heap}
def sp_separating_witness : Sp := fun vs H Q _ => ∃ (t : Addr) (q : Bool × Addr) (D V0 : Addr) (ns v t0 : List Int) (ts B : List (List Int)) (i : Nat), vs = [.ref t, .ref q.2, .ref D, .ref V0] ∧ H t = some (.tup (ns.map V.int)) ∧ SzOk ns ∧ SzC ns ∧ RowsQ H q (t0 :: ts) ∧ SeatOk ns t0 ∧
  LAt H D B ∧ B.length = ns.length ∧ Tri ns.length B ∧ (∀ r ∈ B, RowB MB ns.length 0 r) ∧ IL H V0 v ∧ v.length = ns.length ∧ (∀ x ∈ v, x.natAbs < 2 ^ 271) ∧ sepI B ns.length v = some i ∧
  ∀ wt wa H2, Ex H H2 → H2 wt = some (.tup [.int (witM B ns.length i), .ref wa, .int (wsum (witW B ns.length i) t0 % witM B ns.length i)]) → H2 wa = some (.tup ((witW B ns.length i).map V.int)) → Q (.ref wt) H2
theorem ok_separating_witness (T : TX K mg) : FnOk P w K mg base CX0 2 T.f_separating_witness T.fd_separating_witness ["sizes", "targets", "basis", "difference"] sp_separating_witness := by
  refine T.F_separating_witness.ok sc_separating_witness (fun vs H Q E h => ?_) (fun cdv A outer s H vs Q E hr h => ?_)
  · obtain ⟨t, q, D, V0, ns, v, t0, ts, B, i, rfl, _⟩ := h
    rfl
  · obtain ⟨t, ⟨bq, q⟩, D, V0, ns, v, t0, ts, B, i, rfl, ht, ok, hB, ⟨xs, hq, rr⟩, sk0, la, lB, tri, hb, hv, lv, bv, sep, k⟩ := h
    refine ⟨_, (pss_cons (ps_set (i := 4) sc_separating_witness.nd rfl (Or.inr rfl) (pe_call (ok_diagonal_product T) hr rfl T.m_diagonal_product T.F_diagonal_product.kp T.b_diagonal_product .nil pass0 (pa_cons (pv 2) pa_nil))) (pss_cons (ps_setLc (own := [("index", 7)]) (g := (gName 7)) (i := 5) rfl sc_separating_witness.nd rfl rfl (sw_true rfl rfl rfl (by decide +kernel)) (pi_range1 rfl T.z_range (pa_cons (pe_callB call_len_seq (by rfl) T.z_len (by decide +kernel) (pa_cons (pv 0) pa_nil)) pa_nil)) (blkOk_by (N := N_separating_witness) (sc := defScope s_separating_witness) (by decide +kernel)) (fun _ _ _ _ _ => (pg_name (i := 7) sc_separating_witness.nd rfl (Or.inr rfl))) (fun _ _ _ _ _ => pts_nil) (fun _ _ _ _ _ => (pe_lc (own := [("column", 12)]) (g := (gName 12)) rfl sc_separating_witness.nd (pi_range1 rfl T.z_range (pa_cons (pe_callB (r := rLenQ K) call_len_seq (by rfl) T.z_len (by decide +kernel) (pa_cons (pv 0) pa_nil)) pa_nil)) (blkOk_by (N := N_separating_witness) rfl) (fun _ _ _ _ _ => (pg_name (i := 12) sc_separating_witness.nd rfl (Or.inl rfl))) (fun _ _ _ _ _ => pts_nil) (fun _ _ _ _ _ => (pe_ifExp (pt_cmpR op_eq (pv 12) (pv 7) (nomark _)) (pv 4) pe_int))))) (pss_cons (ps_setLc (own := [("unit", 13)]) (g := (gName 13)) (i := 6) rfl sc_separating_witness.nd rfl rfl (sw_true rfl rfl rfl (by decide +kernel)) (pi_list (pv 5)) (blkOk_by (N := N_separating_witness) (sc := defScope s_separating_witness) (by decide +kernel)) (fun _ _ _ _ _ => (pg_name (i := 13) sc_separating_witness.nd rfl (Or.inl rfl))) (fun _ _ _ _ _ => pts_nil) (fun _ _ _ _ _ => (pe_call (ok_coordinates T) hr rfl T.m_coordinates T.F_coordinates.kp T.b_coordinates .nil pass0 (pa_cons (pv 2) (pa_cons (pv 13) pa_nil))))) (pss_cons (ps_for PassesOwn.never rfl (pi_range1 rfl T.z_range (pa_cons (pe_callB call_len_seq (by rfl) T.z_len (by decide +kernel) (pa_cons (pv 0) pa_nil)) pa_nil)) (pg_name (i := 7) sc_separating_witness.nd rfl (Or.inr rfl)) (pss_cons (ps_setLc (own := [("column", 12)]) (g := (gName 12)) (i := 8) rfl sc_separating_witness.nd rfl rfl (sw_true rfl rfl rfl (by decide +kernel)) (pi_list (pv 6)) (blkOk_by (N := N_separating_witness) (sc := defScope s_separating_witness) (by decide +kernel)) (fun _ _ _ _ _ => (pg_name (i := 12) sc_separating_witness.nd rfl (Or.inl rfl))) (fun _ _ _ _ _ => pts_nil) (fun _ _ _ _ _ => (pe_op op_mod (pe_ix (r := rIxL K) ix_list (pv 12) (pv 7) (fun _ _ => rfl)) (pv 4)))) (pss_one (ps_if (pt_cmpR op_ne (pe_op op_mod (pe_callB (cr_sum rfl) (by rfl) T.z_sum (by decide +kernel) (pa_cons (pe_lc (own := [("weight", 10), ("one", 14)]) (g := (gTup K 2 (gCons (gName 10) (gCons (gName 14) gNil)))) rfl sc_separating_witness.nd (CZ.pi_z2s (fl := [false, false]) rfl (by rfl) T.z_zip (pa_cons (pv 8) (pa_cons (pv 3) pa_nil))) (blkOk_by (N := N_separating_witness) (sc := defScope s_separating_witness) (by decide +kernel)) (fun _ _ _ _ _ => (pg_tup rfl (pgs_cons (pg_name (i := 10) sc_separating_witness.nd rfl (Or.inl rfl)) (pgs_cons (pg_name (i := 14) sc_separating_witness.nd rfl (Or.inl rfl)) pgs_nil)))) (fun _ _ _ _ _ => pts_nil) (fun _ _ _ _ _ => (pe_op op_mulI (pv 10) (pv 14)))) pa_nil)) (pv 4)) pe_int (nomark _)) (pss_cons (ps_set (i := 9) sc_separating_witness.nd rfl (Or.inr rfl) (pv 4)) (pss_cons (ps_for PassesOwn.never rfl (pi_list (pv 8)) (pg_name (i := 10) sc_separating_witness.nd rfl (Or.inl rfl)) (pss_one (ps_set (i := 9) sc_separating_witness.nd rfl (Or.inr rfl) (pe_call (ok_greatest_common_divisor T) hr rfl T.m_greatest_common_divisor T.F_greatest_common_divisor.kp T.b_greatest_common_divisor .nil pass0 (pa_cons (pv 9) (pa_cons (pv 10) pa_nil)))))) (pss_cons (ps_set (i := 11) sc_separating_witness.nd rfl (Or.inl rfl) (pe_op op_fdivW (pv 4) (pv 9))) (pss_cons (ps_set (i := 8) sc_separating_witness.nd rfl (Or.inl rfl) (pe_callTy call_tuple_of (by rfl) T.z_tuple (by decide +kernel) (pa_cons (pe_lc (own := [("weight", 10)]) (g := (gName 10)) rfl sc_separating_witness.nd (pi_list (pv 8)) (blkOk_by (N := N_separating_witness) (sc := defScope s_separating_witness) (by decide +kernel)) (fun _ _ _ _ _ => (pg_name (i := 10) sc_separating_witness.nd rfl (Or.inl rfl))) (fun _ _ _ _ _ => pts_nil) (fun _ _ _ _ _ => (pe_op op_fdivW (pv 10) (pv 9)))) pa_nil))) (pss_one (ps_ret (pe_tup (pa_cons (pv 11) (pa_cons (pv 8) (pa_cons (pe_call (ok_weighted T) hr rfl T.m_weighted T.F_weighted.kp T.b_weighted .nil pass0 (pa_cons (pv 11) (pa_cons (pv 8) (pa_cons (pe_ix (r := rIxQ K) ix_q (pv 1) pe_int (fun _ _ => rfl)) pa_nil)))) pa_nil)))))))))) pss_nil)))) (pss_one (ps_ret pe_non)))))), ?_⟩
    have n4 := ok.le
    have D0 := tri_D lB tri
    have Db := small_D lB n4 hb
    refine ⟨_, rfl, D, B, ns.length, rfl, la, lB, n4, hb, fun H1 e1 => ?_⟩
    -- units
    refine ⟨_, rfl, t, _, rfl, .inr (SqT.of (e1 _ _ ht)), _, rfl, by rw [List.length_map]; omega, by rw [List.length_map]; omega, fun D1 hD1 => ?_⟩
    refine lc_it walk_range (fun j H3 => Ex H1 H3 ∧ LAt H3 D1 ((List.range j).map fun k => unitL ns.length k (diagP 0 B))) ⟨exn hD1, _, upd_same, .nil⟩ (fun _ _ _ _ => True.intro) ?_ ?_
    · rintro j x _ H3 hj ⟨e3, l3⟩ ⟨rfl, hx⟩
      obtain rfl : x = .int (j : Int) := hx.trans (congrArg V.int (Int.zero_add _))
      have hj2 : j < ns.length := by
        have : j < ((ns.map V.int).length : Int).toNat := hj
        rw [List.length_map] at this
        omega
      refine ⟨rfl, _, rfl, t, _, rfl, .inr (SqT.of (e3 _ _ (e1 _ _ ht))), _, rfl, by rw [List.length_map]; omega, by rw [List.length_map]; omega, fun D2 hD2 => ?_⟩
      have lu : (unitL ns.length j (diagP 0 B)).length = ns.length := by simp [unitL]
      refine lc_vals walk_range ((unitL ns.length j (diagP 0 B)).map V.int) (by rw [List.length_map, lu, List.length_map]; rfl) (by rw [List.length_map]; omega) hD2 (fun _ _ => True.intro) ?_ gmono_name ?_
      · rintro m x _ H4 RR hm e4 ⟨rfl, hx⟩ kk
        obtain rfl : x = .int (m : Int) := hx.trans (congrArg V.int (Int.zero_add _))
        have hm2 : m < ns.length := by
          have : m < ((ns.map V.int).length : Int).toNat := hm
          rw [List.length_map] at this
          omega
        have eat : ((unitL ns.length j (diagP 0 B)).map V.int)[m]? = some (V.int (if m = j then diagP 0 B else 0)) := by
          unfold unitL
          rw [List.getElem?_map, List.getElem?_map, List.getElem?_range hm2]
          rfl
        refine ⟨rfl, _, rfl, _, rfl, rfl, _, rfl, ?_⟩
        refine ite2 (fun hc => ?_) (fun hc => ?_)
        · have : m = j := by have := eqT hc; omega
          refine ⟨_, rfl, kk _ _ exr ?_⟩
          rw [eat, if_pos this]
        · have : ¬ m = j := fun z => eqF hc (by omega)
          refine kk _ _ exr ?_
          rw [eat, if_neg this]
      · intro H4 e4 hD4
        have nu : unitL ns.length j (diagP 0 B) ≠ [] := fun z => by rw [z] at lu; exact absurd lu (by show ¬ 0 = _; omega)
        obtain ⟨acc, p1, p2, p3⟩ := lrows_push (l3.mono e4) hD4 nu
        refine ⟨acc, p1, ?_, ex_upd (ext e3 e4) hD1, ?_⟩
        · rw [p2, List.length_map, List.length_range]
          exact Nat.lt_of_lt_of_le hj2 (Nat.le_trans n4 (by decide))
        · rw [List.range_succ, List.map_append]
          exact p3
    rintro H3 ⟨e3, l3⟩
    have el : ((ns.map V.int).length : Int).toNat = ns.length := by rw [List.length_map]; omega
    rw [el] at l3
    obtain ⟨xu, hxu, rxu⟩ := l3
    have lxu := rxu.len
    rw [List.length_map, List.length_range] at lxu
    have e03 := ext e1 e3
    -- columns
    refine ⟨_, rfl, D1, rfl, ⟨_, SqL.of hxu⟩, fun D3 hD3 => ?_⟩
    refine lc_it (walk_list (xs := xu)) (fun j H4 => Ex H3 H4 ∧ LAt H4 D3 ((List.range j).map fun k => colsF B ns.length k)) ⟨exn hD3, _, upd_same, .nil⟩ (fun j H4 _ p => SqL.of (p.1 _ _ hxu)) ?_ ?_
    · rintro j x _ H4 hj ⟨e4, l4⟩ ⟨rfl, hx⟩
      obtain ⟨un, r, hun, rfl, hr0, _⟩ := rxu.get hx
      have hj2 : j < ns.length := by
        rw [← lxu]
        exact hj
      obtain rfl : unitL ns.length j (diagP 0 B) = un := by
        rw [List.getElem?_map, List.getElem?_range hj2] at hun
        exact Option.some.inj hun
      have lu : (unitL ns.length j (diagP 0 B)).length = ns.length := by simp [unitL]
      have lc : (colsF B ns.length j).length = ns.length := by unfold colsF; rw [coord_len, lB]
      refine ⟨rfl, _, rfl, _, rfl, D, r, B, _, ns.length, rfl, la.mono (ext e03 e4), lB, n4, tri, hb, e4 _ _ hr0, lu, fun m => ?_, fun q5 H5 e5 nq5 hq5 => ?_⟩
      · rw [unitL_vf hj2]
        unfold unitV
        split
        · exact lt_pow Db (by decide)
        · exact Nat.pos_of_neZero _
      have nc : colsF B ns.length j ≠ [] := fun z => by rw [z] at lc; exact absurd lc (by show ¬ 0 = _; omega)
      obtain ⟨acc, p1, p2, p3⟩ := lrows_push (l4.mono e5) (ks := colsF B ns.length j) hq5 nc
      refine ⟨acc, p1, ?_, ex_upd (ext e4 e5) hD3, ?_⟩
      · rw [p2, List.length_map, List.length_range]
        exact Nat.lt_of_lt_of_le hj2 (Nat.le_trans n4 (by decide))
      · rw [List.range_succ, List.map_append]
        exact p3
    rintro H4 ⟨e4, l4⟩
    rw [lxu] at l4
    obtain ⟨xc, hxc, rxc⟩ := l4
    have lxc := rxc.len
    rw [List.length_map, List.length_range] at lxc
    have e04 := ext e03 e4
    refine ⟨_, rfl, t, _, rfl, .inr (SqT.of (e04 _ _ ht)), _, rfl, by rw [List.length_map]; omega, by rw [List.length_map]; omega, ?_⟩
    refine for_it walk_range (fun j σ Hx => ∃ y7 y8 y9 y10 y11 y12 y13 y14 : Option V, σ = [some (.ref t), some (.ref q), some (.ref D), some (.ref V0), some (.int (diagP 0 B)), some (.ref D1), some (.ref D3), y7, y8, y9, y10, y11, y12, y13, y14] ∧ Ex H4 Hx ∧ ∀ m, m < j → wsum (wtsF B ns.length m) v % diagP 0 B = 0) ⟨_, _, _, _, _, _, _, _, rfl, exr, fun m hm => absurd hm (by omega)⟩ (fun _ _ _ _ _ => True.intro) ?_ ?_
    · rintro j x σ _ H5 hj ⟨y7, y8, y9, y10, y11, y12, y13, y14, rfl, e5, hz⟩ ⟨rfl, hx⟩
      obtain rfl : x = .int (j : Int) := hx.trans (congrArg V.int (Int.zero_add _))
      have hj2 : j < ns.length := by
        have : j < ((ns.map V.int).length : Int).toNat := hj
        rw [el] at this
        exact this
      refine ⟨_, rfl, D3, rfl, ⟨_, SqL.of (e5 _ _ hxc)⟩, fun D4 hD4 => ?_⟩
      refine lc_vals (walk_list (xs := xc)) ((wtsF B ns.length j).map V.int) (by rw [List.length_map, wts_len, lxc]) (by omega) hD4 (fun H6 e => SqL.of (e _ _ (e5 _ _ hxc))) ?_ gmono_name ?_
      · rintro m x _ H6 RR hm e6 ⟨rfl, hx⟩ kk
        obtain ⟨cl, r, hcl, rfl, hr0, _⟩ := rxc.get hx
        have hm2 : m < ns.length := by
          rw [← lxc]
          exact hm
        obtain rfl : colsF B ns.length m = cl := by
          rw [List.getElem?_map, List.getElem?_range hm2] at hcl
          exact Option.some.inj hcl
        have lc : (colsF B ns.length m).length = ns.length := by unfold colsF; rw [coord_len, lB]
        refine ⟨rfl, _, rfl, _, rfl, r, _, _, _, rfl, rfl, SqL.of (e6 _ _ (e5 _ _ hr0)), atI_vf (by omega), _, rfl, _, _, rfl, rfl, D0, kk _ _ exr ?_⟩
        rw [List.getElem?_map, wts_at hm2]
        rfl
      intro H6 e6 hD6
      have hv6 : IL H6 V0 v := e6 _ _ (e5 _ _ (e04 _ _ hv))
      refine ⟨_, rfl, _, rfl, [D4, V0], rfl, rfl, all2 (sqL hD6) (sqL hv6), fun D5 hD5 => ?_⟩
      refine lc_vals (CZ.walk_rows (xss := [(wtsF B ns.length j).map V.int, v.map V.int]) (n := ns.length) (lens2 (by rw [List.length_map, wts_len]) (by rw [List.length_map, lv]))) ((List.zipWith (fun w x => w * x) (wtsF B ns.length j) v).map V.int) (by rw [List.length_map, List.length_zipWith, wts_len, lv, Nat.min_self]) (by omega) hD5 (fun H7 e => .cons (sqL (e _ _ hD6)) (.cons (sqL (e _ _ hv6)) .nil)) ?_ (gmono_tup (gmono_cons gmono_name (gmono_cons gmono_name gmono_nil))) ?_
      · intro m y H7 H8 R hm e yy kk
        obtain ⟨Tb, p, d, rfl, hTb, rfl, hp, hdd⟩ := yints2 yy
        obtain ⟨w0, w1⟩ := wts_mem D0 (List.mem_of_getElem? hp)
        have pb : p.natAbs < 2 ^ 1090 := Nat.lt_of_le_of_lt (by omega) Db
        refine ⟨Tb, _, rfl, SqT.of upd_same, rfl, _, _, rfl, _, _, rfl, rfl, ?_⟩
        refine ⟨rfl, _, rfl, _, rfl, _, _, rfl, rfl, (wide_mul pb (bv d (List.mem_of_getElem? hdd)) (by decide) (by decide) (by decide)).ok, ?_⟩
        refine kk _ _ (exn hTb) ?_
        rw [List.getElem?_map, List.getElem?_zipWith, hp, hdd]
        rfl
      intro H7 e7 hD7
      have hD47 : IL H7 D4 (wtsF B ns.length j) := e7 _ _ hD6
      refine ⟨D5, _, rfl, SqL.of hD7, _, rfl, _, _, rfl, rfl, D0, rfl, _, rfl, ?_⟩
      refine ite2 (fun hc => ?_) (fun hc => ?_)
      case refine_2 =>
        have hz0 : wsum (wtsF B ns.length j) v % diagP 0 B = 0 := eqN hc
        refine ⟨_, _, _, _, _, _, _, _, rfl, ext e5 (ext e6 e7), fun m hm => ?_⟩
        by_cases e : m = j
        · rw [e]; exact hz0
        · exact hz m (by omega)
      have hnz : wsum (wtsF B ns.length j) v % diagP 0 B ≠ 0 := fun z => by
        have z2 : (List.zipWith (fun w x => w * x) (wtsF B ns.length j) v).sum % diagP 0 B = 0 := z
        simp [z2] at hc
      obtain rfl : i = j := by
        unfold sepI at sep
        have h1 := List.find?_some sep
        have h2 := List.mem_of_find?_eq_some sep
        rw [List.find?_range_eq_some] at sep
        rcases Nat.lt_trichotomy i j with h | h | h
        · exact absurd (hz i h) (of_decide_eq_true h1)
        · exact h
        · exact absurd (sep.2.2 j h) (by simp [hnz])
      -- shared
      refine ⟨_, rfl, _, rfl, D4, rfl, ⟨_, SqL.of hD47⟩, ?_⟩
      refine for_it (walk_list (xs := (wtsF B ns.length i).map V.int)) (fun m σ Hx => (∃ y10 y11 y12 y13 y14 : Option V, σ = [some (.ref t), some (.ref q), some (.ref D), some (.ref V0), some (.int (diagP 0 B)), some (.ref D1), some (.ref D3), some (.int (i : Int)), some (.ref D4), some (.int (gcdF (diagP 0 B) ((wtsF B ns.length i).take m))), y10, y11, y12, y13, y14]) ∧ Hx = H7) ⟨⟨_, _, _, _, _, rfl⟩, rfl⟩ (fun m σ Hx _ p => SqL.of (by rw [p.2]; exact hD47)) ?_ ?_
      · rintro m x σ _ H8 hm ⟨⟨y10, y11, y12, y13, y14, rfl⟩, rfl⟩ ⟨rfl, hx⟩
        obtain ⟨wt, hwt, rfl⟩ := map_get hx
        have wb := wts_mem D0 (List.mem_of_getElem? hwt)
        have gp := gcdF_pos ((wtsF B ns.length i).take m) D0
        refine ⟨_, rfl, _, rfl, _, _, rfl, by omega, wb.1, ⟨some (.int wt), y11, y12, y13, y14, ?_⟩, rfl⟩
        rw [take_more hwt, gcdF_snoc]
        rfl
      · rintro σ H8 ⟨⟨y10, y11, y12, y13, y14, rfl⟩, rfl⟩
        rw [List.length_map, List.take_length]
        obtain ⟨gp1, gp2, gp3, gp4⟩ := gcdF_pos (wtsF B ns.length i) D0
        have gb : (gcdF (diagP 0 B) (wtsF B ns.length i)).natAbs < 2 ^ 1090 := Nat.lt_of_le_of_lt (by omega) Db
        have m0 : 0 < witM B ns.length i := by
          unfold witM
          exact Int.ediv_pos_of_pos_of_dvd D0 (by omega) gp3
        refine ⟨_, rfl, _, rfl, _, _, rfl, rfl, wide_div gp1 gb (by decide) (by decide), ?_⟩
        refine ⟨_, rfl, D4, rfl, ⟨_, SqL.of hD47⟩, fun D6 hD6' => ?_⟩
        refine lc_vals (walk_list (xs := (wtsF B ns.length i).map V.int)) ((witW B ns.length i).map V.int) (by simp [witW]) (by rw [List.length_map, wts_len]; omega) hD6' (fun H9 e => SqL.of (e _ _ hD47)) ?_ gmono_name ?_
        · rintro m x _ H9 RR hm e9 ⟨rfl, hx⟩ kk
          obtain ⟨wt, hwt, rfl⟩ := map_get hx
          refine ⟨rfl, _, rfl, _, rfl, _, _, rfl, rfl, wide_div gp1 gb (by decide) (by decide), kk _ _ exr ?_⟩
          unfold witW
          rw [List.getElem?_map, List.getElem?_map, hwt]
          rfl
        intro H9 e9 hD9
        refine ⟨D6, _, rfl, .inl ⟨SqL.of hD9, ?_⟩⟩
        (intro wa nwa; generalize hGwa : upd _ wa _ = Ha; have eHa := exG hGwa nwa; have hwa := atG hGwa; clear hGwa)
        have e0a : Ex H Ha := ext e04 (ext e5 (ext e6 (ext e7 (ext e9 eHa))))
        refine ⟨_, rfl, _, rfl, _, rfl, _, rfl, _, rfl, ?_⟩
        obtain ⟨x0, xs, rfl⟩ : ∃ x0 xs', xs = x0 :: xs' := by
          cases xs with
          | nil => cases rr
          | cons a b => exact ⟨a, b, rfl⟩
        obtain ⟨h0, r0, eh0, rfl, hr0⟩ := rr.get (i := 0) rfl
        obtain rfl : t0 = h0 := Option.some.inj eh0
        refine ⟨(bq, q), _, 0, .ref r0, rfl, rfl, (hq.mono e0a).sq, ?_, ?_⟩
        · unfold atI ixN
          rw [if_pos (Int.le_refl 0), if_pos (by rw [List.length_cons]; omega)]
          rfl
        have lw : (witW B ns.length i).length = ns.length := by simp [witW, wts_len]
        refine ⟨_, wa, r0, _, _, rfl, m0, hwa, e0a _ _ hr0, by rw [lw, sk0.len], by rw [sk0.len]; exact n4, fun x hx => ?_, fun x hx => ?_, fun Hb eb => ?_⟩
        · unfold witW at hx
          obtain ⟨y, hy, rfl⟩ := List.mem_map.mp hx
          obtain ⟨w0, w1⟩ := wts_mem D0 hy
          refine lt_pow (div_small (a := 1090) (Nat.lt_of_le_of_lt ?_ Db) gp1) (by decide)
          omega
        · obtain ⟨m, hm⟩ := List.getElem?_of_mem hx
          have := (seat_vf sk0 hB m).2.1
          rw [vf_at hm] at this
          exact lt_pow this (by decide)
        · refine ⟨slen rfl, ?_⟩
          (intro wt nwt; generalize hGwt : upd _ wt _ = Hc; have eHc := exG hGwt nwt; have hwt := atG hGwt; clear hGwt)
          exact k wt wa _ (ext e0a (ext eb eHc)) hwt (eHc _ _ (eb _ _ hwa))
    · rintro σ H5 ⟨y7, y8, y9, y10, y11, y12, y13, y14, rfl, e5, hz⟩
      exfalso
      unfold sepI at sep
      have h1 := List.find?_some sep
      have h2 := List.mem_range.mp (List.mem_of_find?_eq_some sep)
      rw [el] at hz
      exact absurd (hz i h2) (of_decide_eq_true h1)
end

/-! ### what reach answers -/
/-- the differences of a seat from the first target -/
theorem tell_sep {n : Nat} {B : List (List Int)} {v : List Int} (lv : v.length = n) (i : Nat) : diagP 0 B ∣ wsum (wtsF B n i) v - tellF B n (vf v) i := by
  have key : ∀ (m : Nat) (xs : List Int), xs.length = m → ∀ f g : Nat → Int, (∀ k, diagP 0 B ∣ f k - g k) → diagP 0 B ∣ (List.zipWith (fun w x => w * x) ((List.range m).map f) xs).sum - sumN m fun k => vf xs k * g k := by
    intro m
    induction m with
    | zero =>
      intro xs _ f g _
      simp [sumN]
    | succ m ih =>
      intro xs lx f g hfg
      cases xs with
      | nil => simp at lx
      | cons x xs =>
        rw [List.range_succ_eq_map, List.map_cons, List.map_map, List.zipWith_cons_cons, List.sum_cons, sumN_head]
        have h1 := ih xs (Nat.succ.inj lx) (f ∘ Nat.succ) (fun k => g (k + 1)) (fun k => hfg (k + 1))
        have h2 : diagP 0 B ∣ (f 0 - g 0) * x := Int.dvd_mul_of_dvd_left (hfg 0)
        have h3 := Int.dvd_add h2 h1
        refine (congrArg (diagP 0 B ∣ ·) ?_).mp h3
        have e1 : vf (x :: xs) 0 = x := rfl
        have e2 : (sumN m fun i => vf (x :: xs) (i + 1) * g (i + 1)) = sumN m fun k => vf xs k * g (k + 1) := rfl
        rw [e1, e2]
        grind
  exact key n v lv _ _ fun k => by
    have := Int.mul_ediv_add_emod (vf (colsF B n k) i) (diagP 0 B)
    exact ⟨-(vf (colsF B n k) i / diagP 0 B), by grind⟩
theorem sep_none {n : Nat} {B : List (List Int)} (lB : B.length = n) (tri : Tri n B) {v : List Int} (lv : v.length = n) (h : sepI B n v = none) : Lat (rowsG B) (vf v) := by
  refine tell_in lB tri (fun j hj => vf_ge (by omega)) fun i hi => ?_
  unfold sepI at h
  have h1 := List.find?_eq_none.mp h i (List.mem_range.mpr hi)
  have h2 : wsum (wtsF B n i) v % diagP 0 B = 0 := by simpa using h1
  have h3 := tell_sep (B := B) lv i
  have h4 := Int.dvd_sub (Int.dvd_of_emod_eq_zero h2) h3
  exact (congrArg (diagP 0 B ∣ ·) (by omega)).mp h4
theorem sep_of {n : Nat} {B : List (List Int)} (lB : B.length = n) (tri : Tri n B) {v : List Int} (lv : v.length = n) (h : freeF 0 B v = false) : ∃ i, sepI B n v = some i ∧ i < n := by
  cases e : sepI B n v with
  | none =>
    have := (free_iff lB tri lv).mpr (sep_none lB tri lv e)
    rw [h] at this
    cases this
  | some i => exact ⟨i, rfl, List.mem_range.mp (List.mem_of_find?_eq_some e)⟩
section
variable {P : Program} {w : World} {K : PySem.W.Frag} {mg : Str → Option Value} {base : Heap}
/-- ("reachable",) or ("unreachable", witness) -/
def ReachV (H : Hp) (r : Addr) (ns p t0 : List Int) (B : List (List Int)) : Prop :=
  if freeF 0 B (diffL p t0) = true then H r = some (.tup [.str "reachable"]) else ∃ (i : Nat) (wt wa : Addr), sepI B ns.length (diffL p t0) = some i ∧ H r = some (.tup [.str "unreachable", .ref wt]) ∧ H wt = some (.tup [.int (witM B ns.length i), .ref wa, .int (wsum (witW B ns.length i) t0 % witM B ns.length i)]) ∧ H wa = some (.tup ((witW B ns.length i).map V.int))
def sp_reach (C : Addr) : Sp := fun vs H Q _ => ∃ (a s : Addr) (q : Bool × Addr) (ns p t0 : List Int) (ts : List (List Int)), vs = [.ref a, .ref q.2, .ref s] ∧ TabAt C H a ns ∧ SzOk ns ∧ SzC ns ∧ RowsQ H q (t0 :: ts) ∧ (t0 :: ts).length ≤ 1000 ∧ (∀ t ∈ t0 :: ts, SeatOk ns t) ∧ (t0 :: ts).Nodup ∧ H s = some (.tup (p.map V.int)) ∧ SeatOk ns p ∧ ∀ r H2, Ex H H2 → ReachV H2 r ns p t0 (shiftB ns (t0 :: ts)) → Q (.ref r) H2
theorem ok_reach (T : TX K mg) : FnOk P w K mg base CX0 6 T.f_reach T.fd_reach ["table", "targets", "seat"] (sp_reach T.C_Table) := by
  refine T.F_reach.ok sc_reach (fun vs H Q E h => ?_) (fun cdv A outer s H vs Q E hr h => ?_)
  · obtain ⟨a, s, q, ns, p, t0, ts, rfl, _⟩ := h
    rfl
  · obtain ⟨a, s, ⟨bq, q⟩, ns, p, t0, ts, rfl, tab, ok, hB, hq, lt, sks, nod, hs, sk, k⟩ := h
    refine ⟨_, (pss_cons (ps_expr (pe_call (ok_require_table T) hr rfl T.m_require_table T.F_require_table.kp T.b_require_table .nil pass0 (pa_cons (pv 0) pa_nil))) (pss_cons (ps_expr (pe_call (ok_require_targets T) (hr.mono (by decide)) rfl T.m_require_targets T.F_require_targets.kp T.b_require_targets .nil pass0 (pa_cons (pv 0) (pa_cons (pv 1) pa_nil)))) (pss_cons (ps_expr (pe_call (ok_require_seat T) (hr.mono (by decide)) rfl T.m_require_seat T.F_require_seat.kp T.b_require_seat .nil pass0 (pa_cons (pv 0) (pa_cons (pv 2) pa_nil)))) (pss_cons (ps_set (i := 3) sc_reach.nd rfl (Or.inl rfl) (pe_call (ok_shift_basis T) (hr.mono (by decide)) rfl T.m_shift_basis T.F_shift_basis.kp T.b_shift_basis .nil pass0 (pa_cons (pe_meth0 (pv 0) T.cl_Table T.me_Table_sizes (ok_Table_sizes T) (hr.mono (by decide)) T.b_Table_sizes .nil pass0) (pa_cons (pv 1) pa_nil)))) (pss_cons (ps_setLc (own := [("one", 5), ("other", 6)]) (g := (gTup K 2 (gCons (gName 5) (gCons (gName 6) gNil)))) (i := 4) rfl sc_reach.nd rfl rfl (sw_true rfl rfl rfl (by decide +kernel)) (CZ.pi_z2s (fl := [true, true]) rfl (by rfl) T.z_zip (pa_cons (pv 2) (pa_cons (pe_ix (r := rIxQ K) ix_q (pv 1) pe_int (fun _ _ => rfl)) pa_nil))) (blkOk_by (N := N_reach) (sc := defScope s_reach) (by decide +kernel)) (fun _ _ _ _ _ => (pg_tup rfl (pgs_cons (pg_name (i := 5) sc_reach.nd rfl (Or.inl rfl)) (pgs_cons (pg_name (i := 6) sc_reach.nd rfl (Or.inl rfl)) pgs_nil)))) (fun _ _ _ _ _ => pts_nil) (fun _ _ _ _ _ => (pe_op op_sub (pv 5) (pv 6)))) (pss_cons (ps_if (pt_val (pe_call (ok_is_free T) (hr.mono (by decide)) rfl T.m_is_free T.F_is_free.kp T.b_is_free .nil pass0 (pa_cons (pv 3) (pa_cons (pv 4) pa_nil)))) (pss_one (ps_ret (pe_tup (pa_cons pe_str pa_nil)))) pss_nil) (pss_one (ps_ret (pe_tup (pa_cons pe_str (pa_cons (pe_call (ok_separating_witness T) (hr.mono (by decide)) rfl T.m_separating_witness T.F_separating_witness.kp T.b_separating_witness .nil pass0 (pa_cons (pe_meth0 (pv 0) T.cl_Table T.me_Table_sizes (ok_Table_sizes T) (hr.mono (by decide)) T.b_Table_sizes .nil pass0) (pa_cons (pv 1) (pa_cons (pv 3) (pa_cons (pv 4) pa_nil))))) pa_nil))))))))))), ?_⟩
    have ne : t0 :: ts ≠ [] := by simp
    obtain ⟨s1, s2, s3, s4⟩ := shift_ok ok hB ne sks
    have sk0 := sks t0 List.mem_cons_self
    have n4 := ok.le
    refine ⟨_, rfl, a, ns, rfl, tab, ?_⟩
    refine ⟨_, rfl, _, rfl, a, (bq, q), ns, _, rfl, tab, n4, hq, ne, by omega, sks, nod, fun H1 e1 => ?_⟩
    refine ⟨_, rfl, _, rfl, a, _, ns, _, rfl, tab.mono e1, n4, TupA.ints (e1 _ _ hs) (by rw [sk.len]; omega), isSeat_ok sk, fun H2 e2 => ?_⟩
    have E2 := ext e1 e2
    obtain ⟨dx, t, g1, g2⟩ := tab.mono E2
    refine ⟨_, rfl, a, dx, _, rfl, g1, rfl, a, dx, t, rfl, g1, _, rfl, t, (bq, q), ns, _, rfl, g2, ok, hB, hq.mono E2, ne, lt, sks, fun D H3 e3 nD la => ?_⟩
    have E3 := ext E2 e3
    obtain ⟨xs, hx1, hx2⟩ := hq.mono E3
    obtain ⟨x0, xs, rfl⟩ : ∃ x0 xs', xs = x0 :: xs' := by
      cases xs with
      | nil => cases hx2
      | cons a b => exact ⟨a, b, rfl⟩
    obtain ⟨h0, r0, eh0, rfl, hr0⟩ := hx2.get (i := 0) rfl
    obtain rfl : t0 = h0 := Option.some.inj eh0
    have ld := diff_len sk.len sk0.len
    have hs3 := E3 _ _ hs
    refine ⟨_, rfl, _, rfl, (bq, q), _, 0, .ref r0, rfl, rfl, hx1.sq, ?_, [s, r0], rfl, rfl, all2 (sqT hs3) (sqT hr0), fun D3 hD3 => ?_⟩
    · exact atI_zero _ _
    refine lc_vals (CZ.walk_rows (xss := [p.map V.int, t0.map V.int]) (n := ns.length) (lens2 (by rw [List.length_map, sk.len]) (by rw [List.length_map, sk0.len]))) ((diffL p t0).map V.int) (by rw [List.length_map, ld]) (by omega) hD3 (fun H4 e => .cons (sqT (e _ _ hs3)) (.cons (sqT (e _ _ hr0)) .nil)) ?_ (gmono_tup (gmono_cons gmono_name (gmono_cons gmono_name gmono_nil))) ?_
    · intro j y H4 H5 R hj e yy kk
      obtain ⟨Ta, x, d, rfl, hT, rfl, hp, hd⟩ := yints2 yy
      refine ⟨Ta, _, rfl, SqT.of upd_same, rfl, _, _, rfl, _, _, rfl, rfl, ?_⟩
      refine ⟨rfl, _, rfl, _, rfl, _, _, rfl, rfl, ?_⟩
      refine kk _ _ (exn hT) ?_
      rw [List.getElem?_map]
      unfold diffL
      rw [List.getElem?_zipWith, hp, hd]
      rfl
    intro H4 e4 hD4
    have E4 := ext E3 e4
    have db := diff_b sk sk0 hB
    have sb : ∀ j, (vf (diffL p t0) j).natAbs < 2 ^ 271 := fun j => lt_pow (db.small j) (by decide)
    refine ⟨_, rfl, _, rfl, D, D3, _, diffL p t0, ns.length, rfl, la.mono e4, s1, n4, s2, s4, hD4, ld, sb, fun H5 e5 => ?_⟩
    have E5 := ext E4 e5
    refine ⟨_, rfl, ?_⟩
    by_cases hf : freeF 0 (shiftB ns (t0 :: ts)) (diffL p t0) = true
    · refine itt hf ?_
      (repeat (first | refine ⟨rfl, ?_⟩ | refine ⟨_, rfl, ?_⟩ | refine ⟨_, _, rfl, rfl, ?_⟩ | refine ⟨_, _, rfl, ?_⟩ | refine ⟨slen rfl, ?_⟩ | refine ⟨⟨by decide, by decide +kernel⟩, ?_⟩ | refine ⟨⟨by decide, by decide, by decide⟩, ?_⟩ | refine ⟨(by show (0 : Int) < _; first | decide | assumption | omega), ?_⟩ | refine ⟨mul_ok (by first | exact .inr (by decide) | exact .inl (by decide)), ?_⟩))
      (intro rt nrt; generalize hGrt : upd _ rt _ = H6; have eH6 := exG hGrt nrt; have hrt := atG hGrt; clear hGrt)
      exact k rt _ (ext E5 eH6) (by unfold ReachV; rw [if_pos hf]; exact hrt)
    · have hf2 : freeF 0 (shiftB ns (t0 :: ts)) (diffL p t0) = false := by simpa using hf
      refine itf hf2 ?_
      obtain ⟨i, hi, _⟩ := sep_of s1 s2 ld hf2
      obtain ⟨dx5, t5, g5, g6⟩ := tab.mono E5
      refine ⟨_, rfl, a, dx5, _, rfl, g5, rfl, a, dx5, t5, rfl, g5, _, rfl, _, rfl, _, rfl, t5, (bq, q), D, D3, ns, diffL p t0, t0, ts, _, i, rfl, g6, ok, hB, hq.mono E5, sk0, la.mono (ext e4 e5), s1, s2, s4, e5 _ _ hD4, ld, fun x hx => ?_, hi, fun wt wa H6 e6 hwt hwa => ?_⟩
      · obtain ⟨m, hm⟩ := List.getElem?_of_mem hx
        have := sb m
        rw [vf_at hm] at this
        exact this
      · refine ⟨slen rfl, ?_⟩
        (intro rt nrt; generalize hGrt : upd _ rt _ = H7; have eH7 := exG hGrt nrt; have hrt := atG hGrt; clear hGrt)
        refine k rt _ (ext E5 (ext e6 eH7)) ?_
        unfold ReachV
        rw [if_neg hf]
        exact ⟨i, wt, wa, hi, hrt, eH7 _ _ hwt, eH7 _ _ hwa⟩
end

/-- a source of draws stands at s -/
def Src (H : Hp) (s : Addr) : Prop := ∃ a b c : Int, H s = some (.lst [.int a, .int b, .int c])
theorem Src.mono {s : Addr} {H H2 : Hp} (e : Ex H H2) (h : Src H s) : Src H2 s := by
  obtain ⟨a, b, c, h⟩ := h
  exact ⟨a, b, c, e _ _ h⟩
theorem Src.ne {s p : Addr} {H : Hp} (h : Src H s) (hp : H p = none) : p ≠ s := by
  obtain ⟨a, b, c, h⟩ := h
  exact (ne_of_none h hp).symm
theorem Src.new {s p : Addr} {H : Hp} {o : HO} (h : Src H s) (hp : H p = none) : Src (upd H p o) s := Src.mono (exn hp) h
section
variable {P : Program} {w : World} {K : PySem.W.Frag} {mg : Str → Option Value} {base : Heap}
def sp_law_mixed : Sp := fun vs H Q _ => ∃ c d : Int, vs = [.int c, .int d] ∧ ∀ r : Int, 0 ≤ r → r < 2147483563 → Q (.int r) H
theorem ok_law_mixed (T : TX K mg) : FnOk P w K mg base CX0 1 T.f_law_mixed T.fd_law_mixed ["_law_cell", "_law_k"] sp_law_mixed := by
  refine T.F_law_mixed.ok sc_law_mixed (fun vs H Q E h => ?_) (fun cdv A outer s H vs Q E hr h => ?_)
  · obtain ⟨c, d, rfl, _⟩ := h
    rfl
  · obtain ⟨c, d, rfl, k⟩ := h
    refine ⟨_, (pss_cons (ps_set (i := 2) sc_law_mixed.nd rfl (Or.inl rfl) (pe_op op_mod (pe_op op_mulI (pe_op op_add (pe_op op_mod (pv 0) pe_int) pe_int) (pe_op op_add (pe_op op_mulI (pv 1) pe_int) pe_int)) pe_int)) (pss_cons (ps_set (i := 2) sc_law_mixed.nd rfl (Or.inl rfl) (pe_op op_mod (pe_op op_mulI (pe_op op_add (pv 2) (pe_op op_mulI (pe_op op_mod (pe_op op_fdivW (pv 0) pe_int) pe_int) (pe_op op_add (pv 1) pe_int))) pe_int) pe_int)) (pss_cons (ps_set (i := 2) sc_law_mixed.nd rfl (Or.inl rfl) (pe_op op_mod (pe_op op_mulI (pv 2) (pe_op op_add (pe_op op_add (pe_op op_fdivW (pv 2) pe_int) pe_int) (pv 1))) pe_int)) (pss_one (ps_ret (pe_op op_mod (pe_op op_mulI (pv 2) (pe_op op_add (pe_op op_fdivW (pv 2) pe_int) pe_int)) pe_int)))))), ?_⟩
    have a1 := mod_lo (i := c) (n := 2147483646) (by decide)
    have a2 := mod_hi (i := c) (n := 2147483646) (by decide)
    refine ⟨_, rfl, _, _, rfl, rfl, (by show (0 : Int) < _; decide), _, _, rfl, rfl, _, rfl, _, _, rfl, rfl, mul_ok (.inr (by decide)), _, _, rfl, rfl, _, _, rfl, rfl, mul_ok (.inl (by omega)), _, _, rfl, rfl, (by show (0 : Int) < _; decide), ?_⟩
    generalize (c % 2147483646 + 1) * (d * 7919 + 104729) % 2147483647 = n1
    have b1 := mod_lo (i := c / 2147483646) (n := 1000003) (by decide)
    have b2 := mod_hi (i := c / 2147483646) (n := 1000003) (by decide)
    refine ⟨_, rfl, _, rfl, _, _, rfl, rfl, ⟨by decide, by decide +kernel⟩, _, _, rfl, rfl, (by show (0 : Int) < _; decide), _, rfl, _, _, rfl, rfl, _, _, rfl, rfl, mul_ok (.inl (by omega)), _, _, rfl, rfl, _, _, rfl, rfl, mul_ok (.inr (by decide)), _, _, rfl, rfl, (by show (0 : Int) < _; decide), ?_⟩
    have c1 := mod_lo (i := (n1 + c / 2147483646 % 1000003 * (d + 31)) * 48271) (n := 2147483629) (by decide)
    have c2 := mod_hi (i := (n1 + c / 2147483646 % 1000003 * (d + 31)) * 48271) (n := 2147483629) (by decide)
    generalize (n1 + c / 2147483646 % 1000003 * (d + 31)) * 48271 % 2147483629 = n2 at c1 c2
    refine ⟨_, rfl, _, rfl, _, _, rfl, rfl, ⟨by decide, by decide +kernel⟩, _, _, rfl, rfl, _, rfl, _, _, rfl, rfl, _, _, rfl, rfl, mul_ok (.inl (by omega)), _, _, rfl, rfl, (by show (0 : Int) < _; decide), ?_⟩
    have d1 := mod_lo (i := n2 * (n2 / 1013 + 69621 + d)) (n := 2147483587) (by decide)
    have d2 := mod_hi (i := n2 * (n2 / 1013 + 69621 + d)) (n := 2147483587) (by decide)
    generalize n2 * (n2 / 1013 + 69621 + d) % 2147483587 = n3 at d1 d2
    exact ⟨_, rfl, _, rfl, _, _, rfl, rfl, ⟨by decide, by decide +kernel⟩, _, _, rfl, rfl, _, _, rfl, rfl, mul_ok (.inl (by omega)), _, _, rfl, rfl, (by show (0 : Int) < _; decide), k _ (mod_lo (by decide)) (mod_hi (by decide))⟩
def sp_law_source : Sp := fun vs H Q _ => ∃ c : Int, vs = [.int c] ∧ ∀ H2 s, Ex H H2 → H s = none → Src H2 s → Q (.ref s) H2
theorem ok_law_source (T : TX K mg) : FnOk P w K mg base CX0 1 T.f_law_source T.fd_law_source ["_law_cell"] sp_law_source := by
  refine T.F_law_source.ok sc_law_source (fun vs H Q E h => ?_) (fun cdv A outer s H vs Q E hr h => ?_)
  · obtain ⟨c, rfl, _⟩ := h
    rfl
  · obtain ⟨c, rfl, k⟩ := h
    exact ⟨_, (pss_one (ps_ret (pe_lst (pa_cons (pv 0) (pa_cons (pv 0) (pa_cons pe_int pa_nil)))))), ⟨_, rfl, _, rfl, (by show 3 ≤ sizeLine; decide), fun s hs => k _ s (exn hs) hs ⟨c, c, 0, upd_same⟩⟩⟩
def sp_law_take : Sp := fun vs H Q _ => ∃ (s : Addr) (n : Int), vs = [.ref s, .int n] ∧ Src H s ∧ 0 < n ∧ n.natAbs < 2 ^ 8000 ∧ ∀ r H2, 0 ≤ r → r < n → XB s H H2 → Src H2 s → Q (.int r) H2
theorem ok_law_take (T : TX K mg) : FnOk P w K mg base CX0 2 T.f_law_take T.fd_law_take ["_law_source_here", "_law_many"] sp_law_take := by
  refine T.F_law_take.ok sc_law_take (fun vs H Q E h => ?_) (fun cdv A outer s H vs Q E hr h => ?_)
  · obtain ⟨s, n, rfl, _⟩ := h
    rfl
  · obtain ⟨s, n, rfl, ⟨a, b, c, hs⟩, h0, hb, k⟩ := h
    refine ⟨_, (pss_cons (ps_if (pt_cmpR op_ge (pe_ix ix_list (pv 0) pe_int (fun _ _ => rfl)) (pe_op op_pow pe_int pe_int) (nomark _)) (pss_cons (ps_set (i := 2) sc_law_take.nd rfl (Or.inl rfl) (pe_op op_mod (pe_ix ix_list (pv 0) pe_int (fun _ _ => rfl)) (pv 1))) (pss_cons (ps_asg (pe_op op_fdivW (pe_ix ix_list (pv 0) pe_int (fun _ _ => rfl)) (pv 1)) (pg_sub (pv 0) pe_int set_list)) (pss_one (ps_ret (pv 2))))) pss_nil) (pss_cons (ps_asg (pe_op op_add (pe_ix ix_list (pv 0) pe_int (fun _ _ => rfl)) pe_int) (pg_sub (pv 0) pe_int set_list)) (pss_one (ps_ret (pe_op op_mod (pe_call (ok_law_mixed T) hr rfl T.m_law_mixed T.F_law_mixed.kp T.b_law_mixed .nil pass0 (pa_cons (pe_ix ix_list (pv 0) pe_int (fun _ _ => rfl)) (pa_cons (pe_ix ix_list (pv 0) pe_int (fun _ _ => rfl)) pa_nil))) (pv 1)))))), ?_⟩
    refine ⟨_, rfl, s, _, _, _, rfl, rfl, SqL.of hs, rfl, _, _, rfl, rfl, ⟨by decide, by decide, by decide⟩, _, _, rfl, rfl, _, rfl, ?_⟩
    refine ite2 (fun _ => ?_) (fun _ => ?_)
    · refine ⟨_, rfl, s, _, _, _, rfl, rfl, SqL.of hs, rfl, _, rfl, _, _, rfl, rfl, h0, ?_⟩
      refine ⟨_, rfl, s, _, _, _, rfl, rfl, SqL.of hs, rfl, _, rfl, _, _, rfl, rfl, wide_div h0 hb (by decide) (by decide), _, rfl, s, _, _, 0, rfl, rfl, hs, rfl, ?_⟩
      exact ⟨_, rfl, k _ _ (mod_lo h0) (mod_hi h0) XB.upd ⟨_, _, _, upd_same⟩⟩
    · refine ⟨_, rfl, s, _, _, _, rfl, rfl, SqL.of hs, rfl, _, _, rfl, rfl, _, rfl, s, _, _, 2, rfl, rfl, hs, rfl, ?_⟩
      refine ⟨_, rfl, s, _, _, _, rfl, rfl, SqL.of upd_same, rfl, _, rfl, s, _, _, _, rfl, rfl, SqL.of upd_same, rfl, _, _, rfl, fun r _ _ => ?_⟩
      exact ⟨_, rfl, _, _, rfl, rfl, h0, k _ _ (mod_lo h0) (mod_hi h0) XB.upd ⟨_, _, _, upd_same⟩⟩
end

theorem XB.src {s : Addr} {H H2 H3 : Hp} (xb : XB s H H2) (e : Ex H2 H3) : XB s H H3 := xb.trans (XB.of e)
/-- an appended list D, new behind H, beside the source s -/
theorem XB.app {s D : Addr} {H H2 : Hp} {o : HO} (xb : XB s H H2) (hD : H D = none) : XB s H (L2.upd H2 D o) := fun c u n z => by
  rw [upd_ne (ne_of_none z hD)]
  exact xb c u n z
theorem Src.app {s D : Addr} {H : Hp} {o : HO} (h : Src H s) (n : D ≠ s) : Src (upd H D o) s := by
  obtain ⟨a, b, c, z⟩ := h
  exact ⟨a, b, c, by rw [upd_ne n.symm]; exact z⟩
theorem atI_nat {α : Type} {xs : List α} {r : Int} (r0 : 0 ≤ r) (r1 : r < xs.length) : ∃ v, atI xs r = some v ∧ v ∈ xs := by
  have h : r.toNat < xs.length := by omega
  refine ⟨xs[r.toNat], ?_, List.getElem_mem h⟩
  unfold atI ixN
  rw [if_pos r0, if_pos r1]
  show xs[r.toNat]? = _
  rw [List.getElem?_eq_getElem h]
theorem prodL_snoc (ns : List Int) (n : Int) : ns.foldl (fun p n => p * n) 1 * n = (ns ++ [n]).foldl (fun p n => p * n) 1 := by
  rw [List.foldl_append]
  rfl
theorem SeatOk.snoc : ∀ {ns ps : List Int} {n p : Int}, SeatOk ns ps → 0 ≤ p → p < n → SeatOk (ns ++ [n]) (ps ++ [p])
  | [], [], _, _, _, h0, h1 => ⟨⟨h0, h1⟩, True.intro⟩
  | _ :: _, _ :: _, _, _, h, h0, h1 => ⟨h.1, SeatOk.snoc h.2 h0 h1⟩
theorem abs30 {n : Int} (h1 : 1 ≤ n) (h2 : n ≤ 10 ^ 30) : n.natAbs < 2 ^ 100 := by
  have : (10 : Int) ^ 30 < 2 ^ 100 := by decide +kernel
  omega
theorem tup_xb {s q : Addr} {H H2 : Hp} {xs : List V} (src : Src H s) (h : H q = some (.tup xs)) (xb : XB s H H2) : H2 q = some (.tup xs) := by
  obtain ⟨a, b, c, z⟩ := src
  exact xb _ _ (ne_of h z (by intro q; cases q)) h
theorem TabAt.xb {C s a : Addr} {H H2 : Hp} {ns : List Int} (src : Src H s) (xb : XB s H H2) (h : TabAt C H a ns) : TabAt C H2 a ns := by
  obtain ⟨dx, t, h1, h2⟩ := h
  obtain ⟨x, y, c, z⟩ := src
  exact ⟨dx, t, xb _ _ (ne_of h1 z (by intro q; cases q)) h1, xb _ _ (ne_of h2 z (by intro q; cases q)) h2⟩
theorem RowsR.xb {s : Addr} {H H2 : Hp} {xs : List V} {tss : List (List Int)} (h : RowsR H xs tss) (src : Src H s) (xb : XB s H H2) : RowsR H2 xs tss := h.monoT fun _ _ z => tup_xb src z xb
theorem RowsAt.xb {s f : Addr} {H H2 : Hp} {tss : List (List Int)} (h : RowsAt H f tss) (n : f ≠ s) (src : Src H s) (xb : XB s H H2) : RowsAt H2 f tss := by
  obtain ⟨xs, h1, h2⟩ := h
  exact ⟨xs, xb _ _ n h1, h2.xb src xb⟩

/-! ### the witness that reach gives -/
structure WitOk (ns : List Int) (m : Int) (ws : List Int) (r : Int) : Prop where
  m3 : 3 ≤ m
  odd : m % 2 = 1
  r0 : 0 ≤ r
  r1 : r < m
  len : ws.length = ns.length
  w0 : ∀ x ∈ ws, 0 ≤ x ∧ x < m
  fit : ∀ (i : Nat) (x n : Int), ws[i]? = some x → ns[i]? = some n → x * n % m = 0
theorem wsum_cons (w : Int) (ws : List Int) (x : Int) (xs : List Int) : wsum (w :: ws) (x :: xs) = w * x + wsum ws xs := by
  unfold wsum
  rw [List.zipWith_cons_cons, List.sum_cons]
theorem wsum_diff : ∀ {ws a b : List Int}, a.length = ws.length → b.length = ws.length → wsum ws (diffL a b) = wsum ws a - wsum ws b
  | [], [], [], _, _ => rfl
  | w :: ws, x :: a, y :: b, h1, h2 => by
    have ih := wsum_diff (ws := ws) (a := a) (b := b) (Nat.succ.inj h1) (Nat.succ.inj h2)
    show wsum (w :: ws) ((x - y) :: diffL a b) = _
    rw [wsum_cons, wsum_cons, wsum_cons, ih]
    grind
theorem wsum_scale {g : Int} : ∀ {ws vs xs : List Int}, ws = vs.map (fun v => g * v) → wsum ws xs = g * wsum vs xs
  | _, [], xs, h => by
    subst h
    simp [wsum]
  | _, v :: vs, [], h => by
    subst h
    simp [wsum]
  | _, v :: vs, x :: xs, h => by
    subst h
    rw [List.map_cons, wsum_cons, wsum_cons, wsum_scale (vs := vs) (xs := xs) rfl]
    grind
theorem wsum_zero : ∀ {ws xs : List Int}, (∀ w ∈ ws, w = 0) → wsum ws xs = 0
  | [], _, _ => by simp [wsum]
  | _ :: _, [], _ => by simp [wsum]
  | w :: ws, x :: xs, h => by
    rw [wsum_cons, h w List.mem_cons_self, wsum_zero fun y hy => h y (List.mem_cons_of_mem _ hy)]
    simp
theorem wsum_unit : ∀ {ws : List Int} {n j : Nat} {x y : Int}, ws.length = n → j < n → ws[j]? = some x → wsum ws (unitL n j y) = x * y := by
  have key : ∀ (ws : List Int) (f : Nat → Int) , wsum ws ((List.range ws.length).map f) = sumN ws.length fun k => f k * vf ws k := by
    intro ws
    induction ws with
    | nil => intro f; rfl
    | cons w ws ih =>
      intro f
      rw [List.length_cons, List.range_succ_eq_map, List.map_cons, List.map_map, wsum_cons, sumN_head, ih (f ∘ Nat.succ)]
      show w * f 0 + _ = f 0 * w + _
      rw [Int.mul_comm w]
      rfl
  intro ws n j x y h hj hx
  subst h
  unfold unitL
  rw [key]
  have e : (sumN ws.length fun k => (if k = j then y else 0) * vf ws k) = sumN ws.length fun k => (y * vf ws k) * unitV k 1 j := sumN_congr fun k _ => by
    unfold unitV
    by_cases e : k = j
    · rw [if_pos e, if_pos e.symm, Int.mul_one]
    · rw [if_neg e, if_neg (fun z => e z.symm)]
      simp
  rw [e, sumN_unit (fun k => y * vf ws k) hj, vf_at hx, Int.mul_comm]
section
variable {ns : List Int} {tss : List (List Int)} (ok : SzOk ns) (hB : SzC ns) (ne : tss ≠ []) (sks : ∀ ts ∈ tss, SeatOk ns ts)
include ok hB ne sks
theorem unit_shift {j : Nat} (hj : j < ns.length) (k : Int) : Lat (rowsG (shiftB ns tss)) (unitV j (k * vf (ns.map oddI) j)) := by
  obtain ⟨_, _, s3, _⟩ := shift_ok ok hB ne sks
  refine (s3 _).mpr (((Lat.gen (G := shG (rowsF (tss.headD []) tss.tail) 0 ns.length (ns.map oddI)) (.inr ⟨j, Nat.zero_le _, hj, rfl⟩)).mul k).of_eq fun i => ?_)
  unfold unitV
  split <;> simp
theorem diag_odd : diagP 0 (shiftB ns tss) % 2 = 1 := by
  obtain ⟨s1, s2, _, _⟩ := shift_ok ok hB ne sks
  have key : ∀ (k i : Nat), i + k = ns.length → diagP i ((shiftB ns tss).drop i) % 2 = 1 := by
    intro k
    induction k with
    | zero =>
      intro i hi
      rw [List.drop_eq_nil_of_le (by omega)]
      rfl
    | succ k ih =>
      intro i hi
      have hb : (shiftB ns tss)[i]? = some ((shiftB ns tss)[i]'(by omega)) := List.getElem?_eq_getElem (by omega)
      rw [List.drop_eq_getElem_cons (by omega)]
      generalize (shiftB ns tss)[i]'(by omega) = b at hb
      have u := unit_shift ok hB ne sks (j := i) (by omega) 1
      have d := (tri_step s2 hb (tri_from s2 u i (by omega) fun j hj => by unfold unitV; rw [if_neg (by omega)])).1
      have e : unitV i (1 * vf (ns.map oddI) i) i = vf (ns.map oddI) i := by unfold unitV; rw [if_pos rfl, Int.one_mul]
      rw [e] at d
      have hn : ns[i]? = some (ns[i]'(by omega)) := List.getElem?_eq_getElem (by omega)
      have eo : vf (ns.map oddI) i = oddI (ns[i]'(by omega)) := vf_at (by rw [List.getElem?_map, hn]; rfl)
      have o1 := (oddI_ok (ok.one _ (List.getElem_mem (show i < ns.length by omega)))).2.1
      rw [eo] at d
      obtain ⟨c, hc⟩ := d
      have ih2 := ih (i + 1) (by omega)
      show vf b i * diagP (i + 1) ((shiftB ns tss).drop (i + 1)) % 2 = 1
      have ob : vf b i % 2 = 1 := by
        rcases Int.emod_two_eq (vf b i) with z | z
        · exfalso
          rw [hc, Int.mul_emod, z] at o1
          simp at o1
        · exact z
      rw [Int.mul_emod, ob, ih2]
      rfl
  have := key ns.length 0 (by omega)
  rwa [List.drop_zero] at this
/-- a difference in the lattice tells nothing -/
theorem tell_zero {v : List Int} (lv : v.length = ns.length) (h : Lat (rowsG (shiftB ns tss)) (vf v)) {i : Nat} (hi : i < ns.length) : diagP 0 (shiftB ns tss) ∣ wsum (wtsF (shiftB ns tss) ns.length i) v := by
  obtain ⟨s1, s2, _, _⟩ := shift_ok ok hB ne sks
  have h1 := tell_of s1 s2 lv h hi
  have h2 := tell_sep (B := shiftB ns tss) lv i
  exact (congrArg (diagP 0 (shiftB ns tss) ∣ ·) (by omega)).mp (Int.dvd_add h2 h1)
end
theorem wit_parts {B : List (List Int)} {n i : Nat} (D0 : 0 < diagP 0 B) : diagP 0 B = gcdF (diagP 0 B) (wtsF B n i) * witM B n i ∧ wtsF B n i = (witW B n i).map (fun v => gcdF (diagP 0 B) (wtsF B n i) * v) ∧ 0 < gcdF (diagP 0 B) (wtsF B n i) := by
  obtain ⟨g1, g2, g3, g4⟩ := gcdF_pos (wtsF B n i) D0
  refine ⟨?_, ?_, g1⟩
  · unfold witM
    rw [Int.mul_ediv_cancel' g3]
  · unfold witW
    rw [List.map_map]
    have h : (wtsF B n i).map ((fun v => gcdF (diagP 0 B) (wtsF B n i) * v) ∘ fun w => w / gcdF (diagP 0 B) (wtsF B n i)) = (wtsF B n i).map id := List.map_congr_left fun x hx => by
      show gcdF (diagP 0 B) (wtsF B n i) * (x / gcdF (diagP 0 B) (wtsF B n i)) = x
      rw [Int.mul_ediv_cancel' (g4 x hx)]
    rw [h, List.map_id]
/-- a multiple of the weights' sum: of the modulus or of the whole -/
theorem wit_dvd {B : List (List Int)} {n i : Nat} (D0 : 0 < diagP 0 B) (xs : List Int) : witM B n i ∣ wsum (witW B n i) xs ↔ diagP 0 B ∣ wsum (wtsF B n i) xs := by
  obtain ⟨e1, e2, g1⟩ := wit_parts (n := n) (i := i) D0
  rw [wsum_scale e2]
  constructor
  · intro h
    conv => lhs; rw [e1]
    exact Int.mul_dvd_mul (Int.dvd_refl _) h
  · intro h
    have h2 : gcdF (diagP 0 B) (wtsF B n i) * witM B n i ∣ gcdF (diagP 0 B) (wtsF B n i) * wsum (witW B n i) xs := by rw [← e1]; exact h
    exact Int.dvd_of_mul_dvd_mul_left (by omega) h2
section
variable {ns : List Int} {tss : List (List Int)} (ok : SzOk ns) (hB : SzC ns) (ne : tss ≠ []) (sks : ∀ ts ∈ tss, SeatOk ns ts)
include ok hB ne sks
theorem wit_ok {p : List Int} (sp : SeatOk ns p) {i : Nat} (hi : sepI (shiftB ns tss) ns.length (diffL p (tss.headD [])) = some i) :
    WitOk ns (witM (shiftB ns tss) ns.length i) (witW (shiftB ns tss) ns.length i) (wsum (witW (shiftB ns tss) ns.length i) (tss.headD []) % witM (shiftB ns tss) ns.length i) ∧
    (∀ t ∈ tss, wsum (witW (shiftB ns tss) ns.length i) t % witM (shiftB ns tss) ns.length i = wsum (witW (shiftB ns tss) ns.length i) (tss.headD []) % witM (shiftB ns tss) ns.length i) ∧
    wsum (witW (shiftB ns tss) ns.length i) p % witM (shiftB ns tss) ns.length i ≠ wsum (witW (shiftB ns tss) ns.length i) (tss.headD []) % witM (shiftB ns tss) ns.length i := by
  obtain ⟨s1, s2, s3, s4⟩ := shift_ok ok hB ne sks
  have D0 := tri_D s1 s2
  have od := diag_odd ok hB ne sks
  obtain ⟨e1, e2, g1⟩ := wit_parts (n := ns.length) (i := i) D0
  have wd := fun xs => wit_dvd (n := ns.length) (i := i) D0 xs
  have hin : i < ns.length := List.mem_range.mp (List.mem_of_find?_eq_some hi)
  have hsep : wsum (wtsF (shiftB ns tss) ns.length i) (diffL p (tss.headD [])) % diagP 0 (shiftB ns tss) ≠ 0 := by
    unfold sepI at hi
    exact of_decide_eq_true (p := wsum (wtsF (shiftB ns tss) ns.length i) (diffL p (tss.headD [])) % diagP 0 (shiftB ns tss) ≠ 0) (List.find?_some (p := fun i => decide (wsum (wtsF (shiftB ns tss) ns.length i) (diffL p (tss.headD [])) % diagP 0 (shiftB ns tss) ≠ 0)) hi)
  have lw : (witW (shiftB ns tss) ns.length i).length = ns.length := by simp [witW, wts_len]
  obtain ⟨t0, ts, ets⟩ : ∃ t0 ts, tss = t0 :: ts := by
    cases tss with
    | nil => exact absurd rfl ne
    | cons a b => exact ⟨a, b, rfl⟩
  have eh : tss.headD [] = t0 := by rw [ets]; rfl
  have sk0 : SeatOk ns t0 := sks t0 (by rw [ets]; exact List.mem_cons_self)
  have m0 : 0 < witM (shiftB ns tss) ns.length i := by
    rcases Int.lt_or_le 0 (witM (shiftB ns tss) ns.length i) with z | z
    · exact z
    · have := Int.mul_le_mul_of_nonneg_left z (show 0 ≤ gcdF (diagP 0 (shiftB ns tss)) (wtsF (shiftB ns tss) ns.length i) by omega)
      omega
  have mo : witM (shiftB ns tss) ns.length i % 2 = 1 := by
    rcases Int.emod_two_eq (witM (shiftB ns tss) ns.length i) with z | z
    · rw [e1, Int.mul_emod, z] at od
      simp at od
    · exact z
  have hsep2 : ¬ witM (shiftB ns tss) ns.length i ∣ wsum (witW (shiftB ns tss) ns.length i) (diffL p t0) := fun z => by
    rw [eh] at hsep
    exact hsep (Int.emod_eq_zero_of_dvd ((wd _).mp z))
  have m3 : 3 ≤ witM (shiftB ns tss) ns.length i := by
    have : witM (shiftB ns tss) ns.length i ≠ 1 := fun z => hsep2 (by rw [z]; exact Int.one_dvd _)
    omega
  have mdiff : ∀ a b : Int, a % witM (shiftB ns tss) ns.length i = b % witM (shiftB ns tss) ns.length i ↔ witM (shiftB ns tss) ns.length i ∣ a - b := fun a b => emod_eq_iff
  rw [eh]
  refine ⟨⟨m3, mo, Int.emod_nonneg _ (by omega), Int.emod_lt_of_pos _ m0, lw, fun x hx => ?_, fun j x n hx hn => ?_⟩, fun t ht => ?_, fun z => ?_⟩
  · unfold witW at hx
    obtain ⟨y, hy, rfl⟩ := List.mem_map.mp hx
    obtain ⟨y0, y1⟩ := wts_mem D0 hy
    refine ⟨Int.ediv_nonneg y0 (by omega), ?_⟩
    unfold witM
    obtain ⟨_, _, g3, g4⟩ := gcdF_pos (wtsF (shiftB ns tss) ns.length i) D0
    refine Int.lt_of_mul_lt_mul_left (a := gcdF (diagP 0 (shiftB ns tss)) (wtsF (shiftB ns tss) ns.length i)) ?_ (by omega)
    rw [Int.mul_ediv_cancel' g3, Int.mul_ediv_cancel' (g4 y hy)]
    exact y1
  · obtain ⟨hjn, hje⟩ := List.getElem?_eq_some_iff.mp hn
    refine Int.emod_eq_zero_of_dvd ?_
    have n1 := ok.one n (List.mem_of_getElem? hn)
    obtain ⟨⟨a, ha⟩, _⟩ := oddI_ok n1
    have eo : vf (ns.map oddI) j = oddI n := vf_at (by rw [List.getElem?_map, hn]; rfl)
    have u := unit_shift ok hB ne sks (j := j) hjn (2 ^ a)
    rw [eo, ← ha] at u
    have uv : vf (unitL ns.length j n) = unitV j n := unitL_vf hjn
    rw [← uv] at u
    have tz := tell_zero ok hB ne sks (by simp [unitL]) u hin
    have t2 := (wd _).mpr tz
    have key : wsum (witW (shiftB ns tss) ns.length i) (unitL ns.length j n) = x * n := wsum_unit lw hjn hx
    rw [key] at t2
    exact t2
  · refine (mdiff _ _).mpr ?_
    have skt := sks t ht
    rw [← wsum_diff (by rw [skt.len, lw]) (by rw [sk0.len, lw])]
    refine (wd _).mpr (tell_zero ok hB ne sks (diff_len skt.len sk0.len) ((s3 _).mpr ?_) hin)
    rw [ets] at ht
    rcases List.mem_cons.mp ht with rfl | ht
    · refine Lat.zero.of_eq fun j => ?_
      rw [diff_vf rfl]
      show (0 : Int) = vf t j - vf t j
      omega
    · refine Lat.gen (.inl ⟨diffL t t0, ?_, rfl⟩)
      rw [ets]
      exact List.mem_map.mpr ⟨t, ht, rfl⟩
  · refine hsep2 ?_
    rw [wsum_diff (by rw [sp.len, lw]) (by rw [sk0.len, lw])]
    exact (mdiff _ _).mp z
end

/-- a witness stands at wt -/
def WitAt (H : Hp) (wt : Addr) (m : Int) (ws : List Int) (r : Int) : Prop := ∃ wa, H wt = some (.tup [.int m, .ref wa, .int r]) ∧ H wa = some (.tup (ws.map V.int))
theorem WitAt.mono {H H2 : Hp} {wt : Addr} {m r : Int} {ws : List Int} (e : Ex H H2) (h : WitAt H wt m ws r) : WitAt H2 wt m ws r := by
  obtain ⟨wa, h1, h2⟩ := h
  exact ⟨wa, e _ _ h1, e _ _ h2⟩
section
variable {P : Program} {w : World} {K : PySem.W.Frag} {mg : Str → Option Value} {base : Heap}
def sp_is_witness (C : Addr) : Sp := fun vs H Q _ => ∃ (a wt : Addr) (ns ws : List Int) (m r : Int), vs = [.ref a, .ref wt] ∧ TabAt C H a ns ∧ ns.length ≤ 4 ∧ (∀ n ∈ ns, n.natAbs < 2 ^ 5000) ∧ WitAt H wt m ws r ∧ WitOk ns m ws r ∧ m.natAbs < 2 ^ 5000 ∧ ∀ H2, Ex H H2 → Q (.bl true) H2
theorem ok_is_witness (T : TX K mg) : FnOk P w K mg base CX0 3 T.f_is_witness T.fd_is_witness ["table", "witness"] (sp_is_witness T.C_Table) := by
  refine T.F_is_witness.ok sc_is_witness (fun vs H Q E h => ?_) (fun cdv A outer s H vs Q E hr h => ?_)
  · obtain ⟨a, wt, ns, ws, m, r, rfl, _⟩ := h
    rfl
  · obtain ⟨a, wt, ns, ws, m, r, rfl, tab, n4, bn, ⟨wa, hwt, hwa⟩, ok, bm, k⟩ := h
    refine ⟨_, (pss_cons (ps_if (PW.pt (pw_or (pt_not (pt_val (pe_callB call_isi (by rfl) T.z_isinstance (by decide +kernel) (pa_cons (pv 1) (pa_cons (pe_bltn (v := .ty "tuple") rfl T.z_tuple (by decide +kernel) rfl) pa_nil))))) (pw_or1 (pt_cmpR op_ne (pe_callB call_len_seq (by rfl) T.z_len (by decide +kernel) (pa_cons (pv 1) pa_nil)) pe_int (nomark _))))) (pss_one (ps_ret pe_bl)) pss_nil) (pss_cons (ps_asg (pv 1) (pg_tup rfl (pgs_cons (pg_name (i := 2) sc_is_witness.nd rfl (Or.inr rfl)) (pgs_cons (pg_name (i := 3) sc_is_witness.nd rfl (Or.inl rfl)) (pgs_cons (pg_name (i := 4) sc_is_witness.nd rfl (Or.inl rfl)) pgs_nil))))) (pss_cons (ps_if (PW.pt (pw_or (pt_not (pt_val (pe_call (ok_is_at_least T) hr rfl T.m_is_at_least T.F_is_at_least.kp T.b_is_at_least .nil pass0 (pa_cons (pv 2) (pa_cons pe_int pa_nil))))) (pw_or (pt_cmpR op_eq (pe_op op_mod (pv 2) pe_int) pe_int (nomark _)) (pw_or1 (pt_not (pt_val (pe_call (ok_is_between T) hr rfl T.m_is_between T.F_is_between.kp T.b_is_between .nil pass0 (pa_cons (pv 4) (pa_cons pe_int (pa_cons (pe_op op_sub (pv 2) pe_int) pa_nil)))))))))) (pss_one (ps_ret pe_bl)) pss_nil) (pss_cons (ps_if (PW.pt (pw_or (pt_not (pt_val (pe_callB call_isi (by rfl) T.z_isinstance (by decide +kernel) (pa_cons (pv 3) (pa_cons (pe_bltn (v := .ty "tuple") rfl T.z_tuple (by decide +kernel) rfl) pa_nil))))) (pw_or1 (pt_cmpR op_ne (pe_callB call_len_seq (by rfl) T.z_len (by decide +kernel) (pa_cons (pv 3) pa_nil)) (pe_callB call_len_seq (by rfl) T.z_len (by decide +kernel) (pa_cons (pe_meth0 (pv 0) T.cl_Table T.me_Table_sizes (ok_Table_sizes T) (hr.mono (by decide)) T.b_Table_sizes .nil pass0) pa_nil)) (nomark _))))) (pss_one (ps_ret pe_bl)) pss_nil) (pss_cons (ps_if (pt_not (pt_val (pe_callB (cr_all rfl) (by rfl) T.z_all (by decide +kernel) (pa_cons (pe_lc (own := [("weight", 5)]) (g := (gName 5)) rfl sc_is_witness.nd (pi_tup (pv 3)) (blkOk_by (N := N_is_witness) (sc := defScope s_is_witness) (by decide +kernel)) (fun _ _ _ _ _ => (pg_name (i := 5) sc_is_witness.nd rfl (Or.inl rfl))) (fun _ _ _ _ _ => pts_nil) (fun _ _ _ _ _ => (pe_call (ok_is_between T) hr rfl T.m_is_between T.F_is_between.kp T.b_is_between .nil pass0 (pa_cons (pv 5) (pa_cons pe_int (pa_cons (pe_op op_sub (pv 2) pe_int) pa_nil)))))) pa_nil)))) (pss_one (ps_ret pe_bl)) pss_nil) (pss_one (ps_ret (pe_callB (cr_all rfl) (by rfl) T.z_all (by decide +kernel) (pa_cons (pe_lc (own := [("weight", 5), ("size", 6)]) (g := (gTup K 2 (gCons (gName 5) (gCons (gName 6) gNil)))) rfl sc_is_witness.nd (CZ.pi_z2s (fl := [true, true]) rfl (by rfl) T.z_zip (pa_cons (pv 3) (pa_cons (pe_meth0 (pv 0) T.cl_Table T.me_Table_sizes (ok_Table_sizes T) (hr.mono (by decide)) T.b_Table_sizes .nil pass0) pa_nil))) (blkOk_by (N := N_is_witness) (sc := defScope s_is_witness) (by decide +kernel)) (fun _ _ _ _ _ => (pg_tup rfl (pgs_cons (pg_name (i := 5) sc_is_witness.nd rfl (Or.inl rfl)) (pgs_cons (pg_name (i := 6) sc_is_witness.nd rfl (Or.inl rfl)) pgs_nil)))) (fun _ _ _ _ _ => pts_nil) (fun _ _ _ _ _ => (pe_cmpR op_eq (pe_op op_mod (pe_op op_mulI (pv 5) (pv 6)) (pv 2)) pe_int (nomark _)))) pa_nil))))))))), ?_⟩
    have m3 := ok.m3
    have lw := ok.len
    obtain ⟨dx, t, g1, g2⟩ := id tab
    refine ⟨_, rfl, _, _, _, _, true, rfl, .ty _, .base (.tup hwt), kit_ty (by decide +kernel), _, rfl, ?_⟩
    refine ⟨_, rfl, wt, _, rfl, .inr (SqT.of hwt), rfl, _, rfl, ?_⟩
    refine itf rfl ?_
    refine ⟨_, rfl, wt, _, rfl, SqT.of hwt, rfl, _, _, rfl, _, _, rfl, _, _, rfl, rfl, ?_⟩
    refine ⟨_, rfl, _, some m, 3, rfl, rfl, _, rfl, itf (by show (!decide (3 ≤ m)) = false; rw [decide_eq_true m3]; rfl) ?_⟩
    refine ⟨_, rfl, _, _, rfl, rfl, (by show (0 : Int) < 2; decide), rfl, _, rfl, itf (by rw [dec_int]; have := ok.odd; simp; omega) ?_⟩
    refine ⟨_, rfl, _, rfl, _, _, rfl, rfl, _, some r, 0, m - 1, rfl, rfl, _, rfl, itf ?_ ?_⟩
    · show (!(decide (0 ≤ r) && decide (r ≤ m - 1))) = false
      have h1 := ok.r0
      have h2 := ok.r1
      rw [decide_eq_true h1, decide_eq_true (by omega)]
      rfl
    refine ⟨_, rfl, _, _, _, _, true, rfl, .ty _, .base (.tup hwa), kit_ty (by decide +kernel), _, rfl, ?_⟩
    refine ⟨_, rfl, wa, _, rfl, .inr (SqT.of hwa), _, rfl, a, dx, _, rfl, g1, rfl, a, dx, t, rfl, g1, t, _, rfl, .inr (SqT.of g2), rfl, _, rfl, itf (by rw [List.length_map, List.length_map, lw]; simp) ?_⟩
    refine ⟨_, rfl, wa, rfl, ⟨_, SqT.of hwa⟩, fun D hD => ?_⟩
    have all1 : (ws.map fun x => between (some x) 0 (m - 1)).all id = true := by
      rw [List.all_map, List.all_eq_true]
      intro x hx
      obtain ⟨x0, x1⟩ := ok.w0 x hx
      show (decide (0 ≤ x) && decide (x ≤ m - 1)) = true
      rw [decide_eq_true x0, decide_eq_true (by omega)]
      rfl
    refine lc_vals (walk_tup (xs := ws.map V.int)) ((ws.map fun x => between (some x) 0 (m - 1)).map V.bl) (by simp) (by rw [List.length_map]; omega) hD (fun H3 e => SqT.of (e _ _ hwa)) ?_ gmono_name ?_
    · rintro j x _ H1 R hj e1 ⟨rfl, hx⟩ kk
      obtain ⟨z, hz, rfl⟩ := map_get hx
      refine ⟨rfl, _, rfl, _, rfl, _, _, rfl, rfl, _, some z, 0, m - 1, rfl, rfl, kk _ _ exr ?_⟩
      rw [List.getElem?_map, List.getElem?_map, hz]
      rfl
    intro H1 e1 hD1
    refine ⟨D, _, rfl, SqL.of hD1, _, rfl, itf (by rw [all1]; rfl) ?_⟩
    obtain ⟨dx2, t2, g3, g4⟩ := tab.mono e1
    refine ⟨_, rfl, _, rfl, a, dx2, _, rfl, g3, rfl, a, dx2, t2, rfl, g3, [wa, t2], rfl, rfl, all2 (sqT (e1 _ _ hwa)) (sqT g4), fun D2 hD2 => ?_⟩
    refine lc_vals (CZ.walk_rows (xss := [ws.map V.int, ns.map V.int]) (n := ns.length) (lens2 (by rw [List.length_map, lw]) (by rw [List.length_map]))) ((List.replicate ns.length true).map V.bl) (by simp) (by omega) hD2 (fun H3 e => .cons (sqT (e _ _ (e1 _ _ hwa))) (.cons (sqT (e _ _ g4)) .nil)) ?_ (gmono_tup (gmono_cons gmono_name (gmono_cons gmono_name gmono_nil))) ?_
    · intro j y H2 H3 R hj e yy kk
      obtain ⟨Tb, x, n, rfl, hTb, rfl, hx, hn⟩ := yints2 yy
      obtain ⟨x0, x1⟩ := ok.w0 x (List.mem_of_getElem? hx)
      have xb : x.natAbs < 2 ^ 5000 := Nat.lt_of_le_of_lt (by omega) bm
      refine ⟨Tb, _, rfl, SqT.of upd_same, rfl, _, _, rfl, _, _, rfl, rfl, ?_⟩
      refine ⟨rfl, _, rfl, _, rfl, _, _, rfl, rfl, (wide_mul xb (bn n (List.mem_of_getElem? hn)) (by decide) (by decide) (by decide)).ok, _, rfl, _, _, rfl, rfl, (by show (0 : Int) < m; omega), rfl, kk _ _ (exn hTb) ?_⟩
      rw [List.getElem?_map, List.getElem?_replicate, if_pos hj]
      have fz := ok.fit j x n hx hn
      show some (V.bl true) = some (V.bl (decide (V.int (x * n % m) = V.int 0)))
      rw [fz]
      rfl
    · intro H2 e2 hD3
      refine ⟨D2, _, rfl, SqL.of hD3, ?_⟩
      have : (List.replicate ns.length true).all id = true := by simp
      rw [this]
      exact k _ (ext e1 e2)
end

/-- what reach answers as data -/
theorem reach_dp {K : PySem.W.Frag} {H : Hp} {r : Addr} {ns p t0 : List Int} {B : List (List Int)} (h : ReachV H r ns p t0 B) : ∃ ds, Dp K H (.ref r) (.tuple ds) ∧ Sh 50 (.tuple ds) ∧ PyData.eqv (.tuple ds) (.tuple [.str "reachable"]) = freeF 0 B (diffL p t0) ∧ ∃ vs, H r = some (.tup (.str (if freeF 0 B (diffL p t0) = true then "reachable" else "unreachable") :: vs)) := by
  have s1 : PyData.strOk "reachable" = true := by decide +kernel
  have s2 : PyData.strOk "unreachable" = true := by decide +kernel
  have sh1 : ∀ {n : Nat} {z : Str}, PyData.strOk z = true → Sh n (.str z) := fun hz => ⟨by simp only [PyData.canLay0, hz], by simp only [PyData.depth]; omega⟩
  unfold ReachV at h
  by_cases hf : freeF 0 B (diffL p t0) = true
  · rw [if_pos hf] at h
    refine ⟨[.str "reachable"], .tup (SqT.of h) (.cons (.str _) .nil), (sh_tuple (n := 1) fun d hd => by rw [List.mem_singleton.mp hd]; exact sh1 s1).up (by decide), ?_, [], by rw [if_pos hf]; exact h⟩
    rw [hf]
    exact eqv_refl _ (sh_tuple (n := 1) fun d hd => by rw [List.mem_singleton.mp hd]; exact sh1 s1).1
  · rw [if_neg hf] at h
    obtain ⟨i, wt, wa, _, h1, h2, h3⟩ := h
    refine ⟨[.str "unreachable", .tuple [.int _, iT _, .int _]], .tup (SqT.of h1) (.cons (.str _) (.cons (.tup (SqT.of h2) (.cons (.int _) (.cons (dp_ints h3) (.cons (.int _) .nil)))) .nil)), ?_, ?_, [_], by rw [if_neg hf]; exact h1⟩
    · refine (sh_tuple (n := 10) fun d hd => ?_).up (by decide)
      rcases List.mem_cons.mp hd with rfl | hd
      · exact sh1 s2
      · rw [List.mem_singleton.mp hd]
        refine (sh_tuple (n := 5) fun d hd => ?_).up (by decide)
        rcases List.mem_cons.mp hd with rfl | hd
        · exact sh_int _
        · rcases List.mem_cons.mp hd with rfl | hd
          · exact sh_ints _
          · rw [List.mem_singleton.mp hd]
            exact sh_int _
    · have hf2 : freeF 0 B (diffL p t0) = false := by simpa using hf
      rw [hf2]
      simp [PyData.eqv, PyData.eqvAll]
theorem ReachV.mono {H H2 : Hp} {r : Addr} {ns p t0 : List Int} {B : List (List Int)} (e : Ex H H2) (h : ReachV H r ns p t0 B) : ReachV H2 r ns p t0 B := by
  unfold ReachV at h ⊢
  split
  · rename_i hf
    rw [if_pos hf] at h
    exact e _ _ h
  · rename_i hf
    rw [if_neg hf] at h
    obtain ⟨i, wt, wa, h0, h1, h2, h3⟩ := h
    exact ⟨i, wt, wa, h0, e _ _ h1, e _ _ h2, e _ _ h3⟩

/-! ### targets as a set -/
/-- good targets -/
structure TgOk (ns : List Int) (tss : List (List Int)) : Prop where
  ok : SzOk ns
  hB : SzC ns
  ne : tss ≠ []
  sks : ∀ ts ∈ tss, SeatOk ns ts
abbrev inL (ns : List Int) (tss : List (List Int)) (v : Vec) : Prop := Lat (rowsG (shiftB ns tss)) v
theorem TgOk.head {ns : List Int} {tss : List (List Int)} (h : TgOk ns tss) : tss.headD [] ∈ tss := by
  have := h.ne
  cases tss with
  | nil => exact absurd rfl this
  | cons a b => exact List.mem_cons_self
theorem TgOk.base {ns : List Int} {tss : List (List Int)} (h : TgOk ns tss) {t : List Int} (ht : t ∈ tss) : inL ns tss (fun i => vf t i - vf (tss.headD []) i) := by
  obtain ⟨s1, s2, s3, s4⟩ := shift_ok h.ok h.hB h.ne h.sks
  have sk := h.sks t ht
  have sk0 := h.sks _ h.head
  refine (s3 _).mpr ?_
  rw [← diff_vf (by rw [sk.len, sk0.len])]
  have := h.ne
  cases tss with
  | nil => exact absurd rfl this
  | cons t0 ts =>
    rcases List.mem_cons.mp ht with rfl | ht2
    · refine Lat.zero.of_eq fun j => ?_
      show (0 : Int) = vf (diffL t t) j
      rw [diff_vf rfl]
      show (0 : Int) = vf t j - vf t j
      omega
    · exact Lat.gen (.inl ⟨diffL t t0, List.mem_map.mpr ⟨t, ht2, rfl⟩, rfl⟩)
theorem TgOk.pair {ns : List Int} {tss : List (List Int)} (h : TgOk ns tss) {t u : List Int} (ht : t ∈ tss) (hu : u ∈ tss) : inL ns tss (fun i => vf t i - vf u i) :=
  ((h.base ht).comb (h.base hu) 1).of_eq fun i => by omega
/-- more targets: a larger lattice -/
theorem lat_sub {ns : List Int} {tss uss : List (List Int)} (h : TgOk ns tss) (g : TgOk ns uss) (sub : ∀ t ∈ tss, inL ns uss (fun i => vf t i - vf (uss.headD []) i)) {v : Vec} (hv : inL ns tss v) : inL ns uss v := by
  obtain ⟨s1, s2, s3, s4⟩ := shift_ok h.ok h.hB h.ne h.sks
  refine ((s3 _).mp hv).le fun w hw => ?_
  rcases hw with ⟨r, hr, rfl⟩ | ⟨j, _, hj, rfl⟩
  · obtain ⟨t, ht, rfl⟩ := List.mem_map.mp hr
    have ht2 : t ∈ tss := List.mem_of_mem_tail ht
    have sk := h.sks t ht2
    have sk0 := h.sks _ h.head
    rw [diff_vf (by rw [sk.len, sk0.len])]
    exact ((sub t ht2).comb (sub _ h.head) 1).of_eq fun i => by omega
  · have := unit_shift g.ok g.hB g.ne g.sks hj 1
    rwa [Int.one_mul] at this
theorem lat_mem {ns : List Int} {tss uss : List (List Int)} (h : TgOk ns tss) (g : TgOk ns uss) (sub : ∀ t ∈ tss, t ∈ uss) {v : Vec} (hv : inL ns tss v) : inL ns uss v := lat_sub h g (fun t ht => g.base (sub t ht)) hv
/-- reachable: by any target -/
theorem free_any {ns : List Int} {tss : List (List Int)} (h : TgOk ns tss) {p : List Int} (sp : SeatOk ns p) {t : List Int} (ht : t ∈ tss) : freeF 0 (shiftB ns tss) (diffL p (tss.headD [])) = true ↔ inL ns tss (fun i => vf p i - vf t i) := by
  obtain ⟨s1, s2, s3, s4⟩ := shift_ok h.ok h.hB h.ne h.sks
  have sk0 := h.sks _ h.head
  rw [free_iff s1 s2 (diff_len sp.len sk0.len), diff_vf (by rw [sp.len, sk0.len])]
  have hb := h.base ht
  constructor
  · exact fun z => (z.comb hb 1).of_eq fun i => by omega
  · exact fun z => (z.add hb).of_eq fun i => by omega
theorem diag_eq {ns : List Int} {tss uss : List (List Int)} (h : TgOk ns tss) (g : TgOk ns uss) (sub : ∀ v, inL ns tss v → inL ns uss v) : diagP 0 (shiftB ns uss) ∣ diagP 0 (shiftB ns tss) ∧ (diagP 0 (shiftB ns tss) = diagP 0 (shiftB ns uss) ↔ ∀ v, inL ns uss v → inL ns tss v) := by
  obtain ⟨s1, s2, _, _⟩ := shift_ok h.ok h.hB h.ne h.sks
  obtain ⟨u1, u2, _, _⟩ := shift_ok g.ok g.hB g.ne g.sks
  have d1 := diag_dvd s1 u1 s2 u2 sub ns.length 0 (by omega)
  rw [List.drop_zero, List.drop_zero] at d1
  refine ⟨d1, fun e v hv => lat_back s1 u1 s2 u2 sub e ns.length 0 v (by omega) (fun j hj => absurd hj (by omega)) hv, fun back => ?_⟩
  have d2 := diag_dvd u1 s1 u2 s2 back ns.length 0 (by omega)
  rw [List.drop_zero, List.drop_zero] at d2
  have p1 := tri_D s1 s2
  have p2 := tri_D u1 u2
  exact Int.dvd_antisymm (by omega) (by omega) d2 d1
/-- one target: the least lattice -/
theorem lat_one {ns p : List Int} {uss : List (List Int)} (h : TgOk ns [p]) (g : TgOk ns uss) {v : Vec} (hv : inL ns [p] v) : inL ns uss v := by
  obtain ⟨s1, s2, s3, s4⟩ := shift_ok h.ok h.hB h.ne h.sks
  refine ((s3 _).mp hv).le fun w hw => ?_
  rcases hw with ⟨r, hr, rfl⟩ | ⟨j, _, hj, rfl⟩
  · obtain ⟨t, ht, rfl⟩ := List.mem_map.mp hr
    cases ht
  · have := unit_shift g.ok g.hB g.ne g.sks hj 1
    rwa [Int.one_mul] at this
theorem TgOk.single {ns p : List Int} {tss : List (List Int)} (h : TgOk ns tss) (sk : SeatOk ns p) : TgOk ns [p] := ⟨h.ok, h.hB, by simp, fun t ht => by rw [List.mem_singleton.mp ht]; exact sk⟩
theorem free_swap {ns a p : List Int} {tss : List (List Int)} (h : TgOk ns tss) (ska : SeatOk ns a) (skp : SeatOk ns p) : freeF 0 (shiftB ns [p]) (diffL a ([p].headD [])) = freeF 0 (shiftB ns [a]) (diffL p ([a].headD [])) := by
  rw [Bool.eq_iff_iff, free_any (h.single skp) ska (List.mem_singleton.mpr rfl), free_any (h.single ska) skp (List.mem_singleton.mpr rfl)]
  constructor
  · exact fun z => (Lat.zero.comb (lat_one (h.single skp) (h.single ska) z) 1).of_eq fun i => by omega
  · exact fun z => (Lat.zero.comb (lat_one (h.single ska) (h.single skp) z) 1).of_eq fun i => by omega
/-- the same targets -/
theorem free_same {ns p : List Int} {tss uss : List (List Int)} (h : TgOk ns tss) (g : TgOk ns uss) (skp : SeatOk ns p) (e : ∀ v, inL ns tss v ↔ inL ns uss v) {t : List Int} (t1 : t ∈ tss) (t2 : t ∈ uss) : freeF 0 (shiftB ns tss) (diffL p (tss.headD [])) = freeF 0 (shiftB ns uss) (diffL p (uss.headD [])) := by
  rw [Bool.eq_iff_iff, free_any h skp t1, free_any g skp t2]
  exact e _
theorem RowsR.drop {H : Hp} : ∀ (k : Nat) {xs : List V} {tss : List (List Int)}, RowsR H xs tss → RowsR H (xs.drop k) (tss.drop k)
  | 0, _, _, h => h
  | _ + 1, _, _, .nil => .nil
  | k + 1, _, _, .cons _ t => RowsR.drop k t
theorem RowsR.take {H : Hp} : ∀ (k : Nat) {xs : List V} {tss : List (List Int)}, RowsR H xs tss → RowsR H (xs.take k) (tss.take k)
  | 0, _, _, _ => .nil
  | _ + 1, _, _, .nil => .nil
  | k + 1, _, _, .cons q t => .cons q (RowsR.take k t)
theorem rot_mem {α : Type} {k : Nat} {l : List α} {x : α} : x ∈ l.drop k ++ l.take k ↔ x ∈ l := by
  rw [List.mem_append, or_comm, ← List.mem_append, List.take_append_drop]
theorem rot_nodup {α : Type} {k : Nat} {l : List α} (h : l.Nodup) : (l.drop k ++ l.take k).Nodup := by
  have h2 : (l.take k ++ l.drop k).Nodup := by rw [List.take_append_drop]; exact h
  rw [List.nodup_append] at h2 ⊢
  exact ⟨h2.2.1, h2.1, fun a ha b hb z => h2.2.2 b hb a ha z.symm⟩

theorem wit_small {ns : List Int} {tss : List (List Int)} (h : TgOk ns tss) (i : Nat) : (witM (shiftB ns tss) ns.length i).natAbs < 2 ^ 5000 := by
  obtain ⟨s1, s2, s3, s4⟩ := shift_ok h.ok h.hB h.ne h.sks
  have D0 := tri_D s1 s2
  exact lt_pow (div_small (small_D s1 h.ok.le s4) (gcdF_pos _ D0).1) (by decide)
theorem RowsR.rev {H : Hp} : ∀ {xs : List V} {hss : List (List Int)}, RowsR H xs hss → RowsR H xs.reverse hss.reverse
  | _, _, .nil => .nil
  | _, _, .cons ⟨r, h1, h2⟩ t => by
    rw [List.reverse_cons, List.reverse_cons, h1]
    exact RowsR.snoc h2 (RowsR.rev t)
theorem use_reach {C a s q : Addr} {bq : Bool} {H : Hp} {ns p : List Int} {tss : List (List Int)} {Q : VK} {E : XK} (tg : TgOk ns tss) (tab : TabAt C H a ns) (hq : RowsQ H (bq, q) tss) (lt : tss.length ≤ 1000) (nod : tss.Nodup) (hs : H s = some (.tup (p.map V.int))) (sk : SeatOk ns p)
    (k : ∀ r H2, Ex H H2 → ReachV H2 r ns p (tss.headD []) (shiftB ns tss) → Q (.ref r) H2) : sp_reach C [.ref a, .ref q, .ref s] H Q E := by
  obtain ⟨ok, hB, ne, sks⟩ := tg
  cases tss with
  | nil => exact absurd rfl ne
  | cons t0 ts => exact ⟨a, s, (bq, q), ns, p, t0, ts, rfl, tab, ok, hB, hq, lt, sks, nod, hs, sk, k⟩
theorem RowsAt.q {H : Hp} {D : Addr} {tss : List (List Int)} (h : RowsAt H D tss) : RowsQ H (false, D) tss := h
theorem shW (b : Bool) : Sh 60 (.str (if b = true then "reachable" else "unreachable")) := by
  cases b
  · exact ⟨by simp only [PyData.canLay0]; decide +kernel, by simp only [PyData.depth]; omega⟩
  · exact ⟨by simp only [PyData.canLay0]; decide +kernel, by simp only [PyData.depth]; omega⟩
theorem shR : Sh 60 (.tuple [.str "reachable"]) := (sh_tuple (n := 1) fun d hd => by rw [List.mem_singleton.mp hd]; exact ⟨by simp only [PyData.canLay0]; decide +kernel, by simp only [PyData.depth]; omega⟩).up (by decide)
theorem cat_ints {K : PySem.W.Frag} {H : Hp} {Q : VK} {a b : Addr} {xs ys : List Int} (ha : H a = some (.tup (xs.map V.int))) (hb : H b = some (.tup (ys.map V.int))) (hl : xs.length ≤ 1000) (hm : ys.length ≤ 1000) (h : ∀ v H5, Ex H H5 → H5 v = some (.tup ((xs ++ ys).map V.int)) → Q (.ref v) H5) : rCatA K (.ref a) (.ref b) H Q := by
  refine ⟨a, b, _, _, rfl, rfl, SqT.of ha, SqT.of hb, ?_, fun e => ?_, fun _ e => ?_, fun _ _ p hp => ?_⟩
  · rw [List.length_map, List.length_map]
    exact Nat.le_trans (show _ ≤ 2000 by omega) (by decide)
  · refine h b H exr ?_
    rw [List.map_append, e]
    exact hb
  · refine h a H exr ?_
    rw [List.map_append, e, List.append_nil]
    exact ha
  · refine h p _ (exn hp) ?_
    rw [List.map_append]
    exact upd_same
theorem sl_ints {K : PySem.W.Frag} {H : Hp} {Q : VK} {a : Addr} {xs : List V} {lo hi : Option Int} (ha : H a = some (.tup xs)) (h : ∀ v H5, Ex H H5 → H5 v = some (.tup (cutV xs lo hi)) → Q (.ref v) H5) : rSlA K (.ref a) lo hi H Q :=
  ⟨a, _, rfl, SqT.of ha, fun hw => h a H exr (by rw [cut_whole hw]; exact ha), fun _ p hp => h p _ (exn hp) upd_same⟩
theorem reach_no {H : Hp} {r : Addr} {ns p : List Int} {tss : List (List Int)} (tg : TgOk ns tss) (sk : SeatOk ns p) (rv : ReachV H r ns p (tss.headD []) (shiftB ns tss)) (hf : freeF 0 (shiftB ns tss) (diffL p (tss.headD [])) = false) :
    ∃ (m rr : Int) (ws : List Int) (wt : Addr), H r = some (.tup [.str "unreachable", .ref wt]) ∧ WitAt H wt m ws rr ∧ WitOk ns m ws rr ∧ m.natAbs < 2 ^ 5000 ∧ (∀ t ∈ tss, wsum ws t % m = rr) ∧ wsum ws p % m ≠ rr := by
  unfold ReachV at rv
  rw [if_neg (by rw [hf]; simp)] at rv
  obtain ⟨iw, wt, wa, hi, h1, h2, h3⟩ := rv
  obtain ⟨wok, w1, w2⟩ := wit_ok tg.ok tg.hB tg.ne tg.sks sk hi
  exact ⟨_, _, _, wt, h1, ⟨wa, h2, h3⟩, wok, wit_small tg iw, w1, w2⟩
theorem shU : Sh 60 (.str "unreachable") := shW false
theorem TabAt.push {C a D : Addr} {H : Hp} {ns : List Int} {xs : List V} {o : HO} (hD : H D = some (.lst xs)) (h : TabAt C H a ns) : TabAt C (upd H D o) a ns := by
  obtain ⟨dx, t, h1, h2⟩ := h
  exact ⟨dx, t, by rw [upd_ne (ne_of h1 hD (by intro z; cases z))]; exact h1, by rw [upd_ne (ne_of h2 hD (by intro z; cases z))]; exact h2⟩
theorem tup_push {q D : Addr} {H : Hp} {xs ys : List V} {o : HO} (hD : H D = some (.lst xs)) (h : H q = some (.tup ys)) : upd H D o q = some (.tup ys) := by
  rw [upd_ne (ne_of h hD (by intro z; cases z))]
  exact h
theorem WitAt.xb {s wt : Addr} {H H2 : Hp} {m r : Int} {ws : List Int} (h : WitAt H wt m ws r) (src : Src H s) (xb : XB s H H2) : WitAt H2 wt m ws r := by
  obtain ⟨wa, h1, h2⟩ := h
  exact ⟨wa, tup_xb src h1 xb, tup_xb src h2 xb⟩
theorem wit_bounds {ns ws p : List Int} {m r : Int} (hB : SzC ns) (w : WitOk ns m ws r) (bm : m.natAbs < 2 ^ 5000) (sk : SeatOk ns p) : ws.length = p.length ∧ (∀ x ∈ ws, x.natAbs < 2 ^ 5000) ∧ ∀ x ∈ p, x.natAbs < 2 ^ 5000 := by
  refine ⟨by rw [w.len, sk.len], fun x hx => ?_, fun x hx => ?_⟩
  · obtain ⟨x0, x1⟩ := w.w0 x hx
    exact Nat.lt_of_le_of_lt (by omega) bm
  · obtain ⟨j, hj⟩ := List.getElem?_of_mem hx
    have := (seat_vf sk hB j).2.1
    rw [vf_at hj] at this
    exact lt_pow this (by decide)
/-- an if that draws, and ends the def or leaves all names as they are -/
theorem ifs_xb {s : Addr} {c : TT} {t u : TS} {D : Ends} {σ : L2.St} {H : Hp} (h : ∀ N : L2.St → Hp → Prop, (∀ H2, XB s H H2 → Src H2 s → N σ H2) → tIfS c t u { D with nx := N } σ H) (hR : ∀ H2, XB s H H2 → Src H2 s → D.nx σ H2) : tIfS c t u D σ H :=
  ifs_cutG (fun σ2 H2 => σ2 = σ ∧ XB s H H2 ∧ Src H2 s) (by rintro σ2 H2 ⟨rfl, e, z⟩; exact hR H2 e z) (fun N hN => h N fun H2 e z => hN σ H2 ⟨rfl, e, z⟩)
theorem sif_xb {s : Addr} {c : TT} {t u r : TS} {D : Ends} {σ : L2.St} {H : Hp} (h : ∀ N : L2.St → Hp → Prop, (∀ H2, XB s H H2 → Src H2 s → N σ H2) → tIfS c t u { D with nx := N } σ H) (hR : ∀ H2, XB s H H2 → Src H2 s → r D σ H2) : tSeq (tIfS c t u) r D σ H :=
  ifs_xb (D := { D with nx := r D }) h hR
theorem sif_cut {c : TT} {t u r : TS} {D : Ends} {σ : L2.St} {H : Hp} (R : L2.St → Hp → Prop) (h : ∀ N : L2.St → Hp → Prop, (∀ σ2 H2, R σ2 H2 → N σ2 H2) → tIfS c t u { D with nx := N } σ H) (hR : ∀ σ2 H2, R σ2 H2 → r D σ2 H2) : tSeq (tIfS c t u) r D σ H :=
  ifs_cutG (D := { D with nx := r D }) R hR h

/-! ### a witness protects: plain -/
def twV (ws : List Int) (v : Vec) : Int := sumN ws.length fun j => vf ws j * v j
theorem wsum_tw : ∀ {ws xs : List Int}, xs.length = ws.length → wsum ws xs = twV ws (vf xs)
  | [], [], _ => rfl
  | w :: ws, x :: xs, h => by
    rw [wsum_cons, wsum_tw (Nat.succ.inj h)]
    show _ = sumN (ws.length + 1) _
    rw [sumN_head]
    rfl
theorem tw_step (ws : List Int) (v g : Vec) (k : Int) : twV ws (fun i => v i - k * g i) = twV ws v - k * twV ws g := by
  unfold twV
  have e : (fun j => vf ws j * (v j - k * g j)) = fun j => vf ws j * v j + (-k) * (vf ws j * g j) := by
    funext j
    grind
  rw [e, sumN_add, sumN_mul]
  grind
theorem lat_tw {G : Vec → Prop} {v : Vec} {m : Int} {ws : List Int} (h : Lat G v) (hg : ∀ g, G g → m ∣ twV ws g) : m ∣ twV ws v := by
  induction h with
  | zero =>
    have e : twV ws (fun _ => 0) = 0 := by
      unfold twV
      simp only [Int.mul_zero]
      exact sumN_zero _
    rw [e]
    exact Int.dvd_zero m
  | step k h hg2 ih =>
    rw [tw_step]
    exact Int.dvd_sub ih (Int.dvd_mul_of_dvd_right (hg _ hg2))
theorem sumN_pick {f : Nat → Int} {x : Int} {j : Nat} : ∀ {n : Nat}, sumN n (fun k => f k * unitV j x k) = if j < n then f j * x else 0
  | 0 => rfl
  | n + 1 => by
    show sumN n _ + f n * unitV j x n = _
    rw [sumN_pick]
    unfold unitV
    by_cases h1 : n = j
    · subst h1
      simp
    · rw [if_neg h1]
      by_cases h2 : j < n
      · rw [if_pos h2, if_pos (by omega)]
        omega
      · rw [if_neg h2, if_neg (by omega)]
        omega
theorem odd_pow2 {o x : Int} (h : o % 2 = 1) : ∀ k : Nat, o ∣ 2 ^ k * x → o ∣ x
  | 0, d => by simpa using d
  | k + 1, d => by
    refine odd_pow2 h k ?_
    rw [Int.pow_succ, Int.mul_comm ((2 : Int) ^ k), Int.mul_assoc] at d
    obtain ⟨c, hc⟩ := d
    refine ⟨2 ^ k * x - c * (o / 2), ?_⟩
    have e : o = 2 * (o / 2) + 1 := by omega
    generalize o / 2 = q at *
    subst e
    grind
theorem wit_unit {ns ws : List Int} {m r : Int} (ok : SzOk ns) (w : WitOk ns m ws r) {j : Nat} (hj : j < ns.length) : m ∣ vf ws j * vf (ns.map oddI) j := by
  have hw : ws[j]? = some (ws[j]'(by rw [w.len]; exact hj)) := List.getElem?_eq_getElem _
  have hn : ns[j]? = some ns[j] := List.getElem?_eq_getElem _
  have f := w.fit j _ _ hw hn
  have e : (ns.map oddI)[j]? = some (oddI ns[j]) := by rw [List.getElem?_map, hn]; rfl
  rw [vf_at hw, vf_at e]
  obtain ⟨⟨k, hk⟩, _⟩ := oddI_ok (ok.one _ (List.getElem_mem hj))
  refine odd_pow2 w.odd k ?_
  have d := Int.dvd_of_emod_eq_zero f
  rw [hk] at d
  refine (congrArg (m ∣ ·) ?_).mp d
  rw [Int.mul_left_comm]
/-- all free shifts have the value 0 -/
theorem wit_shift {ns ws : List Int} {m r : Int} {tss : List (List Int)} (tg : TgOk ns tss) (w : WitOk ns m ws r) (ht : ∀ t ∈ tss, wsum ws t % m = r) {v : Vec} (hv : inL ns tss v) : m ∣ twV ws v := by
  obtain ⟨s1, s2, s3, s4⟩ := shift_ok tg.ok tg.hB tg.ne tg.sks
  refine lat_tw ((s3 _).mp hv) fun g hg => ?_
  rcases hg with ⟨x, hx, rfl⟩ | ⟨j, _, hj, rfl⟩
  · obtain ⟨t, ht2, rfl⟩ := List.mem_map.mp hx
    have tm : t ∈ tss := List.mem_of_mem_tail ht2
    have l1 := (tg.sks t tm).len
    have l2 := (tg.sks _ tg.head).len
    have lw := w.len
    rw [← wsum_tw (by rw [diff_len l1 l2, lw]), wsum_diff (by rw [l1, lw]) (by rw [l2, lw])]
    exact emod_eq_iff.mp ((ht t tm).trans (ht _ tg.head).symm)
  · unfold twV
    rw [sumN_pick, if_pos (by rw [w.len]; exact hj)]
    exact wit_unit tg.ok w hj
theorem wit_blocks {ns ws p : List Int} {m r : Int} {tss : List (List Int)} (tg : TgOk ns tss) (w : WitOk ns m ws r) (ht : ∀ t ∈ tss, wsum ws t % m = r) (sk : SeatOk ns p) (hp : wsum ws p % m ≠ r) : freeF 0 (shiftB ns tss) (diffL p (tss.headD [])) = false := by
  rw [Bool.eq_false_iff]
  intro h
  have h2 := wit_shift tg w ht ((free_any tg sk tg.head).mp h)
  have lw := w.len
  have sk0 := tg.sks _ tg.head
  rw [← diff_vf (by rw [sk.len, sk0.len]), ← wsum_tw (by rw [diff_len sk.len sk0.len, lw]), wsum_diff (by rw [sk.len, lw]) (by rw [sk0.len, lw])] at h2
  exact hp ((emod_eq_iff.mpr h2).trans (ht _ tg.head))
/-- a move adds the value of the call -/
theorem wsum_shiftL {m f : Int} : ∀ {ws ns ps cs : List Int}, ws.length = ns.length → ps.length = ns.length → cs.length = ns.length → (∀ (i : Nat) (x n : Int), ws[i]? = some x → ns[i]? = some n → x * n % m = 0) → m ∣ wsum ws (shiftL ns ps cs f) - (wsum ws ps + f * wsum ws cs)
  | [], [], [], [], _, _, _, _ => by
    show m ∣ 0 - (0 + f * 0)
    simp
  | x :: ws, n :: ns, p :: ps, c :: cs, h1, h2, h3, hf => by
    have ih := wsum_shiftL (m := m) (f := f) (Nat.succ.inj h1) (Nat.succ.inj h2) (Nat.succ.inj h3) fun i x n hx hn => hf (i + 1) x n (by simpa using hx) (by simpa using hn)
    have f0 := Int.dvd_of_emod_eq_zero (hf 0 x n rfl rfl)
    show m ∣ wsum (x :: ws) ((p + f * c) % n :: shiftL ns ps cs f) - _
    rw [wsum_cons, wsum_cons, wsum_cons]
    have e := Int.mul_ediv_add_emod (p + f * c) n
    have d2 : m ∣ x * n * ((p + f * c) / n) := Int.dvd_mul_of_dvd_left f0
    have d3 := Int.dvd_sub ih d2
    refine (congrArg (m ∣ ·) ?_).mp d3
    grind
theorem two_moves {ns ws ps cs : List Int} {m r : Int} (w : WitOk ns m ws r) (l1 : ps.length = ns.length) (l2 : cs.length = ns.length) (h1 : wsum ws (shiftL ns ps cs 1) % m = r) (h2 : wsum ws (shiftL ns ps cs (-1)) % m = r) : wsum ws ps % m = r := by
  have a := wsum_shiftL (f := 1) w.len l1 l2 w.fit
  have b := wsum_shiftL (f := -1) w.len l1 l2 w.fit
  have c := emod_eq_iff.mp (h1.trans h2.symm)
  have rm : r % m = r := Int.emod_eq_of_lt w.r0 w.r1
  rw [← rm] at h2 ⊢
  rw [emod_eq_iff] at h2 ⊢
  have d : m ∣ 2 ^ 1 * (wsum ws ps - r) := by
    have := Int.dvd_sub (Int.dvd_add h2 h2) (Int.dvd_add a b)
    have := Int.dvd_add this c
    refine (congrArg (m ∣ ·) ?_).mp this
    grind
  exact odd_pow2 w.odd 1 d
/-- the first ring alone -/
theorem first_wit {n0 M b : Int} {ns : List Int} (M3 : 3 ≤ M) (Mo : M % 2 = 1) (Md : M ∣ n0) : WitOk (n0 :: ns) M (1 :: List.replicate ns.length 0) (b % M) := by
  refine ⟨M3, Mo, Int.emod_nonneg _ (by omega), Int.emod_lt_of_pos _ (by omega), by simp, fun x hx => ?_, fun i x n hx hn => ?_⟩
  · rcases List.mem_cons.mp hx with rfl | h
    · exact ⟨by omega, by omega⟩
    · rw [(List.mem_replicate.mp h).2]
      exact ⟨by omega, by omega⟩
  · cases i with
    | zero =>
      cases hx
      cases hn
      rw [Int.one_mul]
      exact Int.emod_eq_zero_of_dvd Md
    | succ i =>
      have h2 : (List.replicate ns.length (0 : Int))[i]? = some x := by simpa using hx
      have := List.mem_of_getElem? h2
      rw [(List.mem_replicate.mp this).2, Int.zero_mul]
      rfl
theorem first_sum {k : Nat} {t : List Int} (h : t ≠ []) : wsum (1 :: List.replicate k 0) t = vf t 0 := by
  cases t with
  | nil => exact absurd rfl h
  | cons x xs =>
    rw [wsum_cons, wsum_zero fun w hw => (List.mem_replicate.mp hw).2]
    show 1 * x + 0 = x
    omega
theorem first_off {n0 M b r : Int} (M3 : 3 ≤ M) (Md : M ∣ n0) (r0 : 0 ≤ r) (r1 : r < M - 1) : (b + 1 + r) % n0 % M ≠ b % M := by
  rw [Int.emod_emod_of_dvd _ Md]
  intro h
  have h2 := emod_eq_iff.mp h
  have e : b + 1 + r - b = 1 + r := by omega
  rw [e] at h2
  have := Int.le_of_dvd (by omega) h2
  omega

theorem seat_small : ∀ {ns ps : List Int} {N : Nat}, SeatOk ns ps → (∀ n ∈ ns, n.natAbs < N) → ∀ p ∈ ps, p.natAbs < N
  | [], [], _, _, _, p, hp => by cases hp
  | n :: ns, x :: ps, N, h, hn, p, hp => by
    obtain ⟨⟨h0, h1⟩, h2⟩ : (0 ≤ x ∧ x < n) ∧ SeatOk ns ps := h
    rcases List.mem_cons.mp hp with rfl | hp
    · exact Nat.lt_of_le_of_lt (by omega) (hn n List.mem_cons_self)
    · exact seat_small h2 (fun x hx => hn x (List.mem_cons_of_mem _ hx)) p hp
/-- the word by which a seat with this sum ahead is answered -/
def awayW (b : Bool) : Str := if b = true then "backward" else "forward"
section
variable {P : Program} {w : World} {K : PySem.W.Frag} {mg : Str → Option Value} {base : Heap}
def sp_has_residue : Sp := fun vs H Q _ => ∃ (wt s : Addr) (ws ps : List Int) (m r : Int), vs = [.ref wt, .ref s] ∧ WitAt H wt m ws r ∧ 0 < m ∧ H s = some (.tup (ps.map V.int)) ∧ ws.length = ps.length ∧ ps.length ≤ 4 ∧ (∀ w ∈ ws, w.natAbs < 2 ^ 5000) ∧ (∀ p ∈ ps, p.natAbs < 2 ^ 5000) ∧ ∀ H2, Ex H H2 → Q (.bl (decide (wsum ws ps % m = r))) H2
theorem ok_has_residue (T : TX K mg) : FnOk P w K mg base CX0 2 T.f_has_residue T.fd_has_residue ["witness", "seat"] sp_has_residue := by
  refine T.F_has_residue.ok sc_has_residue (fun vs H Q E h => ?_) (fun cdv A outer s H vs Q E hr h => ?_)
  · obtain ⟨wt, s, ws, ps, m, r, rfl, _⟩ := h
    rfl
  · obtain ⟨wt, s, ws, ps, m, r, rfl, ⟨wa, hwt, hwa⟩, m0, hs, l, l4, bw, bp, k⟩ := h
    refine ⟨_, (pss_cons (ps_asg (pv 0) (pg_tup rfl (pgs_cons (pg_name (i := 2) sc_has_residue.nd rfl (Or.inl rfl)) (pgs_cons (pg_name (i := 3) sc_has_residue.nd rfl (Or.inl rfl)) (pgs_cons (pg_name (i := 4) sc_has_residue.nd rfl (Or.inl rfl)) pgs_nil))))) (pss_one (ps_ret (pe_cmpR op_eq (pe_call (ok_weighted T) hr rfl T.m_weighted T.F_weighted.kp T.b_weighted .nil pass0 (pa_cons (pv 2) (pa_cons (pv 3) (pa_cons (pv 1) pa_nil)))) (pv 4) (nomark _))))), ?_⟩
    refine ⟨_, rfl, wt, _, rfl, SqT.of hwt, rfl, _, _, rfl, _, _, rfl, _, _, rfl, rfl, ?_⟩
    refine ⟨_, rfl, _, rfl, _, rfl, m, wa, s, ws, ps, rfl, m0, hwa, hs, l, l4, bw, bp, fun H2 e2 => ?_⟩
    refine ⟨_, rfl, rfl, ?_⟩
    rw [dec_int]
    exact k H2 e2
def sp_direction_off (C : Addr) : Sp := fun vs H Q _ => ∃ (a wt s c : Addr) (ns ws ps cs : List Int) (m r : Int), vs = [.ref a, .ref wt, .ref s, .ref c] ∧ TabAt C H a ns ∧ SzOk ns ∧ (∀ n ∈ ns, n.natAbs < 2 ^ 5000) ∧ WitAt H wt m ws r ∧ WitOk ns m ws r ∧ m.natAbs < 2 ^ 5000 ∧ H s = some (.tup (ps.map V.int)) ∧ SeatOk ns ps ∧ H c = some (.tup (cs.map V.int)) ∧ cs.length = ns.length ∧
  ∀ H2, Ex H H2 → Q (.str (awayW (decide (wsum ws (shiftL ns ps cs 1) % m = r)))) H2
theorem ok_direction_off (T : TX K mg) : FnOk P w K mg base CX0 6 T.f_direction_off T.fd_direction_off ["table", "witness", "seat", "call"] (sp_direction_off T.C_Table) := by
  refine T.F_direction_off.ok sc_direction_off (fun vs H Q E h => ?_) (fun cdv A outer s H vs Q E hr h => ?_)
  · obtain ⟨a, wt, s, c, ns, ws, ps, cs, m, r, rfl, _⟩ := h
    rfl
  · obtain ⟨a, wt, s, c, ns, ws, ps, cs, m, r, rfl, tab, ok, bn, hw, wok, bm, hs, sk, hc, lc, k⟩ := h
    refine ⟨_, (pss_one (ps_ret (pe_ifExp (pt_val (pe_call (ok_has_residue T) (hr.mono (by decide)) rfl T.m_has_residue T.F_has_residue.kp T.b_has_residue .nil pass0 (pa_cons (pv 1) (pa_cons (pe_ix ix_tup (pe_meth (pv 0) T.cl_Table T.me_Table_moves (ok_Table_moves T) hr T.b_Table_moves .nil pass0 (pa_cons (pv 2) (pa_cons (pv 3) pa_nil))) pe_int (fun _ _ => rfl)) pa_nil)))) pe_str pe_str))), ?_⟩
    obtain ⟨dx, t, g1, g2⟩ := id tab
    have m3 := wok.m3
    have sk2 : SeatOk ns (shiftL ns ps cs 1) := shift_seat ok.one sk.len lc
    refine ⟨_, rfl, _, rfl, a, dx, _, rfl, g1, rfl, _, rfl, _, rfl, a, s, c, ns, ps, cs, rfl, tab, ok, hs, hc, sk, lc, fun H1 q f b e1 nq nf nb hq hf hb => ?_⟩
    refine ⟨q, _, _, _, rfl, rfl, SqT.of hq, rfl, wt, f, ws, _, m, r, rfl, hw.mono e1, by omega, hf, by rw [wok.len, sk2.len], by rw [sk2.len]; exact ok.le, fun x hx => ?_, seat_small sk2 bn, fun H2 e2 => ?_⟩
    · obtain ⟨x0, x1⟩ := wok.w0 x hx
      exact Nat.lt_of_le_of_lt (by omega) bm
    · have kk := k H2 (ext e1 e2)
      refine ⟨_, rfl, ?_⟩
      cases hd : decide (wsum ws (shiftL ns ps cs 1) % m = r) with
      | true => rw [hd] at kk; exact kk
      | false => rw [hd] at kk; exact kk
end

/-- all seats, in ascending order -/
def crossS (hss : List (List Int)) (n : Int) : List (List Int) := hss.flatMap fun hs => (List.range n.toNat).map fun (i : Nat) => hs ++ [(i : Int)]
def allS (ns : List Int) : List (List Int) := ns.foldl crossS [[]]
theorem allS_snoc (ns : List Int) (n : Int) : allS (ns ++ [n]) = crossS (allS ns) n := by
  unfold allS
  rw [List.foldl_append]
  rfl
theorem crossS_snoc (hss : List (List Int)) (hs : List Int) (n : Int) : crossS (hss ++ [hs]) n = crossS hss n ++ (List.range n.toNat).map fun (i : Nat) => hs ++ [(i : Int)] := by
  unfold crossS
  rw [List.flatMap_append]
  simp
theorem crossS_len (n : Int) : ∀ hss : List (List Int), (crossS hss n).length = hss.length * n.toNat
  | [] => by simp [crossS]
  | h :: hss => by
    have ih := crossS_len n hss
    unfold crossS at ih ⊢
    rw [List.flatMap_cons, List.length_append, ih, List.length_map, List.length_range, List.length_cons, Nat.succ_mul, Nat.add_comm]
def prodL (ns : List Int) : Int := ns.foldl (fun p n => p * n) 1
theorem prodS_snoc (ns : List Int) (n : Int) : prodL (ns ++ [n]) = prodL ns * n := by
  unfold prodL
  rw [List.foldl_append]
  rfl
theorem fold_mul (ns : List Int) : ∀ p : Int, ns.foldl (fun p n => p * n) p = p * ns.foldl (fun p n => p * n) 1 := by
  induction ns with
  | nil => intro p; simp
  | cons n ns ih =>
    intro p
    rw [List.foldl_cons, List.foldl_cons, ih (p * n), ih (1 * n), Int.one_mul, Int.mul_assoc]
theorem prodL_cons (n : Int) (ns : List Int) : prodL (n :: ns) = n * prodL ns := by
  unfold prodL
  rw [List.foldl_cons, fold_mul, Int.one_mul]
theorem prodL_pos : ∀ {ns : List Int}, (∀ n ∈ ns, 1 ≤ n) → 1 ≤ prodL ns
  | [], _ => by decide
  | n :: ns, h => by
    rw [prodL_cons]
    exact Int.mul_pos (by have := h n List.mem_cons_self; omega) (by have := prodL_pos (fun m hm => h m (List.mem_cons_of_mem _ hm)); omega)
theorem prodL_take : ∀ {ns : List Int} (i : Nat), (∀ n ∈ ns, 1 ≤ n) → prodL (ns.take i) ≤ prodL ns
  | [], _, _ => by simp
  | n :: ns, 0, h => by
    rw [List.take_zero]
    exact prodL_pos h
  | n :: ns, i + 1, h => by
    rw [List.take_succ_cons, prodL_cons, prodL_cons]
    exact Int.mul_le_mul_of_nonneg_left (prodL_take i fun m hm => h m (List.mem_cons_of_mem _ hm)) (by have := h n List.mem_cons_self; omega)
theorem foldS_len : ∀ (ns : List Int) (hss : List (List Int)), (∀ n ∈ ns, 1 ≤ n) → ((ns.foldl crossS hss).length : Int) = hss.length * prodL ns
  | [], hss, _ => by simp [prodL]
  | n :: ns, hss, h => by
    have n1 := h n List.mem_cons_self
    rw [List.foldl_cons, foldS_len ns _ fun m hm => h m (List.mem_cons_of_mem _ hm), crossS_len, prodL_cons, Int.natCast_mul, Int.toNat_of_nonneg (by omega), Int.mul_assoc]
theorem allS_len {ns : List Int} (h : ∀ n ∈ ns, 1 ≤ n) : ((allS ns).length : Int) = prodL ns := by
  unfold allS
  rw [foldS_len ns _ h]
  simp
theorem mem_foldS : ∀ (ns : List Int) (hss : List (List Int)) (p : List Int), p ∈ ns.foldl crossS hss ↔ ∃ h ∈ hss, ∃ q, SeatOk ns q ∧ p = h ++ q
  | [], hss, p => by
    constructor
    · intro h
      exact ⟨p, h, [], True.intro, by simp⟩
    · rintro ⟨h, hh, q, sk, rfl⟩
      cases q with
      | nil => rw [List.append_nil]; exact hh
      | cons x q => exact sk.elim
  | n :: ns, hss, p => by
    rw [List.foldl_cons, mem_foldS ns]
    constructor
    · rintro ⟨h, hh, q, sk, rfl⟩
      obtain ⟨g, hg, hh⟩ := List.mem_flatMap.mp hh
      obtain ⟨i, hi, rfl⟩ := List.mem_map.mp hh
      have := List.mem_range.mp hi
      exact ⟨g, hg, (i : Int) :: q, ⟨⟨by omega, by omega⟩, sk⟩, by simp⟩
    · rintro ⟨h, hh, q, sk, rfl⟩
      cases q with
      | nil => exact sk.elim
      | cons x q =>
        obtain ⟨⟨x0, x1⟩, sk⟩ : (0 ≤ x ∧ x < n) ∧ SeatOk ns q := sk
        refine ⟨h ++ [x], List.mem_flatMap.mpr ⟨h, hh, List.mem_map.mpr ⟨x.toNat, List.mem_range.mpr (by omega), by rw [Int.toNat_of_nonneg x0]⟩⟩, q, sk, by simp⟩
theorem mem_allS {ns p : List Int} : p ∈ allS ns ↔ SeatOk ns p := by
  unfold allS
  rw [mem_foldS]
  constructor
  · rintro ⟨h, hh, q, sk, rfl⟩
    rw [List.mem_singleton.mp hh]
    exact sk
  · intro sk
    exact ⟨[], List.mem_singleton.mpr rfl, p, sk, rfl⟩
theorem rows_allS {ns : List Int} : ∀ hs ∈ allS ns, hs.length = ns.length := fun hs h => (mem_allS.mp h).len
/-- the seat as far behind p as o is ahead -/
def mirL : List Int → List Int → List Int → List Int
  | n :: ns, p :: ps, o :: os => ((2 * p - o) % n) :: mirL ns ps os
  | _, _, _ => []
theorem mirL_len : ∀ {ns ps os : List Int}, ps.length = ns.length → os.length = ns.length → (mirL ns ps os).length = ns.length
  | [], _, _, _, _ => by cases ‹List Int› <;> cases ‹List Int› <;> rfl
  | n :: ns, p :: ps, o :: os, h1, h2 => by
    simp only [mirL, List.length_cons] at *
    rw [mirL_len (by omega) (by omega)]
theorem mirL_get : ∀ {ns ps os : List Int} {i : Nat} {n p o : Int}, ns[i]? = some n → ps[i]? = some p → os[i]? = some o → (mirL ns ps os)[i]? = some ((2 * p - o) % n)
  | n :: ns, p :: ps, o :: os, 0, _, _, _, h1, h2, h3 => by
    simp at h1 h2 h3
    subst h1 h2 h3
    rfl
  | n :: ns, p :: ps, o :: os, i + 1, _, _, _, h1, h2, h3 => by
    rw [List.getElem?_cons_succ] at h1 h2 h3
    show (mirL ns ps os)[i]? = _
    exact mirL_get h1 h2 h3
  | [], _, _, _, _, _, _, h1, _, _ => by simp at h1
  | _ :: _, [], _, _, _, _, _, _, h1, _ => by simp at h1
  | _ :: _, _ :: _, [], _, _, _, _, _, _, h1 => by simp at h1
theorem mirL_seat : ∀ {ns ps os : List Int}, (∀ n ∈ ns, 1 ≤ n) → ps.length = ns.length → os.length = ns.length → SeatOk ns (mirL ns ps os)
  | [], _, _, _, _, _ => by cases ‹List Int› <;> cases ‹List Int› <;> exact True.intro
  | n :: ns, p :: ps, o :: os, h, h1, h2 => by
    have n1 := h n List.mem_cons_self
    exact ⟨⟨Int.emod_nonneg _ (by omega), Int.emod_lt_of_pos _ (by omega)⟩, mirL_seat (fun m hm => h m (List.mem_cons_of_mem _ hm)) (by simpa using h1) (by simpa using h2)⟩
/-- the call that leads from p to o -/
def toL : List Int → List Int → List Int → List Int
  | n :: ns, p :: ps, o :: os => ((o - p) % n) :: toL ns ps os
  | _, _, _ => []
theorem toL_len : ∀ {ns ps os : List Int}, ps.length = ns.length → os.length = ns.length → (toL ns ps os).length = ns.length
  | [], _, _, _, _ => by cases ‹List Int› <;> cases ‹List Int› <;> rfl
  | n :: ns, p :: ps, o :: os, h1, h2 => by
    simp only [toL, List.length_cons] at *
    rw [toL_len (by omega) (by omega)]
theorem toL_get : ∀ {ns ps os : List Int} {i : Nat} {n p o : Int}, ns[i]? = some n → ps[i]? = some p → os[i]? = some o → (toL ns ps os)[i]? = some ((o - p) % n)
  | n :: ns, p :: ps, o :: os, 0, _, _, _, h1, h2, h3 => by
    simp at h1 h2 h3
    subst h1 h2 h3
    rfl
  | n :: ns, p :: ps, o :: os, i + 1, _, _, _, h1, h2, h3 => by
    rw [List.getElem?_cons_succ] at h1 h2 h3
    show (toL ns ps os)[i]? = _
    exact toL_get h1 h2 h3
  | [], _, _, _, _, _, _, h1, _, _ => by simp at h1
  | _ :: _, [], _, _, _, _, _, _, h1, _ => by simp at h1
  | _ :: _, _ :: _, [], _, _, _, _, _, _, h1 => by simp at h1
/-- the number of a seat in a list of numbers -/
def dep (fs : List (List Int × Nat)) (p : List Int) : Option Nat := (fs.find? fun q => decide (q.1 = p)).map (·.2)
abbrev keysL (fs : List (List Int × Nat)) : List (List Int) := fs.map (·.1)
theorem dep_cons (f : List Int × Nat) (fs : List (List Int × Nat)) (p : List Int) : dep (f :: fs) p = if f.1 = p then some f.2 else dep fs p := by
  unfold dep
  rw [List.find?_cons]
  by_cases c : f.1 = p
  · rw [decide_eq_true c, if_pos c]
    rfl
  · rw [decide_eq_false c, if_neg c]
theorem dep_isSome {fs : List (List Int × Nat)} {p : List Int} : (dep fs p).isSome = decide (p ∈ keysL fs) := by
  induction fs with
  | nil => simp [dep]
  | cons f fs ih =>
    rw [dep_cons]
    by_cases c : f.1 = p
    · rw [if_pos c]
      simp [c]
    · rw [if_neg c, ih]
      have : ¬ p = f.1 := fun z => c z.symm
      simp [this]
/-- the seats that join next -/
def newL (ns : List Int) (fs : List (List Int × Nat)) (miss newest : List (List Int)) : List (List Int) := miss.filter fun s => newest.any fun o => decide (mirL ns s o ∈ keysL fs)
abbrev atD (d : Nat) (ps : List (List Int)) : List (List Int × Nat) := ps.map fun p => (p, d)
def missL (fs : List (List Int × Nat)) (miss : List (List Int)) : List (List Int) := miss.filter fun s => decide (s ∉ keysL fs)
def roundsL (ns : List Int) : Nat → List (List Int × Nat) → List (List Int) → List (List Int) → Nat → List (List Int × Nat)
  | 0, fs, _, _, _ => fs
  | f + 1, fs, miss, newest, d => if newest = [] then fs else
    roundsL ns f (fs ++ atD (d + 1) (newL ns fs miss newest)) (missL (fs ++ atD (d + 1) (newL ns fs miss newest)) miss) (newL ns fs miss newest) (d + 1)
def countsL (ns : List Int) (tss : List (List Int)) : List (List Int × Nat) := roundsL ns ((allS ns).length + 2) (atD 0 tss) (missL (atD 0 tss) (allS ns)) tss 0
theorem crossS_nodup {hss : List (List Int)} (n : Int) (h : hss.Nodup) : (crossS hss n).Nodup := by
  unfold crossS
  unfold List.Nodup at h ⊢
  rw [List.pairwise_flatMap]
  constructor
  · intro hs _
    rw [List.pairwise_map]
    refine List.Pairwise.imp (fun {a b} z e => z ?_) List.nodup_range
    have := (List.append_inj' e rfl).2
    exact Int.ofNat.inj (List.cons.inj this).1
  · refine h.imp fun {a b} z x hx y hy e => z ?_
    obtain ⟨i, _, rfl⟩ := List.mem_map.mp hx
    obtain ⟨j, _, rfl⟩ := List.mem_map.mp hy
    exact (List.append_inj' e rfl).1
theorem allS_nodup (ns : List Int) : (allS ns).Nodup := by
  unfold allS
  have : ∀ (ns : List Int) (hss : List (List Int)), hss.Nodup → (ns.foldl crossS hss).Nodup := fun ns => by
    induction ns with
    | nil => exact fun _ h => h
    | cons n ns ih => exact fun hss h => ih _ (crossS_nodup n h)
  exact this ns _ (by simp)
theorem filter_two {α : Type} {c d : α → Bool} : ∀ {l : List α}, (∀ x ∈ l, c x = true → d x = false) → (l.filter c).length + (l.filter d).length ≤ l.length
  | [], _ => by simp
  | x :: l, h => by
    have ih := filter_two (l := l) fun y hy => h y (List.mem_cons_of_mem _ hy)
    rw [List.filter_cons, List.filter_cons]
    cases hc : c x
    · cases d x <;> simp <;> omega
    · rw [h x List.mem_cons_self hc]
      simp
      omega
theorem newL_sub {ns : List Int} {fs : List (List Int × Nat)} {miss newest : List (List Int)} {p : List Int} (h : p ∈ newL ns fs miss newest) : p ∈ miss := (List.mem_filter.mp h).1
theorem keys_app (fs gs : List (List Int × Nat)) : keysL (fs ++ gs) = keysL fs ++ keysL gs := List.map_append
theorem mem_missL {fs : List (List Int × Nat)} {miss : List (List Int)} {p : List Int} : p ∈ missL fs miss ↔ p ∈ miss ∧ p ∉ keysL fs := by
  unfold missL
  rw [List.mem_filter, decide_eq_true_iff]

/-- a dict of numbers by seats -/
abbrev entK (p : List Int) : List L2.Key := p.map Sum.inl
abbrev entV (q : List Int × Nat) : List L2.Key × V := (entK q.1, V.int (q.2 : Int))
theorem entK_kV (p : List Int) : (entK p).map kV = p.map V.int := by rw [List.map_map]; rfl
theorem entK_inj {p q : List Int} (h : entK p = entK q) : p = q := by
  induction p generalizing q with
  | nil =>
    cases q with
    | nil => rfl
    | cons => cases h
  | cons a p ih =>
    cases q with
    | nil => cases h
    | cons b q =>
      obtain ⟨h1, h2⟩ := List.cons.inj h
      rw [Sum.inl.inj h1, ih h2]
def CntAt (H : Hp) (d : Addr) (fs : List (List Int × Nat)) : Prop := H d = some (.dT (fs.map entV))
theorem CntAt.mono {H H2 : Hp} {d : Addr} {fs : List (List Int × Nat)} (e : Ex H H2) (h : CntAt H d fs) : CntAt H2 d fs := e _ _ h
theorem val_ent (p : List Int) : ∀ fs : List (List Int × Nat), valV (fs.map entV) (entK p) = (dep fs p).map fun d : Nat => V.int (d : Int)
  | [] => rfl
  | f :: fs => by
    rw [List.map_cons]
    by_cases c : f.1 = p
    · rw [valV_pos (show entK f.1 = entK p by rw [c])]
      unfold dep
      rw [List.find?_cons, decide_eq_true c]
      rfl
    · rw [valV_neg (fun z => c (entK_inj z)), val_ent p fs]
      unfold dep
      rw [List.find?_cons, decide_eq_false c]
theorem cnt_get {H : Hp} {d r : Addr} {fs : List (List Int × Nat)} {p : List Int} (h : CntAt H d fs) (hr : H r = some (.tup (p.map V.int))) : DGet H d (.ref r) ((dep fs p).map fun d : Nat => V.int (d : Int)) := by
  rw [← val_ent]
  exact DGet.t h (by rw [entK_kV]; exact hr)
theorem tup_dict {q D : Addr} {H : Hp} {kvs : List (List L2.Key × V)} {ys : List V} {o : HO} (hD : H D = some (.dT kvs)) (h : H q = some (.tup ys)) : upd H D o q = some (.tup ys) := by
  rw [upd_ne (ne_of h hD (by intro z; cases z))]
  exact h
section
variable {P : Program} {w : World} {K : PySem.W.Frag} {mg : Str → Option Value} {base : Heap}
def sp_all_seats (C : Addr) : Sp := fun vs H Q _ => ∃ (a : Addr) (ns : List Int), vs = [.ref a] ∧ TabAt C H a ns ∧ SzOk ns ∧ prodL ns ≤ 300 ∧ ∀ q H2, Ex H H2 → H q = none → RowsAt H2 q (allS ns) → Q (.ref q) H2
theorem ok_all_seats (T : TX K mg) : FnOk P w K mg base CX0 2 T.f_all_seats T.fd_all_seats ["table"] (sp_all_seats T.C_Table) := by
  refine T.F_all_seats.ok sc_all_seats (fun vs H Q E h => ?_) (fun cdv A outer s H vs Q E hr h => ?_)
  · obtain ⟨a, ns, rfl, _⟩ := h
    rfl
  · obtain ⟨a, ns, rfl, ⟨dx, t, h1, h2⟩, ok, pr, k⟩ := h
    have l4 := ok.le
    refine ⟨_, (pss_cons (ps_set (i := 1) sc_all_seats.nd rfl (Or.inl rfl) (pe_lst (pa_cons (pe_tup pa_nil) pa_nil))) (pss_cons (ps_for PassesOwn.never rfl (pi_tup (pe_meth0 (pv 0) T.cl_Table T.me_Table_sizes (ok_Table_sizes T) hr T.b_Table_sizes .nil pass0)) (pg_name (i := 2) sc_all_seats.nd rfl (Or.inr rfl)) (pss_one (ps_setLc2 (own := [("start", 3), ("place", 4)]) (g := (gName 3)) (g1 := (gName 4)) (vs1 := [4]) (i := 1) rfl sc_all_seats.nd rfl rfl (sw_true rfl rfl rfl (by decide +kernel)) (pi_list (pv 1)) (blkOk_by (N := N_all_seats) (sc := defScope s_all_seats) (by decide +kernel)) (by decide) (fun _ _ _ _ _ => (pg_name (i := 3) sc_all_seats.nd rfl (Or.inl rfl))) (fun _ _ _ _ _ => pts_nil) (fun _ _ _ _ _ => (pi_range1 rfl T.z_range (pa_cons (pv 2) pa_nil))) (fun _ _ _ _ _ => (pg_name (i := 4) sc_all_seats.nd rfl (Or.inl rfl))) (fun _ _ _ _ _ => pts_nil) (fun _ _ _ _ _ => (pe_op (r := rCatA K) op_catA (pv 3) (pe_tup (pa_cons (pv 4) pa_nil))))))) (pss_one (ps_ret (pv 1))))), ?_⟩
    refine ⟨by show 0 ≤ sizeLine; decide, fun u hu => ⟨by show 1 ≤ sizeLine; decide, fun f hf => ?_⟩⟩
    have e2 : Ex H (upd (upd H u (.tup [])) f (.lst [.ref u])) := ext (exn hu) (exn hf)
    have f0 : H f = none := Evl.fresh_back (exn hu) hf
    refine ⟨_, rfl, a, dx, _, rfl, e2 _ _ h1, rfl, a, dx, t, rfl, e2 _ _ h1, t, rfl, ⟨_, SqT.of (e2 _ _ h2)⟩, ?_⟩
    refine for_it (walk_tup (xs := ns.map V.int)) (fun i σ H2 => ∃ (f : Addr) (y1 y2 y3 : Option V), σ = [some (.ref a), some (.ref f), y1, y2, y3] ∧ Ex H H2 ∧ H f = none ∧ RowsAt H2 f (allS (ns.take i))) ⟨_, _, _, _, rfl, e2, f0, _, upd_same, .cons ⟨u, rfl, by rw [upd_ne (ne_of_none upd_same hf)]; exact upd_same⟩ .nil⟩ (fun i σ H2 _ ⟨_, _, _, _, _, e, _⟩ => SqT.of (e _ _ h2)) ?_ ?_
    · rintro i x σ _ H4 hi ⟨f, y1, y2, y3, rfl, e4, f0, ra⟩ ⟨rfl, hx⟩
      obtain ⟨n, hn, rfl⟩ := map_get hx
      have n1 := ok.one n (List.mem_of_getElem? hn)
      have ezs := take_more hn
      have o1 : ∀ m ∈ ns.take i, 1 ≤ m := fun m hm => ok.one m (List.mem_of_mem_take hm)
      have len : ((allS (ns.take i)).length : Int) ≤ 300 := by
        rw [allS_len o1]
        exact Int.le_trans (prodL_take i ok.one) pr
      have nb : n ≤ 300 := by
        have a1 : prodL (ns.take (i + 1)) ≤ prodL ns := prodL_take (i + 1) ok.one
        rw [ezs, prodS_snoc] at a1
        have a2 := prodL_pos o1
        have a3 : 1 * n ≤ prodL (ns.take i) * n := Int.mul_le_mul_of_nonneg_right a2 (by omega)
        omega
      have rows : ∀ hs ∈ allS (ns.take i), hs.length ≤ 4 := fun hs hh => by
        rw [rows_allS hs hh, List.length_take]
        omega
      obtain ⟨xs, ra5, rr⟩ := ra
      generalize hh : allS (ns.take i) = hss at rr len rows
      dsimp only [gName]
      refine ⟨_, rfl, f, rfl, ⟨_, SqL.of ra5⟩, fun D hD => ?_⟩
      refine lc2_it (walk_list (xs := xs)) (fun j H => Ex H4 H ∧ RowsAt H D (crossS (hss.take j) n)) ⟨exn hD, _, upd_same, .nil⟩ (fun j H _ q => SqL.of (q.1 _ _ ra5)) ?_ ?_
      · rintro j x _ H5 hj ⟨e5, rb⟩ ⟨rfl, hx⟩
        obtain ⟨hs, r, hhs, rfl, hr4⟩ := rr.get hx
        refine ⟨rfl, ?_⟩
        refine ⟨_, rfl, n, rfl, by omega, by omega, ?_⟩
        refine in_it walk_range (fun l H => Ex H4 H ∧ RowsAt H D (crossS (hss.take j) n ++ (List.range l).map fun (i : Nat) => hs ++ [(i : Int)])) ⟨e5, ?_⟩ (fun l H _ q => True.intro) ?_ ?_
        · rw [List.range_zero, List.map_nil, List.append_nil]
          exact rb
        · rintro l x _ H7 hl ⟨e7, rc⟩ ⟨rfl, hx⟩
          obtain rfl : x = .int (l : Int) := hx.trans (congrArg V.int (Int.zero_add _))
          refine ⟨rfl, ?_⟩
          refine ⟨_, rfl, _, rfl, by show 1 ≤ sizeLine; decide, fun u hu => ?_⟩
          refine cat_row (exn hu _ _ (e7 _ _ hr4)) upd_same (Nat.le_trans (rows hs (List.mem_of_getElem? hhs)) (by decide)) fun v H8 e8 hv => ?_
          have e8' : Ex H7 H8 := ext (exn hu) e8
          obtain ⟨acc, g1, g2, g3⟩ := rows_push (rc.mono e8') hv
          refine ⟨acc, g1, ?_, ex_upd (ext e7 e8') hD, ?_⟩
          · rw [g2, List.length_append, crossS_len, List.length_map, List.length_range, List.length_take]
            have hl2 : l < n.toNat := hl
            have : min j hss.length * n.toNat ≤ 300 * 300 := Nat.mul_le_mul (by omega) (by omega)
            exact Nat.lt_of_le_of_lt (show _ ≤ 90300 by omega) (by decide)
          · rw [List.range_succ, List.map_append, ← List.append_assoc]
            exact g3
        · rintro Hz ⟨ez, rz⟩
          refine ⟨ez, ?_⟩
          rw [take_more hhs, crossS_snoc]
          exact rz
      · rintro Hz ⟨ez, rz⟩
        rw [List.take_of_length_le (by have := Paired.length rr; omega)] at rz
        refine ⟨D, _, _, _, rfl, ext e4 ez, Evl.fresh_back e4 hD, ?_⟩
        rw [ezs, allS_snoc, hh]
        exact rz
    · rintro σ H2 ⟨f, y1, y2, y3, rfl, e, f0, ra⟩
      rw [List.take_of_length_le (by simp)] at ra
      exact ⟨_, rfl, k f H2 e f0 ra⟩
def sp_mirror_seat (C : Addr) : Sp := fun vs H Q _ => ∃ (a s c : Addr) (ns ps os : List Int), vs = [.ref a, .ref s, .ref c] ∧ TabAt C H a ns ∧ SzOk ns ∧ H s = some (.tup (ps.map V.int)) ∧ H c = some (.tup (os.map V.int)) ∧ ps.length = ns.length ∧ os.length = ns.length ∧
  ∀ H2 q, Ex H H2 → H q = none → H2 q = some (.tup ((mirL ns ps os).map V.int)) → Q (.ref q) H2
theorem ok_mirror_seat (T : TX K mg) : FnOk P w K mg base CX0 2 T.f_mirror_seat T.fd_mirror_seat ["table", "seat", "other"] (sp_mirror_seat T.C_Table) := by
  refine T.F_mirror_seat.ok sc_mirror_seat (fun vs H Q E h => ?_) (fun cdv A outer s H vs Q E hr h => ?_)
  · obtain ⟨a, s, c, ns, ps, os, rfl, _⟩ := h
    rfl
  · obtain ⟨a, s, c, ns, ps, os, rfl, ⟨dx, t, h1, h2⟩, ok, hs, hc, lp, lc, k⟩ := h
    have l4 := ok.le
    refine ⟨_, (pss_one (ps_ret (pe_callTy call_tuple_of (by rfl) T.z_tuple (by decide +kernel) (pa_cons (pe_lc (own := [("place", 3), ("one", 4), ("size", 5)]) (g := (gTup K 3 (gCons (gName 3) (gCons (gName 4) (gCons (gName 5) gNil))))) rfl sc_mirror_seat.nd (CZ.pi_z3s (fl := [true, true, true]) rfl (by rfl) T.z_zip (pa_cons (pv 1) (pa_cons (pv 2) (pa_cons (pe_meth0 (pv 0) T.cl_Table T.me_Table_sizes (ok_Table_sizes T) hr T.b_Table_sizes .nil pass0) pa_nil)))) (blkOk_by (N := N_mirror_seat) (sc := defScope s_mirror_seat) (by decide +kernel)) (fun _ _ _ _ _ => (pg_tup rfl (pgs_cons (pg_name (i := 3) sc_mirror_seat.nd rfl (Or.inl rfl)) (pgs_cons (pg_name (i := 4) sc_mirror_seat.nd rfl (Or.inl rfl)) (pgs_cons (pg_name (i := 5) sc_mirror_seat.nd rfl (Or.inl rfl)) pgs_nil))))) (fun _ _ _ _ _ => pts_nil) (fun _ _ _ _ _ => (pe_op op_mod (pe_op op_sub (pe_op op_mulI pe_int (pv 3)) (pv 4)) (pv 5)))) pa_nil)))), ?_⟩
    refine ⟨_, rfl, _, rfl, _, rfl, a, dx, _, rfl, h1, rfl, a, dx, t, rfl, h1, [s, c, t], rfl, rfl, all3 (sqT hs) (sqT hc) (sqT h2), fun D hD => ?_⟩
    have ls : (mirL ns ps os).length = ns.length := mirL_len lp lc
    refine lc_vals (CZ.walk_rows (xss := [ps.map V.int, os.map V.int, ns.map V.int]) (n := ns.length) (lens3 (by rw [List.length_map, lp]) (by rw [List.length_map, lc]) (by rw [List.length_map]))) ((mirL ns ps os).map V.int) (by rw [List.length_map, ls]) (by omega) hD (fun H3 e => .cons (SqT.of (e _ _ hs)) (.cons (SqT.of (e _ _ hc)) (.cons (SqT.of (e _ _ h2)) .nil))) ?_ (gmono_tup (gmono_cons gmono_name (gmono_cons gmono_name (gmono_cons gmono_name gmono_nil)))) ?_
    · intro i y H3 H4 R hi e yy kk
      obtain ⟨Ta, p, d, n, rfl, hT, rfl, hp, hd, hn⟩ := yints3 yy
      have n1 := ok.one n (List.mem_of_getElem? hn)
      refine ⟨Ta, _, rfl, SqT.of upd_same, rfl, _, _, rfl, _, _, rfl, _, _, rfl, rfl, rfl, ?_⟩
      refine ⟨_, rfl, _, _, rfl, rfl, mul_ok (.inl (by decide)), _, rfl, _, _, rfl, rfl, _, rfl, _, _, rfl, rfl, (by show (0 : Int) < n; omega), ?_⟩
      refine kk _ _ (exn hT) ?_
      rw [List.getElem?_map, mirL_get hn hp hd]
      rfl
    · intro H3 e hD3
      exact ⟨D, _, rfl, .inl ⟨SqL.of hD3, fun q hq => k _ q (ext e (exn hq)) (Evl.fresh_back e hq) upd_same⟩⟩
end

theorem keys_atD (d : Nat) (ps : List (List Int)) : keysL (atD d ps) = ps := by
  unfold keysL atD
  rw [List.map_map]
  exact List.map_id _
theorem atD_snoc (d : Nat) (ps : List (List Int)) (p : List Int) : atD d (ps ++ [p]) = atD d ps ++ [(p, d)] := List.map_append
theorem dep_none {fs : List (List Int × Nat)} {p : List Int} (h : p ∉ keysL fs) : dep fs p = none := by
  have := dep_isSome (fs := fs) (p := p)
  rw [decide_eq_false h] at this
  exact Option.isSome_eq_false_iff.mp this |> Option.isNone_iff_eq_none.mp
theorem SqH.either {K : PySem.W.Frag} {H : Hp} : ∀ {q : Bool × Addr} {xs : List V}, SqH H q xs → SqL K H q.2 xs ∨ SqT K H q.2 xs
  | (false, _), _, h => .inl (SqL.of h)
  | (true, _), _, h => .inr (SqT.of h)
theorem eqv_ne' {css : List (List Int)} (ne : css ≠ []) : (!PyData.eqv (.list (css.map iT)) (.list (([] : List (List Int)).map iT))) = true := by
  cases css with
  | nil => exact absurd rfl ne
  | cons c r => simp [PyData.eqv, PyData.eqvAll]
theorem nodup_take {α : Type} {l : List α} (nod : l.Nodup) {i : Nat} {x : α} (h : l[i]? = some x) : x ∉ l.take i := fun z => by
  obtain ⟨j, hj⟩ := List.mem_iff_getElem?.mp z
  have jl : j < i := by
    have := (List.getElem?_eq_some_iff.mp hj).1
    rw [List.length_take] at this
    omega
  rw [List.getElem?_take_of_lt jl] at hj
  exact absurd ((List.getElem?_inj (List.getElem?_eq_some_iff.mp hj).1 nod).mp (hj.trans h.symm)) (by omega)
theorem merge_new {e : Nat} : ∀ {nw : List (List Int)} {fs : List (List Int × Nat)}, (∀ p ∈ nw, p ∉ keysL fs) → nw.Nodup → CD.mergeT (fs.map entV) ((atD e nw).map entV) = (fs ++ atD e nw).map entV
  | [], fs, _, _ => by simp [CD.mergeT]
  | p :: nw, fs, h, nod => by
    have hp := h p List.mem_cons_self
    show CD.mergeT (putK (fs.map entV) (entK p) (V.int (e : Int))) ((atD e nw).map entV) = _
    rw [putK_new _ (by rw [val_ent, dep_none hp]; rfl), show fs.map entV ++ [(entK p, V.int (e : Int))] = (fs ++ [(p, e)]).map entV by rw [List.map_append]; rfl, merge_new ?_ (List.nodup_cons.mp nod).2]
    · rw [List.append_assoc]
      rfl
    · intro r hr z
      rw [keys_app] at z
      rcases List.mem_append.mp z with z | z
      · exact h r (List.mem_cons_of_mem _ hr) z
      · have : r = p := List.mem_singleton.mp z
        exact (List.nodup_cons.mp nod).1 (this ▸ hr)
section
variable {P : Program} {w : World} {K : PySem.W.Frag} {mg : Str → Option Value} {base : Heap}
def sp_call_counts (C : Addr) : Sp := fun vs H Q _ => ∃ (a : Addr) (q : Bool × Addr) (ns : List Int) (tss : List (List Int)), vs = [.ref a, .ref q.2] ∧ TabAt C H a ns ∧ SzOk ns ∧ prodL ns ≤ 300 ∧ RowsQ H q tss ∧ tss ≠ [] ∧ tss.length ≤ 1000 ∧ (∀ ts ∈ tss, SeatOk ns ts) ∧ tss.Nodup ∧
  ∀ d H2, Ex H H2 → H d = none → CntAt H2 d (countsL ns tss) → Q (.ref d) H2
theorem ok_call_counts (T : TX K mg) : FnOk P w K mg base CX0 3 T.f_call_counts T.fd_call_counts ["table", "targets"] (sp_call_counts T.C_Table) := by
  refine T.F_call_counts.ok sc_call_counts (fun vs H Q E h => ?_) (fun cdv A outer s H vs Q E hr h => ?_)
  · obtain ⟨a, q, ns, tss, rfl, _⟩ := h
    rfl
  · obtain ⟨a, q, ns, tss, rfl, tab, ok, pr, ⟨xs, hq, rr⟩, ne, lt, sks, nod, k⟩ := h
    refine ⟨_, (pss_cons (ps_set (i := 2) sc_call_counts.nd rfl (Or.inr rfl) (CD.pe_dcT (own := [("target", 6)]) (g := (gName 6)) (hu_of hr) rfl sc_call_counts.nd (pi_seq (pv 1)) (blkOk_by (N := N_call_counts) (sc := defScope s_call_counts) (by decide +kernel)) (fun _ _ _ _ _ => (pg_name (i := 6) sc_call_counts.nd rfl (Or.inl rfl))) (fun _ _ _ _ _ => pts_nil) (fun _ _ _ _ _ => (pv 6)) (fun _ _ _ _ _ => pe_int))) (pss_cons (ps_setLc (own := [("seat", 7)]) (g := (gName 7)) (i := 3) rfl sc_call_counts.nd rfl rfl (sw_true rfl rfl rfl (by decide +kernel)) (pi_list (pe_call (ok_all_seats T) hr rfl T.m_all_seats T.F_all_seats.kp T.b_all_seats .nil pass0 (pa_cons (pv 0) pa_nil))) (blkOk_by (N := N_call_counts) (sc := defScope s_call_counts) (by decide +kernel)) (fun _ _ _ _ _ => (pg_name (i := 7) sc_call_counts.nd rfl (Or.inl rfl))) (fun _ _ _ _ _ => (pts_one (pt_cmp (pc_dnotin (hu_of hr) (pv 7) (pv 2))))) (fun _ _ _ _ _ => (pv 7))) (pss_cons (ps_asg (pe_tup (pa_cons (pe_callTy call_list_of (by rfl) T.z_list (by decide +kernel) (pa_cons (pv 1) pa_nil)) (pa_cons pe_int pa_nil))) (pg_tup rfl (pgs_cons (pg_name (i := 4) sc_call_counts.nd rfl (Or.inr rfl)) (pgs_cons (pg_name (i := 5) sc_call_counts.nd rfl (Or.inr rfl)) pgs_nil)))) (pss_cons (ps_while PassesOwn.never (pt_cmpR (r := rNeD K) (op_neD hr.units) (pv 4) (pe_lst pa_nil) (nomark _)) (pss_cons (ps_aug (i := 5) sc_call_counts.nd rfl (Or.inr rfl) pe_int ip_add) (pss_cons (ps_set (i := 4) sc_call_counts.nd rfl (Or.inr rfl) (pe_lc (own := [("seat", 7)]) (g := (gName 7)) rfl sc_call_counts.nd (pi_list (pv 3)) (blkOk_by (N := N_call_counts) (sc := defScope s_call_counts) (by decide +kernel)) (fun _ _ _ _ _ => (pg_name (i := 7) sc_call_counts.nd rfl (Or.inr rfl))) (fun _ _ _ _ _ => (pts_one (pt_val (pe_callB (r := rAny K) (cr_any rfl) (by rfl) T.z_any (by decide +kernel) (pa_cons (pe_lc (wi := iList K _) (own := [("one", 8)]) (g := (gName 8)) rfl sc_call_counts.nd (pi_list (pv 4)) (blkOk_by (N := N_call_counts) rfl) (fun _ _ _ _ _ => (pg_name (i := 8) sc_call_counts.nd rfl (Or.inl rfl))) (fun _ _ _ _ _ => pts_nil) (fun _ _ _ _ _ => (pe_cmp (pc_din (hu_of hr) (pe_call (ok_mirror_seat T) hr rfl T.m_mirror_seat T.F_mirror_seat.kp T.b_mirror_seat .nil pass0 (pa_cons (pv 0) (pa_cons (pv 7) (pa_cons (pv 8) pa_nil)))) (pv 2))))) pa_nil))))) (fun _ _ _ _ _ => (pv 7)))) (pss_cons (ps_expr (pe_bm PySem.F.plainAttrs_dict PySem.F.slot_dict_update PySem.F.type_dict_update (CD.mt_updT (hu_of hr)) (pv 2) (pa_cons (CD.pe_dcT (own := [("seat", 7)]) (g := (gName 7)) (hu_of hr) rfl sc_call_counts.nd (pi_list (pv 4)) (blkOk_by (N := N_call_counts) (sc := defScope s_call_counts) (by decide +kernel)) (fun _ _ _ _ _ => (pg_name (i := 7) sc_call_counts.nd rfl (Or.inl rfl))) (fun _ _ _ _ _ => pts_nil) (fun _ _ _ _ _ => (pv 7)) (fun _ _ _ _ _ => (pv 5))) pa_nil))) (pss_one (ps_setLc (own := [("seat", 7)]) (g := (gName 7)) (i := 3) rfl sc_call_counts.nd rfl rfl (sw_true rfl rfl rfl (by decide +kernel)) (pi_list (pv 3)) (blkOk_by (N := N_call_counts) (sc := defScope s_call_counts) (by decide +kernel)) (fun _ _ _ _ _ => (pg_name (i := 7) sc_call_counts.nd rfl (Or.inl rfl))) (fun _ _ _ _ _ => (pts_one (pt_cmp (pc_dnotin (hu_of hr) (pv 7) (pv 2))))) (fun _ _ _ _ _ => (pv 7)))))))) (pss_one (ps_ret (pv 2))))))), ?_⟩
    have lx : xs.length = tss.length := Paired.length rr
    -- found
    refine ⟨_, rfl, q, rfl, ⟨_, hq.sq⟩, fun D hD => ?_⟩
    refine CD.dcT_it (walk_seq (xs := xs)) (fun i Hx => Ex H Hx ∧ CntAt Hx D (atD 0 (tss.take i))) ⟨exn hD, upd_same⟩ (fun i Hx _ p => (hq.mono p.1).sq) ?_ ?_
    · rintro i x _ Hx hi ⟨ex, hc⟩ ⟨rfl, hx⟩
      obtain ⟨ts, r, hts, rfl, hr2⟩ := rr.get hx
      have hn : ts ∉ tss.take i := fun z => by
        obtain ⟨j, hj⟩ := List.mem_iff_getElem?.mp z
        have jl : j < i := by
          have := (List.getElem?_eq_some_iff.mp hj).1
          rw [List.length_take] at this
          omega
        rw [List.getElem?_take_of_lt jl] at hj
        exact absurd ((List.getElem?_inj (List.getElem?_eq_some_iff.mp hj).1 nod).mp (hj.trans hts.symm)) (by omega)
      refine ⟨rfl, _, rfl, _, entK ts, r, rfl, by rw [entK_kV]; exact ex _ _ hr2, hc, ?_, ex_upd ex hD, ?_⟩
      · rw [List.length_map, List.length_map, List.length_take]
        exact Nat.lt_of_le_of_lt (show _ ≤ 1000 by omega) (by decide)
      · show upd _ _ _ _ = _
        rw [upd_same, putK_new _ (by rw [val_ent, dep_none (by rw [keys_atD]; exact hn)]; rfl), take_more hts, atD_snoc, List.map_append]
        rfl
    rintro H1 ⟨e1, hc1⟩
    rw [List.take_of_length_le (by omega)] at hc1
    dsimp only [gName]
    -- missing
    refine ⟨_, rfl, a, ns, rfl, tab.mono e1, ok, pr, fun sl H2 e2 nsl ⟨ys, hsl, rs⟩ => ⟨sl, rfl, ⟨_, SqL.of hsl⟩, fun D2 hD2 => ?_⟩⟩
    have ly : ys.length = (allS ns).length := Paired.length rs
    have lA : (allS ns).length ≤ 300 := by have := allS_len ok.one; omega
    have hc2 := hc1.mono e2
    refine lc_filt (walk_list (xs := ys)) (ys.zip (allS ns)) (fun z => decide (z.2 ∉ keysL (atD 0 tss))) (fun z => z.1) (by rw [List.length_zip]; omega) (by omega) hD2 (fun Hx ex => SqL.of (ex _ _ hsl)) ?_ ?_
    · rintro i x ⟨z1, z2⟩ _ Hx R S hz ex ⟨rfl, hx⟩ kR kS
      obtain ⟨hz1, hz2⟩ := zip_at2 hz
      obtain ⟨p, r, hp, rfl, hr2⟩ := rs.get hx
      obtain rfl : p = z2 := Option.some.inj (hp.symm.trans hz2)
      obtain rfl : V.ref r = z1 := Option.some.inj (hx.symm.trans hz1)
      refine ⟨rfl, _, rfl, _, rfl, D, _, rfl, cnt_get (hc2.mono ex) (ex _ _ hr2), _, rfl, ?_⟩
      rw [Option.isSome_map, dep_isSome]
      by_cases c : p ∈ keysL (atD 0 tss)
      · exact itf (by rw [decide_eq_true c]; rfl) (kS _ exr (decide_eq_false (not_not_intro c)))
      · exact itt (by rw [decide_eq_false c]; rfl) ⟨_, rfl, kR _ _ exr (decide_eq_true c) rfl⟩
    intro H3 e3 hD3
    have rm : RowsR H3 (((ys.zip (allS ns)).filter fun z => decide (z.2 ∉ keysL (atD 0 tss))).map fun z => z.1) (missL (atD 0 tss) (allS ns)) := RowsR.filt (fun s => decide (s ∉ keysL (atD 0 tss))) (rs.mono e3)
    generalize (((ys.zip (allS ns)).filter fun z => decide (z.2 ∉ keysL (atD 0 tss))).map fun z => z.1) = zs at hD3 rm
    dsimp only [gName]
    -- newest, depth
    have E3 : Ex H H3 := ext e1 (ext e2 e3)
    have hq3 := hq.mono E3
    refine ⟨_, rfl, q.2, xs, rfl, hq3.either, fun nl hnl => ?_⟩
    generalize hG4 : upd H3 nl _ = H4
    have e4 := exG hG4 hnl
    have hnl4 := atG hG4
    clear hG4
    refine ⟨slen rfl, ?_⟩
    (intro tp ntp; generalize hGtp : upd _ tp _ = H5; have eH5 := exG hGtp ntp; have htp := atG hGtp; clear hGtp)
    refine ⟨tp, _, rfl, SqT.of htp, rfl, _, _, rfl, _, _, rfl, rfl, ?_⟩
    have E5 : Ex H H5 := ext E3 (ext e4 eH5)
    have E35 : Ex H3 H5 := ext e4 eH5
    refine ⟨fun m σ Hx => ∃ (fs : List (List Int × Nat)) (miss newest : List (List Int)) (d : Nat) (ml nl : Addr) (zs ws : List V), σ = [some (.ref a), some (.ref q.2), some (.ref D), some (.ref ml), some (.ref nl), some (.int (d : Int)), none, none, none] ∧ Ex H Hx ∧ CntAt Hx D fs ∧ Hx ml = some (.lst zs) ∧ RowsR Hx zs miss ∧ Hx nl = some (.lst ws) ∧ RowsR Hx ws newest ∧ roundsL ns m fs miss newest d = countsL ns tss ∧
        miss.length + (if newest = [] then 0 else 1) < m ∧ (∀ p ∈ miss, SeatOk ns p) ∧ (∀ p ∈ newest, SeatOk ns p) ∧ fs ≠ [] ∧ fs.length + miss.length ≤ 1300 ∧ (∀ p ∈ miss, p ∉ keysL fs) ∧ miss.Nodup ∧ newest.length ≤ 1300,
      ⟨(allS ns).length + 2, atD 0 tss, missL (atD 0 tss) (allS ns), tss, 0, D2, nl, zs, xs, rfl, E5, hc2.mono (ext e3 E35), E35 _ _ hD3, rm.mono E35, eH5 _ _ hnl4, rr.mono E5, rfl, ?_, fun p hp => mem_allS.mp (mem_missL.mp hp).1, sks, ?_, ?_, fun p hp => (mem_missL.mp hp).2, (allS_nodup ns).filter _, by omega⟩, ?_⟩
    · rw [if_neg ne]
      have : (missL (atD 0 tss) (allS ns)).length ≤ (allS ns).length := List.length_filter_le _ _
      omega
    · intro z
      exact ne (List.map_eq_nil_iff.mp z)
    · have : (missL (atD 0 tss) (allS ns)).length ≤ (allS ns).length := List.length_filter_le _ _
      rw [List.length_map]
      omega
    clear hc1 hc2 hD3 rm hnl4
    rintro m σ Hx ⟨fs, miss, newest, d, ml, nl, zs, ws, rfl, ex, hcx, hml, rz, hnl, rw', eqR, mlt, okm, okn, fne, flen, disj, mnod, nlen⟩
    refine ⟨_, rfl, slen rfl, ?_⟩
    (intro el nel; generalize hGel : upd _ el _ = H6; have eH6 := exG hGel nel; have hel := atG hGel; clear hGel)
    have shR : ∀ rows : List (List Int), Sh 60 (.list (rows.map iT)) := fun rows => sh_rows (n := 58) rows
    refine ⟨_, _, .lst (SqL.of (eH6 _ _ hnl)) (rw'.mono eH6).dp, .lst (SqL.of hel) (RowsR.dp (hss := []) .nil), (shR newest).ok, (shR []).ok, _, rfl, ?_⟩
    have ex6 := ext ex eH6
    by_cases c : newest = []
    · subst c
      refine itf (by rw [eqv_refl _ (shR []).1]; rfl) ?_
      obtain ⟨m, rfl⟩ : ∃ m', m = m' + 1 := ⟨m - 1, by omega⟩
      rw [roundsL, if_pos rfl] at eqR
      exact ⟨_, rfl, k D H6 ex6 hD (eqR ▸ hcx.mono eH6)⟩
    refine itt (eqv_ne' c) ⟨_, fun _ _ h => h, ?_⟩
    obtain ⟨m, rfl⟩ : ∃ m', m = m' + 1 := ⟨m - 1, by omega⟩
    rw [roundsL, if_neg c] at eqR
    rw [if_neg c] at mlt
    refine ⟨_, rfl, _, _, rfl, rfl, ?_⟩
    dsimp only [gName]
    -- newest
    have hml6 := eH6 _ _ hml
    have rz6 := rz.mono eH6
    have hnl6 := eH6 _ _ hnl
    have rw6 := rw'.mono eH6
    have hcx6 := hcx.mono eH6
    have lz : zs.length = miss.length := Paired.length rz
    have lw : ws.length = newest.length := Paired.length rw'
    refine ⟨_, rfl, ml, rfl, ⟨_, SqL.of hml6⟩, fun D3 hD3 => ?_⟩
    refine lc_filt (walk_list (xs := zs)) (zs.zip miss) (fun z => newest.any fun o => decide (mirL ns z.2 o ∈ keysL fs)) (fun z => z.1) (by rw [List.length_zip]; omega) (by omega) hD3 (fun Hy ey => SqL.of (ey _ _ hml6)) ?_ ?_
    · rintro i x ⟨z1, z2⟩ _ Hy R S hz ey ⟨rfl, hx⟩ kR kS
      obtain ⟨hz1, hz2⟩ := zip_at2 hz
      obtain ⟨p, r, hp, rfl, hr2⟩ := rz6.get hx
      obtain rfl : p = z2 := Option.some.inj (hp.symm.trans hz2)
      obtain rfl : V.ref r = z1 := Option.some.inj (hx.symm.trans hz1)
      have skp := okm p (List.mem_of_getElem? hp)
      refine ⟨rfl, ?_⟩
      refine ⟨_, rfl, nl, rfl, ⟨_, SqL.of (ey _ _ hnl6)⟩, fun D4 hD4 => ?_⟩
      refine lc_vals (walk_list (xs := ws)) ((newest.map fun o => decide (mirL ns p o ∈ keysL fs)).map V.bl) (by rw [List.length_map, List.length_map, lw]) (by omega) hD4 (fun Hz ez => SqL.of (ez _ _ (ey _ _ hnl6))) ?_ gmono_name ?_
      · rintro j x _ Hz R2 hj ez ⟨rfl, hx2⟩ kk
        obtain ⟨o, ro, ho, rfl, hro⟩ := rw6.get hx2
        have sko := okn o (List.mem_of_getElem? ho)
        have Ez := ext ey ez
        refine ⟨rfl, _, rfl, _, rfl, _, rfl, a, r, ro, ns, p, o, rfl, (tab.mono ex6).mono Ez, ok, Ez _ _ hr2, Ez _ _ hro, skp.len, sko.len, fun Hw qm ew nqm hqm => ?_⟩
        refine ⟨_, rfl, D, _, rfl, cnt_get (hcx6.mono (ext Ez ew)) hqm, ?_⟩
        rw [Option.isSome_map, dep_isSome]
        refine kk _ _ ew ?_
        rw [List.getElem?_map, List.getElem?_map, ho]
        rfl
      intro Hz ez hD4z
      refine ⟨D4, _, rfl, SqL.of hD4z, _, rfl, ?_⟩
      have ea : (newest.map fun o => decide (mirL ns p o ∈ keysL fs)).any id = newest.any fun o => decide (mirL ns p o ∈ keysL fs) := by rw [List.any_map]; rfl
      rw [ea]
      cases ca : newest.any fun o => decide (mirL ns p o ∈ keysL fs)
      · exact itf rfl (kS _ ez ca)
      · exact itt rfl ⟨_, rfl, kR _ _ ez ca rfl⟩
    intro H7 e7 hD37
    have rn : RowsR H7 (((zs.zip miss).filter fun z => newest.any fun o => decide (mirL ns z.2 o ∈ keysL fs)).map fun z => z.1) (newL ns fs miss newest) := RowsR.filt (fun s => newest.any fun o => decide (mirL ns s o ∈ keysL fs)) (rz6.mono e7)
    generalize (((zs.zip miss).filter fun z => newest.any fun o => decide (mirL ns z.2 o ∈ keysL fs)).map fun z => z.1) = us at hD37 rn
    have nws : ∀ p ∈ newL ns fs miss newest, p ∈ miss := fun p hp => newL_sub hp
    have nwn : (newL ns fs miss newest).Nodup := mnod.filter _
    have nwl : (newL ns fs miss newest).length + (missL (fs ++ atD (d + 1) (newL ns fs miss newest)) miss).length ≤ miss.length := filter_two fun p hp hc => decide_eq_false (not_not_intro (by
      rw [keys_app, keys_atD]
      exact List.mem_append_right _ (List.mem_filter.mpr ⟨hp, hc⟩)))
    have nw0 : newL ns fs miss newest = [] ∨ 0 < (newL ns fs miss newest).length := by
      cases newL ns fs miss newest with
      | nil => exact .inl rfl
      | cons => exact .inr (by simp)
    generalize newL ns fs miss newest = nw at rn nws nwn nwl nw0 eqR
    have hml7 := e7 _ _ hml6
    have rz7 := rz6.mono e7
    have hcx7 := hcx6.mono e7
    have lu : us.length = nw.length := Paired.length rn
    dsimp only [gName]
    -- update
    refine ⟨_, rfl, .inr (.inr (.inl ⟨rfl, .inr ⟨_, hcx7⟩⟩)), ?_⟩
    refine ⟨_, rfl, D3, rfl, ⟨_, SqL.of hD37⟩, fun D5 hD5 => ?_⟩
    refine CD.dcT_it (walk_list (xs := us)) (fun i Hy => Ex H7 Hy ∧ CntAt Hy D5 (atD (d + 1) (nw.take i))) ⟨exn hD5, upd_same⟩ (fun i Hy _ p => SqL.of (p.1 _ _ hD37)) ?_ ?_
    · rintro i x _ Hy hi ⟨ey, hc⟩ ⟨rfl, hx⟩
      obtain ⟨p, r, hp, rfl, hr2⟩ := rn.get hx
      have hn : p ∉ nw.take i := nodup_take nwn hp
      refine ⟨rfl, _, rfl, _, rfl, _, entK p, r, rfl, by rw [entK_kV]; exact ey _ _ hr2, hc, ?_, ex_upd ey hD5, ?_⟩
      · rw [List.length_map, List.length_map, List.length_take]
        exact Nat.lt_of_le_of_lt (show _ ≤ 1300 by omega) (by decide)
      · show upd _ _ _ _ = _
        rw [upd_same, putK_new _ (by rw [val_ent, dep_none (by rw [keys_atD]; exact hn)]; rfl), take_more hp, atD_snoc, List.map_append]
        rfl
    rintro H8 ⟨e8, hc8⟩
    rw [List.take_of_length_le (by omega)] at hc8
    have hcx8 := hcx7.mono e8
    have nD5 : D ≠ D5 := ne_of_none hcx7 hD5
    refine ⟨D, D5, _, _, rfl, rfl, nD5, hcx8, hc8, (.inl fun z => fne (List.map_eq_nil_iff.mp z)), ?_, ?_⟩
    · rw [List.length_map, List.length_map, List.length_map]
      exact Nat.le_trans (show _ ≤ 2600 by omega) (by decide)
    rw [merge_new (fun p hp z => disj p (nws p hp) z) nwn]
    generalize hG9 : upd H8 D _ = H9
    have hc9 : CntAt H9 D (fs ++ atD (d + 1) nw) := by rw [← hG9]; exact upd_same
    have tp9 : ∀ c zs, H8 c = some (.tup zs) → H9 c = some (.tup zs) := fun c zs z => hG9 ▸ tup_dict hcx8 z
    have ls9 : ∀ c zs, H8 c = some (.lst zs) → H9 c = some (.lst zs) := fun c zs z => by
      rw [← hG9, upd_ne (ne_of z hcx8 (by intro z; cases z))]
      exact z
    have ex9 : Ex H H9 := hG9 ▸ ex_upd (ext ex6 (ext e7 e8)) hD
    clear hG9
    have hml9 := ls9 _ _ (e8 _ _ hml7)
    have rz9 := (rz7.mono e8).monoT tp9
    have hD39 := ls9 _ _ (e8 _ _ hD37)
    have rn9 := (rn.mono e8).monoT tp9
    dsimp only [gName]
    -- missing
    refine ⟨_, rfl, ml, rfl, ⟨_, SqL.of hml9⟩, fun D6 hD6 => ?_⟩
    refine lc_filt (walk_list (xs := zs)) (zs.zip miss) (fun z => decide (z.2 ∉ keysL (fs ++ atD (d + 1) nw))) (fun z => z.1) (by rw [List.length_zip]; omega) (by omega) hD6 (fun Hy ey => SqL.of (ey _ _ hml9)) ?_ ?_
    · rintro i x ⟨z1, z2⟩ _ Hy R S hz ey ⟨rfl, hx⟩ kR kS
      obtain ⟨hz1, hz2⟩ := zip_at2 hz
      obtain ⟨p, r, hp, rfl, hr2⟩ := rz9.get hx
      obtain rfl : p = z2 := Option.some.inj (hp.symm.trans hz2)
      obtain rfl : V.ref r = z1 := Option.some.inj (hx.symm.trans hz1)
      refine ⟨rfl, _, rfl, _, rfl, D, _, rfl, cnt_get (hc9.mono ey) (ey _ _ hr2), _, rfl, ?_⟩
      rw [Option.isSome_map, dep_isSome]
      by_cases c : p ∈ keysL (fs ++ atD (d + 1) nw)
      · exact itf (by rw [decide_eq_true c]; rfl) (kS _ exr (decide_eq_false (not_not_intro c)))
      · exact itt (by rw [decide_eq_false c]; rfl) ⟨_, rfl, kR _ _ exr (decide_eq_true c) rfl⟩
    intro Ha ea hDa
    have ra : RowsR Ha (((zs.zip miss).filter fun z => decide (z.2 ∉ keysL (fs ++ atD (d + 1) nw))).map fun z => z.1) (missL (fs ++ atD (d + 1) nw) miss) := RowsR.filt (fun s => decide (s ∉ keysL (fs ++ atD (d + 1) nw))) (rz9.mono ea)
    refine ⟨m, Nat.lt_succ_self m, fs ++ atD (d + 1) nw, missL (fs ++ atD (d + 1) nw) miss, nw, d + 1, D6, D3, _, us, rfl, ext ex9 ea, hc9.mono ea, hDa, ra, ea _ _ hD39, rn9.mono ea, eqR, ?_, fun p hp => okm p (mem_missL.mp hp).1, fun p hp => okm p (nws p hp), (fun z => fne (List.append_eq_nil_iff.mp z).1), ?_, fun p hp => (mem_missL.mp hp).2, mnod.filter _, ?_⟩
    · rcases nw0 with z | z
      · rw [if_pos z]
        omega
      · rw [if_neg (fun e => by rw [e] at z; cases z)]
        omega
    · rw [List.length_append, List.length_map]
      omega
    · omega
end

section
variable {P : Program} {w : World} {K : PySem.W.Frag} {mg : Str → Option Value} {base : Heap}
def sp_Table_count (C : Addr) : Sp := fun vs H Q _ => ∃ (a : Addr) (ns : List Int), vs = [.ref a] ∧ TabAt C H a ns ∧ SzOk ns ∧ prodL ns ≤ 10 ^ 9 ∧ Q (.int (prodL ns)) H
theorem ok_Table_count (T : TX K mg) : FnOk P w K mg base CX0 1 T.f_Table_count T.fd_Table_count ["self"] (sp_Table_count T.C_Table) := by
  refine T.F_Table_count.ok sc_Table_count (fun vs H Q E h => ?_) (fun cdv A outer s H vs Q E hr h => ?_)
  · obtain ⟨a, ns, rfl, _⟩ := h
    rfl
  · obtain ⟨a, ns, rfl, ⟨dx, t, h1, h2⟩, ok, hB, k⟩ := h
    refine ⟨_, (pss_cons (ps_set (i := 1) sc_Table_count.nd rfl (Or.inl rfl) pe_int) (pss_cons (ps_for PassesOwn.never rfl (pi_tup (pe_fld (pv 0) rfl)) (pg_name (i := 2) sc_Table_count.nd rfl (Or.inl rfl)) (pss_one (ps_set (i := 1) sc_Table_count.nd rfl (Or.inl rfl) (pe_op op_mulI (pv 1) (pv 2))))) (pss_one (ps_ret (pv 1))))), ?_⟩
    refine ⟨_, rfl, a, _, dx, _, _, rfl, h1, T.cl_Table, T.n_Table_rings, rfl, t, rfl, ⟨_, SqT.of h2⟩, ?_⟩
    refine for_it (walk_tup (xs := ns.map V.int)) (fun i σ H2 => ∃ y : Option V, σ = [some (.ref a), some (.int (prodL (ns.take i))), y] ∧ H2 = H) ⟨none, rfl, rfl⟩ (fun i σ H2 _ ⟨_, _, e⟩ => by rw [e]; exact SqT.of h2) ?_ ?_
    · rintro i x σ H2 H3 hi ⟨y, rfl, rfl⟩ ⟨rfl, hx⟩
      obtain ⟨n, hn, rfl⟩ := map_get hx
      have b1 : 1 ≤ prodL (ns.take i) := prodL_pos fun m hm => ok.one m (List.mem_of_mem_take hm)
      have b2 : prodL (ns.take i) ≤ 10 ^ 9 := Int.le_trans (prodL_take i ok.one) hB
      refine ⟨_, rfl, _, rfl, _, _, rfl, rfl, mul_ok (.inl ⟨by omega, by omega⟩), some (.int n), ?_, rfl⟩
      rw [take_more hn, prodS_snoc]
      rfl
    · rintro σ H2 ⟨y, rfl, rfl⟩
      rw [List.length_map, List.take_length]
      exact ⟨_, rfl, k⟩
def sp_require_small (C : Addr) : Sp := fun vs H Q _ => ∃ (a : Addr) (ns : List Int), vs = [.ref a] ∧ TabAt C H a ns ∧ SzOk ns ∧ prodL ns ≤ 300 ∧ Q .non H
theorem ok_require_small (T : TX K mg) : FnOk P w K mg base CX0 2 T.f_require_small T.fd_require_small ["table"] (sp_require_small T.C_Table) := by
  refine T.F_require_small.ok sc_require_small (fun vs H Q E h => ?_) (fun cdv A outer s H vs Q E hr h => ?_)
  · obtain ⟨a, ns, rfl, _⟩ := h
    rfl
  · obtain ⟨a, ns, rfl, tab, ok, hB, k⟩ := h
    obtain ⟨dx, t, h1, h2⟩ := id tab
    refine ⟨_, (pss_one (ps_if (pt_cmpR op_gt (pe_meth0 (pv 0) T.cl_Table T.me_Table_count (ok_Table_count T) hr T.b_Table_count .nil pass0) (pe_glob (v := .int 300) rfl T.c_SMALL ⟨_, rfl⟩) (nomark _)) pss_never pss_nil)), ?_⟩
    refine ⟨_, rfl, a, dx, _, rfl, h1, rfl, a, ns, rfl, tab, ok, Int.le_trans hB (by decide), ?_⟩
    refine ⟨_, _, rfl, rfl, _, rfl, itf (decide_eq_false (by show ¬ (300 : Int) < prodL ns; omega)) k⟩
end

/-- the list of words -/
abbrev wordsV (ws : List Bool) : List V := ws.map fun b => V.str (awayW b)
theorem notStr_lst {K : PySem.W.Frag} {H : Hp} {a : Addr} {xs : List V} (h : H a = some (.lst xs)) : StrA K H (.ref a) none := ⟨_, .base (.lst h), kit_ty (by decide +kernel)⟩
theorem notStr_tup {K : PySem.W.Frag} {H : Hp} {a : Addr} {xs : List V} (h : H a = some (.tup xs)) : StrA K H (.ref a) none := ⟨_, .base (.tup h), kit_ty (by decide +kernel)⟩
theorem eqv_ne {css : List (List Int)} (ne : css ≠ []) : (!PyData.eqv (.list (css.map iT)) (.list (([] : List (List Int)).map iT))) = true := by
  cases css with
  | nil => exact absurd rfl ne
  | cons c r => simp [PyData.eqv, PyData.eqvAll]
theorem iteT' {c : Bool} {A B : Prop} (hc : c = true) (h : A) : if c = true then A else B := by
  rw [if_pos hc]
  exact h
abbrev wordsD (ws : List Bool) : List PyData := ws.map fun b => PyData.str (awayW b)
theorem dp_words {K : PySem.W.Frag} {H : Hp} : ∀ ws : List Bool, DpAll K H (wordsV ws) (wordsD ws)
  | [] => .nil
  | b :: ws => .cons (.str _) (dp_words ws)
theorem sh_words (ws : List Bool) : Sh 60 (.list (wordsD ws)) := sh_list (n := 59) fun d hd => by
  obtain ⟨b, _, rfl⟩ := List.mem_map.mp hd
  cases b <;> exact ⟨by simp only [PyData.canLay0]; decide +kernel, by simp only [PyData.depth]; omega⟩
theorem eqv_neW {ws : List Bool} (ne : ws ≠ []) : (!PyData.eqv (.list (wordsD ws)) (.list (wordsD []))) = true := by
  cases ws with
  | nil => exact absurd rfl ne
  | cons c r => simp [PyData.eqv, PyData.eqvAll]
section
variable {P : Program} {w : World} {K : PySem.W.Frag} {mg : Str → Option Value} {base : Heap}
def sp_is_layers (K : PySem.W.Frag) : Sp := fun vs H Q _ => ∃ x, vs = [x] ∧ ((StrA K H x none ∧ Q (.bl false) H) ∨ (x = .str "layers" ∧ Q (.bl true) H))
theorem ok_is_layers (T : TX K mg) : FnOk P w K mg base CX0 1 T.f_is_layers T.fd_is_layers ["strategy"] (sp_is_layers K) := by
  refine T.F_is_layers.ok sc_is_layers (fun vs H Q E h => ?_) (fun cdv A outer s H vs Q E hr h => ?_)
  · obtain ⟨x, rfl, _⟩ := h
    rfl
  · obtain ⟨x, rfl, h⟩ := h
    refine ⟨_, (pss_one (ps_ret (pe_and (pe_callB call_isi (by rfl) T.z_isinstance (by decide +kernel) (pa_cons (pv 0) (pa_cons (pe_bltn (v := .ty "str") rfl T.z_str (by decide +kernel) rfl) pa_nil))) (pe_one (pe_cmpR op_eq (pv 0) (pe_glob (v := .str "layers") rfl T.c_LAYERS ⟨_, rfl⟩) (nomark _)))))), ?_⟩
    rcases h with ⟨⟨t, ht, hk⟩, k⟩ | ⟨rfl, k⟩
    · exact ⟨_, rfl, _, _, _, _, false, rfl, .ty _, ht, hk, _, rfl, k⟩
    · exact ⟨_, rfl, _, _, _, _, true, rfl, .ty _, .base (.str _), kit_ty (by decide +kernel), _, rfl, iteT ⟨_, rfl, rfl, k⟩⟩
def sp_copied : Sp := fun vs H Q _ => ∃ (x : V) (S : Hp → V → Prop), vs = [x] ∧ ((∃ (q : Bool × Addr) (xs : List V), x = .ref q.2 ∧ SqH H q xs ∧ ∀ p H2, Ex H H2 → (q.1 = false → H p = none) → SqH H2 (q.1, p) xs → S H2 (.ref p)) ∨ ∃ s : Str, x = .str s ∧ S H x) ∧ ∀ y H2, Ex H H2 → S H2 y → Q y H2
theorem ok_copied (T : TX K mg) : FnOk P w K mg base CX0 1 T.f_copied T.fd_copied ["strategy"] sp_copied := by
  refine T.F_copied.ok sc_copied (fun vs H Q E h => ?_) (fun cdv A outer s H vs Q E hr h => ?_)
  · obtain ⟨x, S, rfl, _⟩ := h
    rfl
  · refine ⟨_, (pss_one (ps_ret (pe_ifExp (pt_val (pe_callB call_isi (by rfl) T.z_isinstance (by decide +kernel) (pa_cons (pv 0) (pa_cons (pe_bltn (v := .ty "list") rfl T.z_list (by decide +kernel) rfl) pa_nil)))) (pe_callTy call_list_of (by rfl) T.z_list (by decide +kernel) (pa_cons (pv 0) pa_nil)) (pv 0)))), ?_⟩
    obtain ⟨x, S, rfl, h, kk⟩ := h
    rcases h with ⟨⟨b, a⟩, xs, rfl, hq, k⟩ | ⟨s, rfl, k⟩
    · cases b with
      | false =>
        have hq : H a = some (.lst xs) := hq
        refine ⟨_, rfl, _, _, _, _, true, rfl, .ty _, .base (.lst hq), kit_ty (by decide +kernel), _, rfl, itt rfl ?_⟩
        exact ⟨_, rfl, a, _, rfl, .inl (SqL.of hq), fun p hp => kk _ _ (exn hp) (k p _ (exn hp) (fun _ => hp) upd_same)⟩
      | true =>
        have hq : H a = some (.tup xs) := hq
        refine ⟨_, rfl, _, _, _, _, false, rfl, .ty _, .base (.tup hq), kit_ty (by decide +kernel), _, rfl, itf rfl ?_⟩
        exact ⟨_, rfl, kk _ _ exr (k a H exr (fun z => by cases z) hq)⟩
    · refine ⟨_, rfl, _, _, _, _, false, rfl, .ty _, .base (.str _), kit_ty (by decide +kernel), _, rfl, itf rfl ?_⟩
      exact ⟨_, rfl, kk _ _ exr k⟩
def sp_depths_for (K : PySem.W.Frag) (C : Addr) : Sp := fun vs H Q _ => ∃ (t g x : V) (S : Hp → V → Prop), vs = [t, g, x] ∧ ((StrA K H x none ∧ S H .non) ∨ ∃ (a : Addr) (q : Bool × Addr) (ns : List Int) (tss : List (List Int)), x = .str "layers" ∧ t = .ref a ∧ g = .ref q.2 ∧ TabAt C H a ns ∧ SzOk ns ∧ prodL ns ≤ 300 ∧ RowsQ H q tss ∧ tss ≠ [] ∧ tss.length ≤ 1000 ∧ (∀ ts ∈ tss, SeatOk ns ts) ∧ tss.Nodup ∧
  ∀ d H2, Ex H H2 → H d = none → CntAt H2 d (countsL ns tss) → S H2 (.ref d)) ∧ ∀ y H2, Ex H H2 → S H2 y → Q y H2
theorem ok_depths_for (T : TX K mg) : FnOk P w K mg base CX0 4 T.f_depths_for T.fd_depths_for ["table", "targets", "strategy"] (sp_depths_for K T.C_Table) := by
  refine T.F_depths_for.ok sc_depths_for (fun vs H Q E h => ?_) (fun cdv A outer s H vs Q E hr h => ?_)
  · obtain ⟨t, g, x, S, rfl, _⟩ := h
    rfl
  · obtain ⟨t, g, x, S, rfl, h, kk⟩ := h
    refine ⟨_, (pss_cons (ps_if (pt_not (pt_val (pe_call (ok_is_layers T) (hr.mono (by decide)) rfl T.m_is_layers T.F_is_layers.kp T.b_is_layers .nil pass0 (pa_cons (pv 2) pa_nil)))) (pss_one (ps_ret pe_non)) pss_nil) (pss_cons (ps_expr (pe_call (ok_require_small T) (hr.mono (by decide)) rfl T.m_require_small T.F_require_small.kp T.b_require_small .nil pass0 (pa_cons (pv 0) pa_nil))) (pss_one (ps_ret (pe_call (ok_call_counts T) hr rfl T.m_call_counts T.F_call_counts.kp T.b_call_counts .nil pass0 (pa_cons (pv 0) (pa_cons (pv 1) pa_nil))))))), ?_⟩
    rcases h with ⟨hx, k⟩ | ⟨a, q, ns, tss, rfl, rfl, rfl, tab, ok, pr, hq, ne, lt, sks, nod, k⟩
    · exact ⟨_, rfl, x, rfl, .inl ⟨hx, _, rfl, itt rfl (kk _ _ exr k)⟩⟩
    · refine ⟨_, rfl, _, rfl, .inr ⟨rfl, _, rfl, itf rfl ?_⟩⟩
      refine ⟨_, rfl, a, ns, rfl, tab, ok, pr, ?_⟩
      exact ⟨_, rfl, _, rfl, a, q, ns, tss, rfl, tab, ok, pr, hq, ne, lt, sks, nod, fun d H2 e n c => kk _ _ e (k d H2 e n c)⟩
def sp_is_directions : Sp := fun vs H Q _ => ∃ (l : Addr), vs = [.ref l] ∧ ((∃ xs, H l = some (.tup xs) ∧ Q (.bl false) H) ∨ ∃ ws : List Bool, H l = some (.lst (wordsV ws)) ∧ ws ≠ [] ∧ ws.length ≤ 100000 ∧ ∀ H2, Ex H H2 → Q (.bl true) H2)
theorem ok_is_directions (T : TX K mg) : FnOk P w K mg base CX0 2 T.f_is_directions T.fd_is_directions ["strategy"] sp_is_directions := by
  refine T.F_is_directions.ok sc_is_directions (fun vs H Q E h => ?_) (fun cdv A outer s H vs Q E hr h => ?_)
  · obtain ⟨l, rfl, _⟩ := h
    rfl
  · obtain ⟨l, rfl, h⟩ := h
    refine ⟨_, (pss_one (ps_ret (pe_and (pe_callB call_isi (by rfl) T.z_isinstance (by decide +kernel) (pa_cons (pv 0) (pa_cons (pe_bltn (v := .ty "list") rfl T.z_list (by decide +kernel) rfl) pa_nil))) (pe_and (pe_cmpR (r := rNeD K) (op_neD hr.units) (pv 0) (pe_lst pa_nil) (nomark _)) (pe_one (pe_callB (cr_all rfl) (by rfl) T.z_all (by decide +kernel) (pa_cons (pe_lc (own := [("one", 1)]) (g := (gName 1)) rfl sc_is_directions.nd (pi_list (pv 0)) (blkOk_by (N := N_is_directions) (sc := defScope s_is_directions) (by decide +kernel)) (fun _ _ _ _ _ => (pg_name (i := 1) sc_is_directions.nd rfl (Or.inl rfl))) (fun _ _ _ _ _ => pts_nil) (fun _ _ _ _ _ => (pe_call (ok_is_direction T) hr rfl T.m_is_direction T.F_is_direction.kp T.b_is_direction .nil pass0 (pa_cons (pv 1) pa_nil)))) pa_nil))))))), ?_⟩
    rcases h with ⟨xs, hl, k⟩ | ⟨ws, hl, ne, lw, k⟩
    · exact ⟨_, rfl, _, _, _, _, false, rfl, .ty _, .base (.tup hl), kit_ty (by decide +kernel), _, rfl, k⟩
    · refine ⟨_, rfl, _, _, _, _, true, rfl, .ty _, .base (.lst hl), kit_ty (by decide +kernel), _, rfl, iteT ?_⟩
      refine ⟨_, rfl, slen rfl, ?_⟩
      (intro el nel; generalize hGel : upd _ el _ = H1; have eH1 := exG hGel nel; have hel := atG hGel; clear hGel)
      refine ⟨_, _, .lst (SqL.of (eH1 _ _ hl)) (dp_words ws), .lst (SqL.of hel) .nil, (sh_words ws).ok, (sh_words []).ok, _, rfl, ?_⟩
      refine iteT' (eqv_neW ne) ?_
      refine ⟨_, rfl, l, rfl, ⟨_, SqL.of (eH1 _ _ hl)⟩, fun D hD => ?_⟩
      refine lc_vals (walk_list (xs := wordsV ws)) ((List.replicate ws.length true).map V.bl) (by simp) (by simp; omega) hD (fun H3 e => SqL.of (e _ _ (eH1 _ _ hl))) ?_ gmono_name ?_
      · rintro j x _ H2 R hj e2 ⟨rfl, hx⟩ kk
        obtain ⟨b, hb, rfl⟩ : ∃ b, ws[j]? = some b ∧ V.str (awayW b) = x := by
          rw [List.getElem?_map] at hx
          cases hb : ws[j]? with
          | none => rw [hb] at hx; cases hx
          | some b => rw [hb] at hx; exact ⟨b, rfl, Option.some.inj hx⟩
        have jl : j < ws.length := (List.getElem?_eq_some_iff.mp hb).1
        refine ⟨rfl, _, rfl, _, some (awayW b), rfl, rfl, fun H3 e3 => kk _ _ e3 ?_⟩
        rw [List.getElem?_map, List.getElem?_replicate, if_pos jl]
        cases b <;> rfl
      · intro H2 e2 hD2
        refine ⟨D, _, rfl, SqL.of hD2, ?_⟩
        have : (List.replicate ws.length true).all id = true := by simp
        rw [this]
        exact k _ (ext eH1 e2)
def sp_is_shared_witness (C : Addr) : Sp := fun vs H Q _ => ∃ (a wt : Addr) (q : Bool × Addr) (ns ws : List Int) (tss : List (List Int)) (m r : Int), vs = [.ref a, .ref q.2, .ref wt] ∧ TabAt C H a ns ∧ SzOk ns ∧ (∀ n ∈ ns, n.natAbs < 2 ^ 5000) ∧ RowsQ H q tss ∧ tss.length ≤ 100000 ∧ (∀ ts ∈ tss, SeatOk ns ts) ∧ WitAt H wt m ws r ∧ WitOk ns m ws r ∧ m.natAbs < 2 ^ 5000 ∧ (∀ t ∈ tss, wsum ws t % m = r) ∧ ∀ H2, Ex H H2 → Q (.bl true) H2
theorem ok_is_shared_witness (T : TX K mg) : FnOk P w K mg base CX0 4 T.f_is_shared_witness T.fd_is_shared_witness ["table", "targets", "strategy"] (sp_is_shared_witness T.C_Table) := by
  refine T.F_is_shared_witness.ok sc_is_shared_witness (fun vs H Q E h => ?_) (fun cdv A outer s H vs Q E hr h => ?_)
  · obtain ⟨a, wt, q, ns, ws, tss, m, r, rfl, _⟩ := h
    rfl
  · obtain ⟨a, wt, q, ns, ws, tss, m, r, rfl, tab, ok, bn, ⟨xs, hq, rr⟩, lt, sks, hw, wok, bm, ht, k⟩ := h
    refine ⟨_, (pss_one (ps_ret (pe_and (pe_call (ok_is_witness T) hr rfl T.m_is_witness T.F_is_witness.kp T.b_is_witness .nil pass0 (pa_cons (pv 0) (pa_cons (pv 2) pa_nil))) (pe_one (pe_callB (cr_all rfl) (by rfl) T.z_all (by decide +kernel) (pa_cons (pe_lc (own := [("target", 3)]) (g := (gName 3)) rfl sc_is_shared_witness.nd (pi_seq (pv 1)) (blkOk_by (N := N_is_shared_witness) (sc := defScope s_is_shared_witness) (by decide +kernel)) (fun _ _ _ _ _ => (pg_name (i := 3) sc_is_shared_witness.nd rfl (Or.inl rfl))) (fun _ _ _ _ _ => pts_nil) (fun _ _ _ _ _ => (pe_call (ok_has_residue T) (hr.mono (by decide)) rfl T.m_has_residue T.F_has_residue.kp T.b_has_residue .nil pass0 (pa_cons (pv 2) (pa_cons (pv 3) pa_nil))))) pa_nil)))))), ?_⟩
    have m3 := wok.m3
    have bw : ∀ x ∈ ws, x.natAbs < 2 ^ 5000 := fun x hx => by
      obtain ⟨x0, x1⟩ := wok.w0 x hx
      exact Nat.lt_of_le_of_lt (by omega) bm
    have lx : xs.length = tss.length := Paired.length rr
    refine ⟨_, rfl, _, rfl, a, wt, ns, ws, m, r, rfl, tab, ok.le, bn, hw, wok, bm, fun H1 e1 => ⟨_, rfl, iteT ?_⟩⟩
    have hq1 := hq.mono e1
    refine ⟨_, rfl, q, rfl, ⟨_, hq1.sq⟩, fun D hD => ?_⟩
    refine lc_vals (walk_seq (xs := xs)) ((List.replicate tss.length true).map V.bl) (by simp [lx]) (by omega) hD (fun H3 e => (hq1.mono e).sq) ?_ gmono_name ?_
    · rintro j x _ H2 R hj e2 ⟨rfl, hx⟩ kk
      obtain ⟨ts, rf, hts, rfl, hr2⟩ := rr.get hx
      have E2 := ext e1 e2
      have sk := sks ts (List.mem_of_getElem? hts)
      refine ⟨rfl, _, rfl, _, rfl, wt, rf, ws, ts, m, r, rfl, hw.mono E2, by omega, E2 _ _ hr2, by rw [wok.len, sk.len], by rw [sk.len]; exact ok.le, bw, seat_small sk bn, fun H3 e3 => kk _ _ e3 ?_⟩
      rw [decide_eq_true (ht ts (List.mem_of_getElem? hts)), List.getElem?_map, List.getElem?_replicate, if_pos (by rw [← lx]; exact hj)]
      rfl
    · intro H2 e2 hD2
      refine ⟨D, _, rfl, SqL.of hD2, ?_⟩
      have : (List.replicate tss.length true).all id = true := by simp
      rw [this]
      exact k _ (ext e1 e2)
end

/-- all but instances stays -/
def XI (H H2 : Hp) : Prop := ∀ c o, (∀ C dx fs, o ≠ .ins C dx fs) → H c = some o → H2 c = some o
theorem XI.of {H H2 : Hp} (e : Ex H H2) : XI H H2 := fun c o _ h => e c o h
theorem XI.tup {H H2 : Hp} (x : XI H H2) {c : Addr} {xs : List V} (h : H c = some (.tup xs)) : H2 c = some (.tup xs) := x _ _ (fun _ _ _ z => by cases z) h
theorem XI.lst {H H2 : Hp} (x : XI H H2) {c : Addr} {xs : List V} (h : H c = some (.lst xs)) : H2 c = some (.lst xs) := x _ _ (fun _ _ _ z => by cases z) h
theorem XI.cnt {H H2 : Hp} (x : XI H H2) {c : Addr} {fs : List (List Int × Nat)} (h : CntAt H c fs) : CntAt H2 c fs := x _ _ (fun _ _ _ z => by cases z) h
theorem XI.rows {H H2 : Hp} (x : XI H H2) {xs : List V} {tss : List (List Int)} (h : RowsR H xs tss) : RowsR H2 xs tss := h.monoT fun _ _ z => x.tup z
theorem XI.rowsAt {H H2 : Hp} (x : XI H H2) {c : Addr} {tss : List (List Int)} (h : RowsAt H c tss) : RowsAt H2 c tss := by
  obtain ⟨xs, h1, h2⟩ := h
  exact ⟨xs, x.lst h1, x.rows h2⟩
theorem XI.wit {H H2 : Hp} (x : XI H H2) {c : Addr} {m r : Int} {ws : List Int} (h : WitAt H c m ws r) : WitAt H2 c m ws r := by
  obtain ⟨wa, h1, h2⟩ := h
  exact ⟨wa, x.tup h1, x.tup h2⟩
/-- how a caller calls -/
inductive CSt
  | calls (css : List (List Int))
  | lay (fs : List (List Int × Nat))
def CSt.At (H : Hp) : CSt → V → Prop
  | .calls css, st => ∃ l, st = .ref l ∧ RowsAt H l css
  | .lay _, st => st = .str "layers"
def CSt.Dp (H : Hp) : CSt → V → Prop
  | .calls _, dv => dv = .non
  | .lay fs, dv => ∃ d, dv = .ref d ∧ CntAt H d fs
def CSt.Ok (ns : List Int) (tss : List (List Int)) : CSt → Prop
  | .calls css => css ≠ [] ∧ css.length ≤ 100000 ∧ ∀ cs ∈ css, cs.length = ns.length
  | .lay fs => fs = countsL ns tss ∧ prodL ns ≤ 300
theorem CSt.At.xi {H H2 : Hp} (x : XI H H2) : ∀ {cs : CSt} {st : V}, cs.At H st → cs.At H2 st
  | .calls _, _, ⟨l, e, h⟩ => ⟨l, e, x.rowsAt h⟩
  | .lay _, _, h => h
theorem CSt.Dp.xi {H H2 : Hp} (x : XI H H2) : ∀ {cs : CSt} {st : V}, cs.Dp H st → cs.Dp H2 st
  | .calls _, _, h => h
  | .lay _, _, ⟨l, e, h⟩ => ⟨l, e, x.cnt h⟩
def CallerAt (CC C : Addr) (H : Hp) (p : Addr) (ns : List Int) (tss : List (List Int)) (cs : CSt) : Prop := ∃ (dx a g : Addr) (st dv : V) (u : Nat) (gs : List V), H p = some (.ins CC dx [("table", .ref a), ("goals", .ref g), ("strategy", st), ("used", .int (u : Int)), ("depths", dv)]) ∧ TabAt C H a ns ∧ H g = some (.tup gs) ∧ RowsR H gs tss ∧ cs.At H st ∧ cs.Dp H dv
theorem CallerAt.mono {CC C p : Addr} {H H2 : Hp} {ns : List Int} {tss : List (List Int)} {cs : CSt} (e : Ex H H2) (h : CallerAt CC C H p ns tss cs) : CallerAt CC C H2 p ns tss cs := by
  obtain ⟨dx, a, g, st, dv, u, gs, h1, h2, h3, h4, h5, h6⟩ := h
  exact ⟨dx, a, g, st, dv, u, gs, e _ _ h1, h2.mono e, e _ _ h3, h4.mono e, h5.xi (XI.of e), h6.xi (XI.of e)⟩
/-- how a responder answers -/
inductive RS
  | words (bs : List Bool)
  | wit (m : Int) (ws : List Int) (r : Int)
  | lay (fs : List (List Int × Nat))
def RS.At (H : Hp) : RS → V → Prop
  | .words bs, st => ∃ l, st = .ref l ∧ H l = some (.lst (wordsV bs))
  | .wit m ws r, st => ∃ l, st = .ref l ∧ WitAt H l m ws r
  | .lay _, st => st = .str "layers"
def RS.Dp (H : Hp) : RS → V → Prop
  | .words _, dv => dv = .non
  | .wit _ _ _, dv => dv = .non
  | .lay fs, dv => ∃ d, dv = .ref d ∧ CntAt H d fs
def RS.Ok (ns : List Int) (tss : List (List Int)) : RS → Prop
  | .words bs => bs ≠ [] ∧ bs.length ≤ 100000
  | .wit m ws r => WitOk ns m ws r ∧ m.natAbs < 2 ^ 5000 ∧ ∀ t ∈ tss, wsum ws t % m = r
  | .lay fs => fs = countsL ns tss ∧ prodL ns ≤ 300
theorem RS.At.xi {H H2 : Hp} (x : XI H H2) : ∀ {rs : RS} {st : V}, rs.At H st → rs.At H2 st
  | .words _, _, ⟨l, e, h⟩ => ⟨l, e, x.lst h⟩
  | .wit _ _ _, _, ⟨l, e, h⟩ => ⟨l, e, x.wit h⟩
  | .lay _, _, h => h
theorem RS.Dp.xi {H H2 : Hp} (x : XI H H2) : ∀ {rs : RS} {st : V}, rs.Dp H st → rs.Dp H2 st
  | .words _, _, h => h
  | .wit _ _ _, _, h => h
  | .lay _, _, ⟨l, e, h⟩ => ⟨l, e, x.cnt h⟩
def RespAt (CR C : Addr) (H : Hp) (p : Addr) (ns : List Int) (tss : List (List Int)) (rs : RS) : Prop := ∃ (dx a g : Addr) (st dv : V) (u : Nat) (gs : List V), H p = some (.ins CR dx [("table", .ref a), ("goals", .ref g), ("strategy", st), ("used", .int (u : Int)), ("depths", dv)]) ∧ TabAt C H a ns ∧ H g = some (.tup gs) ∧ RowsR H gs tss ∧ rs.At H st ∧ rs.Dp H dv
theorem RespAt.mono {CC C p : Addr} {H H2 : Hp} {ns : List Int} {tss : List (List Int)} {rs : RS} (e : Ex H H2) (h : RespAt CC C H p ns tss rs) : RespAt CC C H2 p ns tss rs := by
  obtain ⟨dx, a, g, st, dv, u, gs, h1, h2, h3, h4, h5, h6⟩ := h
  exact ⟨dx, a, g, st, dv, u, gs, e _ _ h1, h2.mono e, e _ _ h3, h4.mono e, h5.xi (XI.of e), h6.xi (XI.of e)⟩
/-- .. whose next call is the u-th -/
def CallerU (CC C : Addr) (H : Hp) (p : Addr) (ns : List Int) (tss : List (List Int)) (cs : CSt) (u : Nat) : Prop := ∃ (dx a g : Addr) (st dv : V) (gs : List V), H p = some (.ins CC dx [("table", .ref a), ("goals", .ref g), ("strategy", st), ("used", .int (u : Int)), ("depths", dv)]) ∧ TabAt C H a ns ∧ H g = some (.tup gs) ∧ RowsR H gs tss ∧ cs.At H st ∧ cs.Dp H dv
theorem CallerU.at {CC C p : Addr} {H : Hp} {ns : List Int} {tss : List (List Int)} {cs : CSt} {u : Nat} (h : CallerU CC C H p ns tss cs u) : CallerAt CC C H p ns tss cs := by
  obtain ⟨dx, a, g, st, dv, gs, h1, h2, h3, h4, h5, h6⟩ := h
  exact ⟨dx, a, g, st, dv, u, gs, h1, h2, h3, h4, h5, h6⟩
theorem CallerU.mono {CC C p : Addr} {H H2 : Hp} {ns : List Int} {tss : List (List Int)} {cs : CSt} {u : Nat} (e : Ex H H2) (h : CallerU CC C H p ns tss cs u) : CallerU CC C H2 p ns tss cs u := by
  obtain ⟨dx, a, g, st, dv, gs, h1, h2, h3, h4, h5, h6⟩ := h
  exact ⟨dx, a, g, st, dv, gs, e _ _ h1, h2.mono e, e _ _ h3, h4.mono e, h5.xi (XI.of e), h6.xi (XI.of e)⟩
def RespU (CR C : Addr) (H : Hp) (p : Addr) (ns : List Int) (tss : List (List Int)) (rs : RS) (u : Nat) : Prop := ∃ (dx a g : Addr) (st dv : V) (gs : List V), H p = some (.ins CR dx [("table", .ref a), ("goals", .ref g), ("strategy", st), ("used", .int (u : Int)), ("depths", dv)]) ∧ TabAt C H a ns ∧ H g = some (.tup gs) ∧ RowsR H gs tss ∧ rs.At H st ∧ rs.Dp H dv
theorem RespU.at {CC C p : Addr} {H : Hp} {ns : List Int} {tss : List (List Int)} {rs : RS} {u : Nat} (h : RespU CC C H p ns tss rs u) : RespAt CC C H p ns tss rs := by
  obtain ⟨dx, a, g, st, dv, gs, h1, h2, h3, h4, h5, h6⟩ := h
  exact ⟨dx, a, g, st, dv, u, gs, h1, h2, h3, h4, h5, h6⟩
theorem RespU.mono {CC C p : Addr} {H H2 : Hp} {ns : List Int} {tss : List (List Int)} {rs : RS} {u : Nat} (e : Ex H H2) (h : RespU CC C H p ns tss rs u) : RespU CC C H2 p ns tss rs u := by
  obtain ⟨dx, a, g, st, dv, gs, h1, h2, h3, h4, h5, h6⟩ := h
  exact ⟨dx, a, g, st, dv, gs, e _ _ h1, h2.mono e, e _ _ h3, h4.mono e, h5.xi (XI.of e), h6.xi (XI.of e)⟩
/-- .. whose strategy is not the list at m -/
def RespO (CR C : Addr) (H : Hp) (p : Addr) (ns : List Int) (tss : List (List Int)) (rs : RS) (u : Nat) (m : Addr) : Prop := ∃ (dx a g : Addr) (st dv : V) (gs : List V), H p = some (.ins CR dx [("table", .ref a), ("goals", .ref g), ("strategy", st), ("used", .int (u : Int)), ("depths", dv)]) ∧ TabAt C H a ns ∧ H g = some (.tup gs) ∧ RowsR H gs tss ∧ rs.At H st ∧ rs.Dp H dv ∧ st ≠ .ref m
theorem RespO.mono {CR C p m : Addr} {H H2 : Hp} {ns : List Int} {tss : List (List Int)} {rs : RS} {u : Nat} (e : Ex H H2) (h : RespO CR C H p ns tss rs u m) : RespO CR C H2 p ns tss rs u m := by
  obtain ⟨dx, a, g, st, dv, gs, h1, h2, h3, h4, h5, h6, h7⟩ := h
  exact ⟨dx, a, g, st, dv, gs, e _ _ h1, h2.mono e, e _ _ h3, h4.mono e, h5.xi (XI.of e), h6.xi (XI.of e), h7⟩
/-- the list at m changes -/
theorem RespO.cut {CR C p m : Addr} {H H2 : Hp} {ns : List Int} {tss : List (List Int)} {rs : RS} {u : Nat} {zs : List V} (hm : H m = some (.lst zs)) (e : ∀ c o, c ≠ m → H c = some o → H2 c = some o) (h : RespO CR C H p ns tss rs u m) : RespU CR C H2 p ns tss rs u := by
  obtain ⟨dx, a, g, st, dv, gs, h1, ⟨dt, t, t1, t2⟩, h3, h4, h5, h6, h7⟩ := h
  have tp : ∀ {c : Addr} {xs : List V}, H c = some (.tup xs) → H2 c = some (.tup xs) := fun z => e _ _ (ne_of z hm (by intro z; cases z)) z
  refine ⟨dx, a, g, st, dv, gs, e _ _ (ne_of h1 hm (by intro z; cases z)) h1, ⟨dt, t, e _ _ (ne_of t1 hm (by intro z; cases z)) t1, tp t2⟩, tp h3, h4.monoT fun _ _ z => tp z, ?_, ?_⟩
  · cases rs with
    | words bs =>
      obtain ⟨l, rfl, h⟩ := h5
      exact ⟨l, rfl, e _ _ (fun z => h7 (by rw [z])) h⟩
    | wit m ws r =>
      obtain ⟨l, e1, wa, q1, q2⟩ := h5
      exact ⟨l, e1, wa, tp q1, tp q2⟩
    | lay fs => exact h5
  · cases rs with
    | words bs => exact h6
    | wit m ws r => exact h6
    | lay fs =>
      obtain ⟨d, e1, q⟩ := h6
      exact ⟨d, e1, e _ _ (ne_of q hm (by intro z; cases z)) q⟩
section
variable {P : Program} {w : World} {K : PySem.W.Frag} {mg : Str → Option Value} {base : Heap}
def sp_Responder_init (CC C : Addr) : Sp := fun vs H Q _ => ∃ (p dx a : Addr) (x : V) (q : Bool × Addr) (ns : List Int) (tss : List (List Int)) (rs : RS) (H0 : Hp), vs = [.ref p, .ref a, .ref q.2, x] ∧ H p = some (.ins CC dx []) ∧ H0 p = none ∧ Ex H0 H ∧ TabAt C H0 a ns ∧ SzOk ns ∧ RowsQ H0 q tss ∧ tss ≠ [] ∧ tss.length ≤ 1000 ∧ (∀ ts ∈ tss, SeatOk ns ts) ∧ tss.Nodup ∧
  (∀ n ∈ ns, n.natAbs < 2 ^ 5000) ∧ rs.At H0 x ∧ rs.Ok ns tss ∧ ∀ H2, Ex H0 H2 → (∀ m zs, H0 m = some (.lst zs) → RespO CC C H2 p ns tss rs 0 m) → RespU CC C H2 p ns tss rs 0 → Q .non H2
theorem ok_Responder_init (T : TX K mg) : FnOk P w K mg base CX0 6 T.f_Responder_init T.fd_Responder_init ["self", "table", "targets", "strategy"] (sp_Responder_init T.C_Responder T.C_Table) := by
  refine T.F_Responder_init.ok sc_Responder_init (fun vs H Q E h => ?_) (fun cdv A outer s H vs Q E hr h => ?_)
  · obtain ⟨p, dx, a, x, q, ns, tss, rs, H0, rfl, _⟩ := h
    rfl
  · obtain ⟨p, dx, a, x, q, ns, tss, rs, H0, rfl, hp, np, e0, tab, ok, hq, ne, lt, sks, nod, bn, hl, hrs, k⟩ := h
    refine ⟨_, (pss_cons (ps_expr (pe_call (ok_require_table T) hr rfl T.m_require_table T.F_require_table.kp T.b_require_table .nil pass0 (pa_cons (pv 1) pa_nil))) (pss_cons (ps_expr (pe_call (ok_require_targets T) (hr.mono (by decide)) rfl T.m_require_targets T.F_require_targets.kp T.b_require_targets .nil pass0 (pa_cons (pv 1) (pa_cons (pv 2) pa_nil)))) (pss_cons (ps_if (PW.pt (pw_and (pt_not (pt_val (pe_call (ok_is_layers T) (hr.mono (by decide)) rfl T.m_is_layers T.F_is_layers.kp T.b_is_layers .nil pass0 (pa_cons (pv 3) pa_nil)))) (pw_and (pt_not (pt_val (pe_call (ok_is_directions T) (hr.mono (by decide)) rfl T.m_is_directions T.F_is_directions.kp T.b_is_directions .nil pass0 (pa_cons (pv 3) pa_nil)))) (pw_and1 (pt_not (pt_val (pe_call (ok_is_shared_witness T) (hr.mono (by decide)) rfl T.m_is_shared_witness T.F_is_shared_witness.kp T.b_is_shared_witness .nil pass0 (pa_cons (pv 1) (pa_cons (pv 2) (pa_cons (pv 3) pa_nil)))))))))) pss_never pss_nil) (pss_cons (ps_asg (pe_tup (pa_cons (pv 1) (pa_cons (pe_callTy call_tuple_q (by rfl) T.z_tuple (by decide +kernel) (pa_cons (pv 2) pa_nil)) (pa_cons (pe_call (ok_copied T) (hr.mono (by decide)) rfl T.m_copied T.F_copied.kp T.b_copied .nil pass0 (pa_cons (pv 3) pa_nil)) (pa_cons pe_int pa_nil))))) (pg_tup rfl (pgs_cons (pg_fld (pv 0)) (pgs_cons (pg_fld (pv 0)) (pgs_cons (pg_fld (pv 0)) (pgs_cons (pg_fld (pv 0)) pgs_nil)))))) (pss_one (ps_fld (pv 0) (pe_call (ok_depths_for T) (hr.mono (by decide)) rfl T.m_depths_for T.F_depths_for.kp T.b_depths_for .nil pass0 (pa_cons (pv 1) (pa_cons (pv 2) (pa_cons (pv 3) pa_nil)))) rfl)))))), ?_⟩
    have l4 := ok.le
    refine ⟨_, rfl, a, ns, rfl, tab.mono e0, ?_⟩
    refine ⟨_, rfl, _, rfl, a, q, ns, tss, rfl, tab.mono e0, l4, hq.mono e0, ne, by omega, sks, nod, fun H1 e1 => ?_⟩
    have E1 := ext e0 e1
    dsimp only
    refine sif_ex (fun N hN => ?_) (fun H3 e3 => ?_)
    · have hl1 := hl.xi (XI.of E1)
      cases rs with
      | words bs =>
        obtain ⟨l, rfl, h1⟩ := hl1
        refine ⟨_, rfl, _, rfl, .inl ⟨notStr_lst h1, _, rfl, itt rfl ?_⟩⟩
        exact ⟨_, rfl, l, rfl, .inr ⟨bs, h1, hrs.1, hrs.2, fun H3 e3 => ⟨_, rfl, itf rfl (hN _ e3)⟩⟩⟩
      | wit m ws r =>
        obtain ⟨l, rfl, hw⟩ := hl1
        obtain ⟨wa, hw1, hw2⟩ := id hw
        refine ⟨_, rfl, _, rfl, .inl ⟨notStr_tup hw1, _, rfl, itt rfl ?_⟩⟩
        refine ⟨_, rfl, l, rfl, .inl ⟨_, hw1, _, rfl, itt rfl ?_⟩⟩
        exact ⟨_, rfl, _, rfl, _, rfl, a, l, q, ns, ws, tss, m, r, rfl, tab.mono E1, ok, bn, hq.mono E1, by omega, sks, hw, hrs.1, hrs.2.1, hrs.2.2, fun H3 e3 => ⟨_, rfl, itf rfl (hN _ e3)⟩⟩
      | lay fs =>
        obtain rfl : x = .str "layers" := hl1
        exact ⟨_, rfl, _, rfl, .inr ⟨rfl, _, rfl, itf rfl (hN _ exr)⟩⟩
    have E3 := ext E1 e3
    have hp3 := e3 _ _ (e1 _ _ hp)
    obtain ⟨gs, hq1, hq2⟩ := hq.mono E3
    refine ⟨_, rfl, _, rfl, q, _, rfl, hq1, fun g H4 e4 hg => ?_⟩
    have E4 := ext E3 e4
    refine ⟨_, rfl, x, fun H2 y => rs.At H2 y ∧ ∀ m zs, H0 m = some (.lst zs) → y ≠ .ref m, rfl, ?_, fun stv H5 e5 ⟨hst, hno⟩ => ?_⟩
    · have hl4 := hl.xi (XI.of E4)
      cases rs with
      | words bs =>
        obtain ⟨l, rfl, h1⟩ := hl4
        exact .inl ⟨(false, l), _, rfl, h1, fun p H2 e2 nf h2 => ⟨⟨p, rfl, h2⟩, fun m zs hm z => by
          injection z with z
          exact absurd (nf rfl) (by rw [z, E4 _ _ hm]; intro q; cases q)⟩⟩
      | wit m ws r =>
        obtain ⟨l, rfl, wa, hw1, hw2⟩ := hl4
        exact .inl ⟨(true, l), _, rfl, hw1, fun p H2 e2 _ h2 => ⟨⟨p, rfl, wa, h2, e2 _ _ hw2⟩, fun m zs hm z => by
          injection z with z
          have h2 : H2 p = some (.tup _) := h2
          have h3 := e2 _ _ (E4 _ _ hm)
          rw [← z, h2] at h3
          cases h3⟩⟩
      | lay fs =>
        obtain rfl : x = .str "layers" := hl4
        exact .inr ⟨_, rfl, rfl, fun m zs _ z => by cases z⟩
    (repeat (first | refine ⟨rfl, ?_⟩ | refine ⟨_, rfl, ?_⟩ | refine ⟨_, _, rfl, rfl, ?_⟩ | refine ⟨_, _, rfl, ?_⟩ | refine ⟨slen rfl, ?_⟩ | refine ⟨⟨by decide, by decide +kernel⟩, ?_⟩ | refine ⟨⟨by decide, by decide, by decide⟩, ?_⟩ | refine ⟨(by show (0 : Int) < _; first | decide | assumption | omega), ?_⟩ | refine ⟨mul_ok (by first | exact .inr (by decide) | exact .inl (by decide)), ?_⟩))
    (intro tp ntp; generalize hGtp : upd _ tp _ = H6; have eH6 := exG hGtp ntp; have htp := atG hGtp; clear hGtp)
    have E6 : Ex H3 H6 := ext e4 (ext e5 eH6)
    have hp6 := E6 _ _ hp3
    refine ⟨tp, _, rfl, SqT.of htp, rfl, ?_⟩
    refine ⟨_, _, rfl, _, rfl, p, T.C_Responder, dx, [], rfl, hp6, T.cl_Responder, T.n_Responder_table, (by decide), ?_⟩
    refine ⟨_, _, rfl, _, rfl, p, T.C_Responder, dx, _, rfl, upd_same, T.cl_Responder, T.n_Responder_goals, (by show 1 < 1000; decide), ?_⟩
    refine ⟨_, _, rfl, _, rfl, p, T.C_Responder, dx, _, rfl, upd_same, T.cl_Responder, T.n_Responder_strategy, (by show 2 < 1000; decide), ?_⟩
    refine ⟨_, _, rfl, _, rfl, p, T.C_Responder, dx, _, rfl, upd_same, T.cl_Responder, T.n_Responder_used, (by show 3 < 1000; decide), ?_⟩
    refine ⟨rfl, ?_⟩
    generalize hG7 : upd (upd (upd (upd H6 p _) p _) p _) p _ = H7
    have hp7 : H7 p = some (.ins T.C_Responder dx [("table", .ref a), ("goals", .ref g), ("strategy", stv), ("used", .int 0)]) := by rw [← hG7]; exact upd_same
    have X7 : ∀ c o, c ≠ p → H6 c = some o → H7 c = some o := fun c o n z => by rw [← hG7, upd_ne n, upd_ne n, upd_ne n, upd_ne n]; exact z
    clear hG7
    have XI7 : XI H6 H7 := fun c o n z => X7 c o (ne_of z hp6 (n _ _ _)) z
    have E7 : Ex H0 H7 := fun c o z => X7 c o (ne_of_none z np) (E6 _ _ (E3 c o z))
    refine ⟨_, rfl, _, rfl, _, rfl, _, _, _, fun H2 y => rs.Dp H2 y, rfl, ?_, fun dv H8 e8 hdv => ?_⟩
    · have hl7 := hl.xi (XI.of E7)
      cases rs with
      | words bs =>
        obtain ⟨l, rfl, h1⟩ := hl7
        exact .inl ⟨notStr_lst h1, rfl⟩
      | wit m ws r =>
        obtain ⟨l, rfl, wa, hw1, hw2⟩ := hl7
        exact .inl ⟨notStr_tup hw1, rfl⟩
      | lay fs =>
        obtain rfl : x = .str "layers" := hl7
        obtain ⟨rfl, pr⟩ := hrs
        exact .inr ⟨a, q, ns, tss, rfl, rfl, rfl, tab.mono E7, ok, pr, hq.mono E7, ne, lt, sks, nod, fun d H2 _ _ c => ⟨d, rfl, c⟩⟩
    have E8 := ext E7 e8
    have hp8 := e8 _ _ hp7
    refine ⟨_, rfl, p, T.C_Responder, dx, _, rfl, hp8, T.cl_Responder, T.n_Responder_depths, (by show 4 < 1000; decide), ?_⟩
    generalize hGa : upd H8 p _ = Ha
    have hpa : Ha p = some (.ins T.C_Responder dx [("table", .ref a), ("goals", .ref g), ("strategy", stv), ("used", .int 0), ("depths", dv)]) := by rw [← hGa]; exact upd_same
    have XIa : XI H8 Ha := fun c o n z => by rw [← hGa, upd_ne (ne_of z hp8 (n _ _ _))]; exact z
    have Ea : Ex H0 Ha := fun c o z => by rw [← hGa, upd_ne (ne_of_none z np)]; exact E8 c o z
    clear hGa
    have XI6a : XI H6 Ha := fun c o n z => XIa c o n (e8 _ _ (XI7 c o n z))
    have hrow : RowsR Ha gs tss := by
      obtain ⟨ys, hy1, hy2⟩ := hq
      obtain rfl : gs = ys := SqH.uniq hq1 (hy1.mono E3)
      exact hy2.mono Ea
    have h1a := tab.mono Ea
    have h2a := XI6a.tup (eH6 _ _ (e5 _ _ hg))
    have h3a := hst.xi (fun c o n z => XI6a c o n (eH6 _ _ z))
    have h4a := hdv.xi XIa
    exact k _ Ea (fun m zs hm => ⟨dx, a, g, stv, dv, gs, hpa, h1a, h2a, hrow, h3a, h4a, hno m zs hm⟩) ⟨dx, a, g, stv, dv, gs, hpa, h1a, h2a, hrow, h3a, h4a⟩
end
theorem mk_resp {CR C a : Addr} {x : V} {bq : Bool} {g : Addr} {H : Hp} {ns : List Int} {tss : List (List Int)} {rs : RS} {R : Addr → Hp → Prop} {E : XK} (tab : TabAt C H a ns) (ok : SzOk ns) (hq : RowsQ H (bq, g) tss) (ne : tss ≠ []) (lt : tss.length ≤ 1000) (sks : ∀ ts ∈ tss, SeatOk ns ts) (nod : tss.Nodup)
    (bn : ∀ n ∈ ns, n.natAbs < 2 ^ 5000) (hl : rs.At H x) (hrs : rs.Ok ns tss) (k : ∀ y H2, Ex H H2 → H y = none → (∀ m zs, H m = some (.lst zs) → RespO CR C H2 y ns tss rs 0 m) → RespU CR C H2 y ns tss rs 0 → R y H2) :
    ∀ y dx, H y = none → H dx = none → dx ≠ y → sp_Responder_init CR C [.ref y, .ref a, .ref g, x] (upd (upd H dx (.own y)) y (.ins CR dx [])) (fun v H2 => v = .non ∧ R y H2) E := by
  intro y dx nx ndx _
  have exB : Ex H (upd (upd H dx (.own y)) y (.ins CR dx [])) := fun c o z => by
    rw [upd_ne (ne_of_none z nx), upd_ne (ne_of_none z ndx)]
    exact z
  exact ⟨y, dx, a, x, (bq, g), ns, tss, rs, H, rfl, upd_same, nx, exB, tab, ok, hq, ne, lt, sks, nod, bn, hl, hrs, fun H2 e2 ro ra => ⟨rfl, k y H2 e2 nx ro ra⟩⟩

def closerL (fs : List (List Int × Nat)) (d : Nat) : List (List Int) := (fs.filter fun q => decide (q.2 < d)).map (·.1)
def fromL (ns : List Int) (fs : List (List Int × Nat)) (p : List Int) (d : Nat) : List (List Int) := ((closerL fs d).filter fun o => decide ((dep fs (mirL ns p o)).getD d < d)).map fun o => toL ns p o
theorem closer_snoc (fs : List (List Int × Nat)) (q : List Int × Nat) (d : Nat) : closerL (fs ++ [q]) d = if q.2 < d then closerL fs d ++ [q.1] else closerL fs d := by
  unfold closerL
  rw [List.filter_append, List.map_append]
  by_cases c : q.2 < d
  · rw [if_pos c]
    simp [c]
  · rw [if_neg c]
    simp [c]
theorem dep_mem {fs : List (List Int × Nat)} (nod : (keysL fs).Nodup) {q : List Int × Nat} (h : q ∈ fs) : dep fs q.1 = some q.2 := by
  induction fs with
  | nil => cases h
  | cons f fs ih =>
    rw [dep_cons]
    rcases List.mem_cons.mp h with rfl | h
    · rw [if_pos rfl]
    · have nf : f.1 ≠ q.1 := fun z => (List.nodup_cons.mp nod).1 (by show f.1 ∈ _; rw [z]; exact List.mem_map_of_mem h)
      rw [if_neg nf, ih (List.nodup_cons.mp nod).2 h]
theorem Ex.back {H H2 : Hp} {d : Addr} {u v : HO} (hd : H d = some u) (e : Ex (upd H d v) H2) : Ex H (upd H2 d u) := fun c o z => by
  by_cases cd : c = d
  · subst cd
    rw [upd_same]
    exact hd.symm.trans z
  · rw [upd_ne cd]
    exact e _ _ (by rw [upd_ne cd]; exact z)
theorem tup_pshL {q D : Addr} {H : Hp} {xs ys : List V} {o : HO} (hD : H D = some (.lst xs)) (h : H q = some (.tup ys)) : upd H D o q = some (.tup ys) := by
  rw [upd_ne (ne_of h hD (by intro z; cases z))]
  exact h
theorem getD_int (o : Option Nat) (d : Nat) : (o.map fun d : Nat => V.int (d : Int)).getD (V.int (d : Int)) = V.int ((o.getD d : Nat) : Int) := by cases o <;> rfl
section
variable {P : Program} {w : World} {K : PySem.W.Frag} {mg : Str → Option Value} {base : Heap}
end

/-- what a list of numbers keeps while it grows -/
structure GoodL (ns : List Int) (fs : List (List Int × Nat)) (d : Nat) : Prop where
  nod : (keysL fs).Nodup
  seat : ∀ q ∈ fs, SeatOk ns q.1
  le : ∀ q ∈ fs, q.2 ≤ d
  both : ∀ q ∈ fs, 0 < q.2 → ∃ o e e', (o, e) ∈ fs ∧ (mirL ns q.1 o, e') ∈ fs ∧ e < q.2 ∧ e' < q.2
theorem mem_keys {fs : List (List Int × Nat)} {p : List Int} (h : p ∈ keysL fs) : ∃ e, (p, e) ∈ fs := by
  obtain ⟨q, hq, rfl⟩ := List.mem_map.mp h
  exact ⟨q.2, hq⟩
theorem mem_atD {d : Nat} {ps : List (List Int)} {q : List Int × Nat} (h : q ∈ atD d ps) : q.1 ∈ ps ∧ q.2 = d := by
  obtain ⟨p, hp, rfl⟩ := List.mem_map.mp h
  exact ⟨hp, rfl⟩
theorem GoodL.step {ns : List Int} {fs : List (List Int × Nat)} {d : Nat} {miss newest : List (List Int)} (g : GoodL ns fs d) (okm : ∀ p ∈ miss, SeatOk ns p) (disj : ∀ p ∈ miss, p ∉ keysL fs) (mnod : miss.Nodup) (sub : ∀ p ∈ newest, p ∈ keysL fs) :
    GoodL ns (fs ++ atD (d + 1) (newL ns fs miss newest)) (d + 1) where
  nod := by
    rw [keys_app, keys_atD, List.nodup_append]
    refine ⟨g.nod, mnod.filter _, fun a ha b hb e => ?_⟩
    exact disj b (newL_sub hb) (e ▸ ha)
  seat := fun q hq => by
    rcases List.mem_append.mp hq with hq | hq
    · exact g.seat q hq
    · exact okm _ (newL_sub (mem_atD hq).1)
  le := fun q hq => by
    rcases List.mem_append.mp hq with hq | hq
    · exact Nat.le_succ_of_le (g.le q hq)
    · exact Nat.le_of_eq (mem_atD hq).2
  both := fun q hq h0 => by
    rcases List.mem_append.mp hq with hq | hq
    · obtain ⟨o, e, e', h1, h2, h3, h4⟩ := g.both q hq h0
      exact ⟨o, e, e', List.mem_append_left _ h1, List.mem_append_left _ h2, h3, h4⟩
    · obtain ⟨hm, he⟩ := mem_atD hq
      obtain ⟨_, hc⟩ := List.mem_filter.mp hm
      obtain ⟨o, ho, hk⟩ := List.any_eq_true.mp hc
      obtain ⟨e, h1⟩ := mem_keys (sub o ho)
      obtain ⟨e', h2⟩ := mem_keys (of_decide_eq_true hk)
      have a1 := g.le _ h1
      have a2 := g.le _ h2
      exact ⟨o, e, e', List.mem_append_left _ h1, List.mem_append_left _ h2, by rw [he]; exact Nat.lt_succ_of_le a1, by rw [he]; exact Nat.lt_succ_of_le a2⟩
theorem rounds_good {ns : List Int} : ∀ (f : Nat) {fs : List (List Int × Nat)} {miss newest : List (List Int)} {d : Nat}, GoodL ns fs d → (∀ p ∈ miss, SeatOk ns p) → (∀ p ∈ miss, p ∉ keysL fs) → miss.Nodup → (∀ p ∈ newest, p ∈ keysL fs) → ∃ d', GoodL ns (roundsL ns f fs miss newest d) d'
  | 0, fs, miss, newest, d, g, _, _, _, _ => ⟨d, g⟩
  | f + 1, fs, miss, newest, d, g, okm, disj, mnod, sub => by
    rw [roundsL]
    by_cases c : newest = []
    · rw [if_pos c]
      exact ⟨d, g⟩
    rw [if_neg c]
    refine rounds_good f (g.step okm disj mnod sub) (fun p hp => okm p (mem_missL.mp hp).1) (fun p hp => (mem_missL.mp hp).2) (mnod.filter _) fun p hp => ?_
    rw [keys_app, keys_atD]
    exact List.mem_append_right _ hp
theorem counts_good {ns : List Int} {tss : List (List Int)} (sks : ∀ t ∈ tss, SeatOk ns t) (nod : tss.Nodup) : ∃ d, GoodL ns (countsL ns tss) d := by
  refine rounds_good _ ⟨by rw [keys_atD]; exact nod, fun q hq => sks _ (mem_atD hq).1, fun q hq => Nat.le_of_eq (mem_atD hq).2, fun q hq h0 => absurd (mem_atD hq).2 (by omega)⟩ (fun p hp => mem_allS.mp (mem_missL.mp hp).1) (fun p hp => (mem_missL.mp hp).2) ((allS_nodup ns).filter _) fun p hp => ?_
  rw [keys_atD]
  exact hp
theorem GoodL.len {ns : List Int} {fs : List (List Int × Nat)} {d : Nat} (g : GoodL ns fs d) : fs.length ≤ (allS ns).length := by
  rw [← List.length_map (f := (·.1))]
  exact List.Nodup.length_le_of_subset g.nod fun p hp => by
    obtain ⟨e, he⟩ := mem_keys hp
    exact mem_allS.mpr (g.seat _ he)
theorem mem_dep {fs : List (List Int × Nat)} {p : List Int} {d : Nat} (h : dep fs p = some d) : (p, d) ∈ fs := by
  induction fs with
  | nil => cases h
  | cons f fs ih =>
    rw [dep_cons] at h
    by_cases c : f.1 = p
    · rw [if_pos c] at h
      obtain rfl := Option.some.inj h
      rw [← c]
      exact List.mem_cons_self
    · rw [if_neg c] at h
      exact List.mem_cons_of_mem _ (ih h)
theorem mirL_inv : ∀ {ns ps os : List Int}, SeatOk ns os → ps.length = ns.length → mirL ns ps (mirL ns ps os) = os
  | [], _, [], _, _ => by cases ‹List Int› <;> rfl
  | n :: ns, p :: ps, o :: os, h, l => by
    obtain ⟨⟨o0, o1⟩, h2⟩ : (0 ≤ o ∧ o < n) ∧ SeatOk ns os := h
    show ((2 * p - (2 * p - o) % n) % n) :: _ = _
    rw [mirL_inv h2 (by simpa using l)]
    congr 1
    rw [Int.sub_emod, Int.emod_emod, ← Int.sub_emod, show 2 * p - (2 * p - o) = o by omega, Int.emod_eq_of_lt o0 o1]
/-- from a seat with a positive number there is a call to smaller ones -/
theorem GoodL.from {ns : List Int} {fs : List (List Int × Nat)} {d e : Nat} {p : List Int} (g : GoodL ns fs d) (h : dep fs p = some e) (h0 : 0 < e) : ∃ c rest, fromL ns fs p e = c :: rest := by
  obtain ⟨o, e1, e2, m1, m2, l1, l2⟩ := g.both _ (mem_dep h) h0
  have hm : toL ns p o ∈ fromL ns fs p e := by
    unfold fromL
    refine List.mem_map.mpr ⟨o, List.mem_filter.mpr ⟨?_, decide_eq_true ?_⟩, rfl⟩
    · unfold closerL
      exact List.mem_map.mpr ⟨(o, e1), List.mem_filter.mpr ⟨m1, decide_eq_true l1⟩, rfl⟩
    · rw [dep_mem g.nod m2]
      exact l2
  cases hf : fromL ns fs p e with
  | nil => rw [hf] at hm; cases hm
  | cons c rest => exact ⟨c, rest, rfl⟩
/-- the greatest number -/
def topL (fs : List (List Int × Nat)) : Nat := fs.foldl (fun m q => max m q.2) 0
theorem fold_top : ∀ (fs : List (List Int × Nat)) (m : Nat), m ≤ fs.foldl (fun m q => max m q.2) m ∧ (∀ q ∈ fs, q.2 ≤ fs.foldl (fun m q => max m q.2) m) ∧ (fs.foldl (fun m q => max m q.2) m = m ∨ ∃ q ∈ fs, q.2 = fs.foldl (fun m q => max m q.2) m)
  | [], m => ⟨Nat.le_refl _, (fun q h => absurd h List.not_mem_nil), Or.inl rfl⟩
  | f :: fs, m => by
    obtain ⟨h1, h2, h3⟩ := fold_top fs (max m f.2)
    rw [List.foldl_cons]
    refine ⟨by omega, fun q hq => ?_, ?_⟩
    · rcases List.mem_cons.mp hq with rfl | hq
      · omega
      · exact h2 q hq
    · rcases h3 with h3 | ⟨q, hq, h3⟩
      · rw [h3]
        by_cases c : f.2 ≤ m
        · exact .inl (by omega)
        · exact .inr ⟨f, List.mem_cons_self, by omega⟩
      · exact .inr ⟨q, List.mem_cons_of_mem _ hq, h3⟩
theorem top_is {fs : List (List Int × Nat)} (ne : fs ≠ []) {m : Int} (h1 : m ∈ fs.map fun q => (q.2 : Int)) (h2 : ∀ j ∈ fs.map (fun q => (q.2 : Int)), j ≤ m) : m = topL fs := by
  obtain ⟨a, b, c⟩ := fold_top fs 0
  obtain ⟨q, hq, rfl⟩ := List.mem_map.mp h1
  have b1 := b q hq
  have : topL fs ≤ q.2 := by
    rcases c with c | ⟨r, hr, c⟩
    · unfold topL
      omega
    · have := h2 _ (List.mem_map_of_mem hr)
      unfold topL
      omega
  unfold topL at this ⊢
  omega
theorem rounds_pre {ns : List Int} : ∀ (f : Nat) (fs : List (List Int × Nat)) (miss newest : List (List Int)) (d : Nat), ∃ gs, roundsL ns f fs miss newest d = fs ++ gs
  | 0, fs, _, _, _ => ⟨[], by rw [List.append_nil]; rfl⟩
  | f + 1, fs, miss, newest, d => by
    rw [roundsL]
    by_cases c : newest = []
    · rw [if_pos c]
      exact ⟨[], (List.append_nil _).symm⟩
    rw [if_neg c]
    obtain ⟨gs, h⟩ := rounds_pre f (fs ++ atD (d + 1) (newL ns fs miss newest)) (missL (fs ++ atD (d + 1) (newL ns fs miss newest)) miss) (newL ns fs miss newest) (d + 1)
    exact ⟨_, by rw [h, List.append_assoc]⟩
theorem counts_ne {ns : List Int} {tss : List (List Int)} (ne : tss ≠ []) : countsL ns tss ≠ [] := by
  obtain ⟨gs, h⟩ := rounds_pre ((allS ns).length + 2) (atD 0 tss) (missL (atD 0 tss) (allS ns)) tss 0 (ns := ns)
  intro z
  rw [countsL, h] at z
  exact ne (List.map_eq_nil_iff.mp (List.append_eq_nil_iff.mp z).1)

-- dictcomps
/-- a call within the rings -/
def modL (ns cs : List Int) : List Int := List.zipWith (fun c n => c % n) cs ns
def CSt.call (ns p : List Int) (i : Nat) : CSt → List Int
  | .calls css => modL ns (css.getD (i % css.length) [])
  | .lay fs => if (dep fs p).getD 0 = 0 then List.replicate ns.length 0 else (fromL ns fs p ((dep fs p).getD 0)).headD []
def unsafeB (ps : List Int) : RS → Bool
  | .words _ => false
  | .wit m ws r => decide (wsum ws ps % m = r)
  | .lay _ => false
def dirAt (ns ps cs : List Int) (i : Nat) : RS → Bool
  | .words bs => bs.getD (i % bs.length) false
  | .wit m ws r => decide (wsum ws (shiftL ns ps cs 1) % m = r)
  | .lay fs => decide ((dep fs (shiftL ns ps cs 1)).getD (topL fs + 1) < (dep fs (shiftL ns ps cs (-1))).getD (topL fs + 1))
theorem emod_nat {i n : Nat} : ((i : Int) % (n : Int)) = ((i % n : Nat) : Int) := rfl
section
variable {P : Program} {w : World} {K : PySem.W.Frag} {mg : Str → Option Value} {base : Heap}
def sp_Responder_is_unsafe (CR C : Addr) : Sp := fun vs H Q _ => ∃ (p s : Addr) (ns ps : List Int) (tss : List (List Int)) (rs : RS), vs = [.ref p, .ref s] ∧ RespAt CR C H p ns tss rs ∧ SzOk ns ∧ (∀ n ∈ ns, n.natAbs < 2 ^ 5000) ∧ rs.Ok ns tss ∧ H s = some (.tup (ps.map V.int)) ∧ SeatOk ns ps ∧ ∀ H2, Ex H H2 → Q (.bl (unsafeB ps rs)) H2
theorem ok_Responder_is_unsafe (T : TX K mg) : FnOk P w K mg base CX0 3 T.f_Responder_is_unsafe T.fd_Responder_is_unsafe ["self", "seat"] (sp_Responder_is_unsafe T.C_Responder T.C_Table) := by
  refine T.F_Responder_is_unsafe.ok sc_Responder_is_unsafe (fun vs H Q E h => ?_) (fun cdv A outer s H vs Q E hr h => ?_)
  · obtain ⟨p, s, ns, ps, tss, rs, rfl, _⟩ := h
    rfl
  · obtain ⟨p, s, ns, ps, tss, rs, rfl, ⟨dx, a, g, st, dv, u, gs, h1, tab, h3, h4, hst, hdv⟩, ok, bn, hrs, hs, sk, k⟩ := h
    refine ⟨_, (pss_one (ps_ret (pe_and (pe_callB call_isi (by rfl) T.z_isinstance (by decide +kernel) (pa_cons (pe_fld (pv 0) rfl) (pa_cons (pe_bltn (v := .ty "tuple") rfl T.z_tuple (by decide +kernel) rfl) pa_nil))) (pe_one (pe_call (ok_has_residue T) hr rfl T.m_has_residue T.F_has_residue.kp T.b_has_residue .nil pass0 (pa_cons (pe_fld (pv 0) rfl) (pa_cons (pv 1) pa_nil))))))), ?_⟩
    cases rs with
    | words bs =>
      obtain ⟨st, rfl, h5⟩ := hst
      exact ⟨_, rfl, p, T.C_Responder, dx, _, _, rfl, h1, T.cl_Responder, T.n_Responder_strategy, rfl, _, _, _, _, false, rfl, .ty _, .base (.lst h5), kit_ty (by decide +kernel), _, rfl, k H exr⟩
    | wit m ws r =>
      obtain ⟨wk, bm, _⟩ := hrs
      have m3 := wk.m3
      obtain ⟨st, rfl, h5⟩ := hst
      obtain ⟨wa, hw1, hw2⟩ := id h5
      refine ⟨_, rfl, p, T.C_Responder, dx, _, _, rfl, h1, T.cl_Responder, T.n_Responder_strategy, rfl, _, _, _, _, true, rfl, .ty _, .base (.tup hw1), kit_ty (by decide +kernel), _, rfl, iteT ?_⟩
      refine ⟨_, rfl, p, T.C_Responder, dx, _, _, rfl, h1, T.cl_Responder, T.n_Responder_strategy, rfl, _, rfl, st, s, ws, ps, m, r, rfl, h5, by omega, hs, by rw [wk.len, sk.len], by rw [sk.len]; exact ok.le, fun x hx => ?_, seat_small sk bn, fun H2 e2 => k H2 e2⟩
      obtain ⟨x0, x1⟩ := wk.w0 x hx
      exact Nat.lt_of_le_of_lt (by omega) bm
    | lay fs =>
      obtain rfl : st = .str "layers" := hst
      exact ⟨_, rfl, p, T.C_Responder, dx, _, _, rfl, h1, T.cl_Responder, T.n_Responder_strategy, rfl, _, _, _, _, false, rfl, .ty _, .base (.str _), kit_ty (by decide +kernel), _, rfl, k H exr⟩
def sp_Responder_direction_at (CR C : Addr) : Sp := fun vs H Q _ => ∃ (p s c : Addr) (i : Nat) (ns ps cs : List Int) (tss : List (List Int)) (rs : RS), vs = [.ref p, .ref s, .ref c, .int (i : Int)] ∧ RespAt CR C H p ns tss rs ∧ SzOk ns ∧ (∀ n ∈ ns, n.natAbs < 2 ^ 5000) ∧ rs.Ok ns tss ∧ tss ≠ [] ∧ H s = some (.tup (ps.map V.int)) ∧ SeatOk ns ps ∧ H c = some (.tup (cs.map V.int)) ∧ cs.length = ns.length ∧ ∀ H2, Ex H H2 → Q (.str (awayW (dirAt ns ps cs i rs))) H2
theorem ok_Responder_direction_at (T : TX K mg) : FnOk P w K mg base CX0 7 T.f_Responder_direction_at T.fd_Responder_direction_at ["self", "seat", "call", "index"] (sp_Responder_direction_at T.C_Responder T.C_Table) := by
  refine T.F_Responder_direction_at.ok sc_Responder_direction_at (fun vs H Q E h => ?_) (fun cdv A outer s H vs Q E hr h => ?_)
  · obtain ⟨p, s, c, i, ns, ps, cs, tss, rs, rfl, _⟩ := h
    rfl
  · obtain ⟨p, s, c, i, ns, ps, cs, tss, rs, rfl, ⟨dx, a, g, st, dv, u, gs, h1, tab, h3, h4, hst, hdv⟩, ok, bn, hrs, tne, hs, sk, hc, lc, k⟩ := h
    refine ⟨_, (pss_cons (ps_if (pt_val (pe_callB call_isi (by rfl) T.z_isinstance (by decide +kernel) (pa_cons (pe_fld (pv 0) rfl) (pa_cons (pe_bltn (v := .ty "tuple") rfl T.z_tuple (by decide +kernel) rfl) pa_nil)))) (pss_one (ps_ret (pe_call (ok_direction_off T) hr rfl T.m_direction_off T.F_direction_off.kp T.b_direction_off .nil pass0 (pa_cons (pe_fld (pv 0) rfl) (pa_cons (pe_fld (pv 0) rfl) (pa_cons (pv 1) (pa_cons (pv 2) pa_nil))))))) pss_nil) (pss_cons (ps_if (pt_cmpR op_isN (pe_fld (pv 0) rfl) pe_non (nomark _)) (pss_one (ps_ret (pe_ix ix_list (pe_fld (pv 0) rfl) (pe_op op_mod (pv 3) (pe_callB call_len_seq (by rfl) T.z_len (by decide +kernel) (pa_cons (pe_fld (pv 0) rfl) pa_nil))) (fun _ _ => rfl)))) pss_nil) (pss_cons (ps_set (i := 4) sc_Responder_direction_at.nd rfl (Or.inr rfl) (pe_op op_add (pe_callB (CD.cr_maxT rfl) (by rfl) T.z_max (by decide +kernel) (pa_cons (pe_bm0 PySem.F.plainAttrs_dict PySem.F.slot_dict_values PySem.F.type_dict_values CD.mt_valuesT (pe_fld (pv 0) rfl)) pa_nil)) pe_int)) (pss_cons (ps_asg (pe_lc (own := [("one", 7)]) (g := (gName 7)) rfl sc_Responder_direction_at.nd (pi_tup (pe_meth (pe_fld (pv 0) rfl) T.cl_Table T.me_Table_moves (ok_Table_moves T) (hr.mono (by decide)) T.b_Table_moves .nil pass0 (pa_cons (pv 1) (pa_cons (pv 2) pa_nil)))) (blkOk_by (N := N_Responder_direction_at) (sc := defScope s_Responder_direction_at) (by decide +kernel)) (fun _ _ _ _ _ => (pg_name (i := 7) sc_Responder_direction_at.nd rfl (Or.inl rfl))) (fun _ _ _ _ _ => pts_nil) (fun _ _ _ _ _ => (pe_dget2 (hu_of hr) (pe_fldK K rfl (pv 0) rfl) (pv 7) (pv 4) ⟨rfl, rfl, rfl, rfl⟩))) (pg_lst rfl (pgs_cons (pg_name (i := 5) sc_Responder_direction_at.nd rfl (Or.inl rfl)) (pgs_cons (pg_name (i := 6) sc_Responder_direction_at.nd rfl (Or.inl rfl)) pgs_nil)))) (pss_one (ps_ret (pe_ifExp (pt_cmpR op_gt (pv 6) (pv 5) (nomark _)) pe_str pe_str))))))), ?_⟩
    cases rs with
    | words bs =>
      obtain ⟨st, rfl, h5⟩ := hst
      obtain rfl : dv = .non := hdv
      refine ⟨_, rfl, p, T.C_Responder, dx, _, _, rfl, h1, T.cl_Responder, T.n_Responder_strategy, rfl, _, _, _, _, false, rfl, .ty _, .base (.lst h5), kit_ty (by decide +kernel), _, rfl, itf rfl ?_⟩
      have h5 : H st = some (.lst (wordsV bs)) := h5
      have lp : 0 < bs.length := List.length_pos_iff.mpr hrs.1
      have il : i % bs.length < bs.length := Nat.mod_lt _ lp
      have lw : (wordsV bs).length = bs.length := List.length_map _
      have hat : atI (wordsV bs) ((i : Int) % ((wordsV bs).length : Int)) = some (.str (awayW (dirAt ns ps cs i (.words bs)))) := by
        rw [lw]
        show atI (wordsV bs) ((i % bs.length : Nat) : Int) = _
        refine L2.atI_nat ?_
        rw [List.getElem?_map, List.getElem?_eq_getElem il]
        show some _ = some (V.str (awayW (bs.getD (i % bs.length) false)))
        rw [List.getD_eq_getElem?_getD, List.getElem?_eq_getElem il]
        rfl
      show tSeq _ _ _ _ _
      refine ⟨_, rfl, p, T.C_Responder, dx, _, _, rfl, h1, T.cl_Responder, T.n_Responder_depths, rfl, rfl, _, rfl, itt rfl ?_⟩
      exact ⟨_, rfl, p, T.C_Responder, dx, _, _, rfl, h1, T.cl_Responder, T.n_Responder_strategy, rfl, _, rfl, _, rfl, p, T.C_Responder, dx, _, _, rfl, h1, T.cl_Responder, T.n_Responder_strategy, rfl, st, _, rfl, .inl (SqL.of h5), _, _, rfl, rfl, (by show (0 : Int) < ((wordsV bs).length : Int); omega), st, _, _, _, rfl, rfl, SqL.of h5, hat, k H exr⟩
    | wit m ws r =>
      obtain ⟨wk, bm, _⟩ := hrs
      obtain ⟨st, rfl, h5⟩ := hst
      obtain ⟨wa, hw1, hw2⟩ := id h5
      refine ⟨_, rfl, p, T.C_Responder, dx, _, _, rfl, h1, T.cl_Responder, T.n_Responder_strategy, rfl, _, _, _, _, true, rfl, .ty _, .base (.tup hw1), kit_ty (by decide +kernel), _, rfl, itt rfl ?_⟩
      exact ⟨_, rfl, p, T.C_Responder, dx, _, _, rfl, h1, T.cl_Responder, T.n_Responder_table, rfl, _, rfl, p, T.C_Responder, dx, _, _, rfl, h1, T.cl_Responder, T.n_Responder_strategy, rfl, _, rfl, _, rfl, a, st, s, c, ns, ws, ps, cs, m, r, rfl, tab, ok, bn, h5, wk, bm, hs, sk, hc, lc, fun H2 e2 => k H2 e2⟩
    | lay fs =>
      obtain rfl : st = .str "layers" := hst
      obtain ⟨D, rfl, hD⟩ := hdv
      refine ⟨_, rfl, p, T.C_Responder, dx, _, _, rfl, h1, T.cl_Responder, T.n_Responder_strategy, rfl, _, _, _, _, false, rfl, .ty _, .base (.str _), kit_ty (by decide +kernel), _, rfl, itf rfl ?_⟩
      show tSeq _ _ _ _ _
      refine ⟨_, rfl, p, T.C_Responder, dx, _, _, rfl, h1, T.cl_Responder, T.n_Responder_depths, rfl, rfl, _, rfl, itf rfl ?_⟩
      show tSeq _ _ _ _ _
      refine ⟨_, rfl, p, T.C_Responder, dx, _, _, rfl, h1, T.cl_Responder, T.n_Responder_depths, rfl, .inr (.inr (.inl ⟨rfl, .inr ⟨_, hD⟩⟩)), D, _, rfl, rfl, hD, fun vv hvv => ?_⟩
      generalize hG1 : upd H vv _ = H1
      have e1 := exG hG1 hvv
      have hv1 := atG hG1
      clear hG1
      obtain ⟨ef, pr⟩ := hrs
      have fne : fs ≠ [] := fun z => by
        rw [z] at ef
        exact counts_ne tne ef.symm
      refine ⟨vv, D, _, fs.map fun q => (q.2 : Int), rfl, hv1, e1 _ _ hD, by rw [List.map_map, List.map_map]; rfl, (fun z => fne (List.map_eq_nil_iff.mp z)), fun m hm1 hm2 => ?_⟩
      obtain rfl := top_is fne hm1 hm2
      refine ⟨_, _, rfl, rfl, ?_⟩
      dsimp only [gName]
      have h11 := e1 _ _ h1
      have tab1 := tab.mono e1
      obtain ⟨dt, t, g1, g2⟩ := id tab1
      refine ⟨_, rfl, p, T.C_Responder, dx, _, _, rfl, h11, T.cl_Responder, T.n_Responder_table, rfl, a, dt, _, rfl, g1, rfl, _, rfl, _, rfl, a, s, c, ns, ps, cs, rfl, tab1, ok, e1 _ _ hs, e1 _ _ hc, sk, lc, fun H2 qq f b e2 nq nf nb hq hf hb => ?_⟩
      refine ⟨qq, rfl, ⟨_, SqT.of hq⟩, fun M hM => ?_⟩
      have E2 := ext e1 e2
      have h12 := E2 _ _ h1
      have hD2 : CntAt H2 D fs := E2 _ _ hD
      generalize hA : shiftL ns ps cs 1 = pa at hf
      generalize hB : shiftL ns ps cs (-1) = pb at hb
      refine lc_vals (walk_tup (xs := [V.ref f, V.ref b])) [V.int (((dep fs pa).getD (topL fs + 1) : Nat) : Int), V.int (((dep fs pb).getD (topL fs + 1) : Nat) : Int)] rfl (Nat.le_of_ble_eq_true rfl) hM (fun H3 e => SqT.of (e _ _ hq)) ?_ gmono_name ?_
      · rintro j x _ H3 R hj e3 ⟨rfl, hx⟩ kk
        obtain ⟨r, pp, rfl, hr, hj2⟩ : ∃ (r : Addr) (pp : List Int), x = .ref r ∧ H3 r = some (.tup (pp.map V.int)) ∧ [V.int (((dep fs pa).getD (topL fs + 1) : Nat) : Int), V.int (((dep fs pb).getD (topL fs + 1) : Nat) : Int)][j]? = some (V.int (((dep fs pp).getD (topL fs + 1) : Nat) : Int)) := by
          match j, hj, hx with
          | 0, _, hx => exact ⟨f, pa, (Option.some.inj hx).symm, e3 _ _ hf, rfl⟩
          | 1, _, hx => exact ⟨b, pb, (Option.some.inj hx).symm, e3 _ _ hb, rfl⟩
        refine ⟨rfl, _, rfl, p, T.C_Responder, dx, _, _, rfl, e3 _ _ h12, T.cl_Responder, T.n_Responder_depths, rfl, D, rfl, .inr ⟨_, .inl (hD2.mono e3)⟩, _, rfl, _, rfl, _, cnt_get (hD2.mono e3) hr, kk _ _ exr ?_⟩
        rw [hj2, ← getD_int]
        rfl
      intro H3 e3 hM3
      refine ⟨M, _, rfl, SqL.of hM3, rfl, _, _, rfl, _, _, rfl, rfl, ?_⟩
      dsimp only [gName]
      refine ⟨_, rfl, _, rfl, _, _, rfl, rfl, _, rfl, ?_⟩
      have kk := k H3 (ext E2 e3)
      have ed : dirAt ns ps cs i (.lay fs) = decide ((dep fs pa).getD (topL fs + 1) < (dep fs pb).getD (topL fs + 1)) := by
        rw [← hA, ← hB]
        rfl
      rw [ed] at kk
      by_cases c : (dep fs pa).getD (topL fs + 1) < (dep fs pb).getD (topL fs + 1)
      · rw [decide_eq_true c] at kk
        exact itt (decide_eq_true (by omega)) kk
      · rw [decide_eq_false c] at kk
        exact itf (decide_eq_false (by omega)) kk
end

section
variable {P : Program} {w : World} {K : PySem.W.Frag} {mg : Str → Option Value} {base : Heap}
def sp_Responder_answer (CR C : Addr) : Sp := fun vs H Q _ => ∃ (p s c : Addr) (ns ps cs : List Int) (tss : List (List Int)) (rs : RS) (u : Nat), vs = [.ref p, .ref s, .ref c] ∧ RespU CR C H p ns tss rs u ∧ SzOk ns ∧ (∀ n ∈ ns, n.natAbs < 2 ^ 5000) ∧ rs.Ok ns tss ∧ tss ≠ [] ∧ H s = some (.tup (ps.map V.int)) ∧ SeatOk ns ps ∧ H c = some (.tup (cs.map V.int)) ∧ cs.length = ns.length ∧ unsafeB ps rs = false ∧ ∀ H2, XB p H H2 → (∀ m, RespO CR C H p ns tss rs u m → RespO CR C H2 p ns tss rs (u + 1) m) → RespU CR C H2 p ns tss rs (u + 1) → Q (.str (awayW (dirAt ns ps cs u rs))) H2
theorem ok_Responder_answer (T : TX K mg) : FnOk P w K mg base CX0 8 T.f_Responder_answer T.fd_Responder_answer ["self", "seat", "call"] (sp_Responder_answer T.C_Responder T.C_Table) := by
  refine T.F_Responder_answer.ok sc_Responder_answer (fun vs H Q E h => ?_) (fun cdv A outer s H vs Q E hr h => ?_)
  · obtain ⟨p, s, c, ns, ps, cs, tss, rs, u, rfl, _⟩ := h
    rfl
  · obtain ⟨p, s, c, ns, ps, cs, tss, rs, u, rfl, hrp, ok, bn, hrs, tne, hs, sk, hc, lc, un, k⟩ := h
    obtain ⟨dx, a, g, st, dv, gs, h1, tab, h3, h4, h5, h6⟩ := id hrp
    refine ⟨_, (pss_cons (ps_expr (pe_call (ok_require_seat T) (hr.mono (by decide)) rfl T.m_require_seat T.F_require_seat.kp T.b_require_seat .nil pass0 (pa_cons (pe_fld (pv 0) rfl) (pa_cons (pv 1) pa_nil)))) (pss_cons (ps_if (pt_val (pe_meth (pv 0) T.cl_Responder T.me_Responder_is_unsafe (ok_Responder_is_unsafe T) (hr.mono (by decide)) T.b_Responder_is_unsafe .nil pass0 (pa_cons (pv 1) pa_nil))) pss_never pss_nil) (pss_cons (ps_expr (pe_call (ok_require_call T) (hr.mono (by decide)) rfl T.m_require_call T.F_require_call.kp T.b_require_call .nil pass0 (pa_cons (pe_fld (pv 0) rfl) (pa_cons (pv 2) pa_nil)))) (pss_cons (ps_set (i := 3) sc_Responder_answer.nd rfl (Or.inl rfl) (pe_meth (pv 0) T.cl_Responder T.me_Responder_direction_at (ok_Responder_direction_at T) hr T.b_Responder_direction_at .nil pass0 (pa_cons (pv 1) (pa_cons (pv 2) (pa_cons (pe_fld (pv 0) rfl) pa_nil))))) (pss_cons (ps_fldaug (pv 0) pe_int in_add) (pss_one (ps_ret (pv 3)))))))), ?_⟩
    have l4 := ok.le
    have lp := sk.len
    refine ⟨_, rfl, p, T.C_Responder, dx, _, _, rfl, h1, T.cl_Responder, T.n_Responder_table, rfl, _, rfl, a, _, ns, _, rfl, tab, l4, TupA.ints hs (by omega), isSeat_ok sk, fun H1 e1 => ?_⟩
    refine ⟨_, rfl, p, dx, _, rfl, e1 _ _ h1, rfl, _, rfl, p, s, ns, ps, tss, rs, rfl, hrp.at.mono e1, ok, bn, hrs, e1 _ _ hs, sk, fun H2 e2 => ⟨_, rfl, itf un ?_⟩⟩
    have E2 := ext e1 e2
    refine ⟨_, rfl, p, T.C_Responder, dx, _, _, rfl, E2 _ _ h1, T.cl_Responder, T.n_Responder_table, rfl, _, rfl, a, _, ns, _, rfl, tab.mono E2, TupA.ints (E2 _ _ hc) (by omega), isCall_ok lc, fun H3 e3 => ?_⟩
    have E3 := ext E2 e3
    refine ⟨_, rfl, p, dx, _, rfl, E3 _ _ h1, rfl, _, rfl, _, rfl, _, rfl, p, T.C_Responder, dx, _, _, rfl, E3 _ _ h1, T.cl_Responder, T.n_Responder_used, rfl, p, s, c, u, ns, ps, cs, tss, rs, rfl, hrp.at.mono E3, ok, bn, hrs, tne, E3 _ _ hs, sk, E3 _ _ hc, lc, fun H4 e4 => ?_⟩
    have E4 := ext E3 e4
    have h14 := E4 _ _ h1
    refine ⟨_, rfl, p, T.C_Responder, dx, _, _, rfl, h14, T.cl_Responder, T.n_Responder_used, rfl, ?_⟩
    refine ⟨_, _, rfl, rfl, dx, _, h14, (by show 5 < 1000; decide), _, rfl, ?_⟩
    have own : ∀ m, RespO T.C_Responder T.C_Table H p ns tss rs u m → st ≠ .ref m := fun m ⟨dx', a', g', st', dv', gs', z1, _, _, _, _, _, z7⟩ => by
      rw [h1] at z1
      injection z1 with z1
      injection z1 with _ _ z3
      simp only [List.cons.injEq, Prod.mk.injEq] at z3
      rw [z3.2.2.1.2]
      exact z7
    have xbp : XB p H (upd H4 p (.ins T.C_Responder dx [("table", .ref a), ("goals", .ref g), ("strategy", st), ("used", .int ((u + 1 : Nat) : Int)), ("depths", dv)])) := fun c o n z => by rw [upd_ne n]; exact E4 _ _ z
    refine k _ xbp (fun m hm => ?_) ?_
    · have hst := own m hm
      generalize hG : upd H4 p _ = H5
      have hp5 : H5 p = some (.ins T.C_Responder dx [("table", .ref a), ("goals", .ref g), ("strategy", st), ("used", .int ((u + 1 : Nat) : Int)), ("depths", dv)]) := by rw [← hG]; exact upd_same
      have x5 : XI H4 H5 := fun c o n z => by rw [← hG, upd_ne (ne_of z h14 (n _ _ _))]; exact z
      obtain ⟨dt, t, g1, g2⟩ := tab.mono E4
      have na : a ≠ p := ne_of g1 h14 (fun z => by
        injection z with z1 z2 z3
        exact absurd (congrArg List.length z3) (by simp))
      have g15 : H5 a = some (.ins T.C_Table dt [("rings", .ref t)]) := by rw [← hG, upd_ne na]; exact g1
      exact ⟨dx, a, g, st, dv, gs, hp5, ⟨dt, t, g15, x5.tup g2⟩, x5.tup (E4 _ _ h3), x5.rows (h4.mono E4), h5.xi (fun c o n z => x5 c o n (E4 _ _ z)), h6.xi (fun c o n z => x5 c o n (E4 _ _ z)), hst⟩
    · generalize hG : upd H4 p _ = H5
      have hp5 : H5 p = some (.ins T.C_Responder dx [("table", .ref a), ("goals", .ref g), ("strategy", st), ("used", .int ((u + 1 : Nat) : Int)), ("depths", dv)]) := by rw [← hG]; exact upd_same
      have x5 : XI H4 H5 := fun c o n z => by rw [← hG, upd_ne (ne_of z h14 (n _ _ _))]; exact z
      obtain ⟨dt, t, g1, g2⟩ := tab.mono E4
      have na : a ≠ p := ne_of g1 h14 (fun z => by
        injection z with z1 z2 z3
        exact absurd (congrArg List.length z3) (by simp))
      have g15 : H5 a = some (.ins T.C_Table dt [("rings", .ref t)]) := by rw [← hG, upd_ne na]; exact g1
      exact ⟨dx, a, g, st, dv, gs, hp5, ⟨dt, t, g15, x5.tup g2⟩, x5.tup (E4 _ _ h3), x5.rows (h4.mono E4), h5.xi (fun c o n z => x5 c o n (E4 _ _ z)), h6.xi (fun c o n z => x5 c o n (E4 _ _ z))⟩
end

abbrev dirS (b : Bool) : Str := if b = true then "backward" else "forward"
abbrev sgD (b : Bool) : Int := if b = true then -1 else 1
/-- moves: refs of (call, direction) -/
def MovR (H : Hp) (xs : List V) (ms : List (List Int × Bool)) : Prop := Paired (fun x m => ∃ r c, x = V.ref r ∧ H r = some (.tup [.ref c, .str (dirS m.2)]) ∧ H c = some (.tup (m.1.map V.int))) xs ms
theorem MovR.mono {H H2 : Hp} (e : Ex H H2) : ∀ {xs : List V} {ms : List (List Int × Bool)}, MovR H xs ms → MovR H2 xs ms
  | _, _, .nil => .nil
  | _, _, .cons ⟨r, c, h1, h2, h3⟩ t => .cons ⟨r, c, h1, e _ _ h2, e _ _ h3⟩ (MovR.mono e t)
theorem MovR.len {H : Hp} : ∀ {xs : List V} {ms : List (List Int × Bool)}, MovR H xs ms → xs.length = ms.length
  | _, _, .nil => rfl
  | _, _, .cons _ t => by rw [List.length_cons, List.length_cons, MovR.len t]
theorem MovR.snoc {H : Hp} {r c : Addr} {m : List Int × Bool} (h : H r = some (.tup [.ref c, .str (dirS m.2)])) (hc : H c = some (.tup (m.1.map V.int))) : ∀ {xs : List V} {ms : List (List Int × Bool)}, MovR H xs ms → MovR H (xs ++ [.ref r]) (ms ++ [m])
  | _, _, .nil => .cons ⟨r, c, rfl, h, hc⟩ .nil
  | _, _, .cons q t => .cons q (MovR.snoc h hc t)
theorem MovR.upd {H : Hp} {D : Addr} {ys zs : List V} (hD : H D = some (.lst ys)) : ∀ {xs : List V} {ms : List (List Int × Bool)}, MovR H xs ms → MovR (upd H D (.lst zs)) xs ms
  | _, _, .nil => .nil
  | _, _, .cons ⟨r, c, h1, h2, h3⟩ t => .cons ⟨r, c, h1, by rw [upd_ne (ne_of h2 hD (by intro z; cases z))]; exact h2, by rw [upd_ne (ne_of h3 hD (by intro z; cases z))]; exact h3⟩ (MovR.upd hD t)
def MovQ (H : Hp) (q : Bool × Addr) (ms : List (List Int × Bool)) : Prop := ∃ xs, SqH H q xs ∧ MovR H xs ms
theorem MovQ.mono {H H2 : Hp} {q : Bool × Addr} {ms : List (List Int × Bool)} (e : Ex H H2) (h : MovQ H q ms) : MovQ H2 q ms := by
  obtain ⟨xs, h1, h2⟩ := h
  exact ⟨xs, h1.mono e, h2.mono e⟩
/-- where the walker is -/
def posL (ns st : List Int) (ms : List (List Int × Bool)) : List Int := ms.foldl (fun p m => shiftL ns p m.1 (sgD m.2)) st
def walkL (ns st : List Int) (ms : List (List Int × Bool)) : List (List Int) := (List.range (ms.length + 1)).map fun i => posL ns st (ms.take i)
theorem pos_snoc (ns st : List Int) (ms : List (List Int × Bool)) (m : List Int × Bool) : posL ns st (ms ++ [m]) = shiftL ns (posL ns st ms) m.1 (sgD m.2) := by
  unfold posL
  rw [List.foldl_append]
  rfl
theorem walk_snoc (ns st : List Int) (ms : List (List Int × Bool)) (m : List Int × Bool) : walkL ns st (ms ++ [m]) = walkL ns st ms ++ [posL ns st (ms ++ [m])] := by
  unfold walkL
  rw [List.length_append, List.length_singleton, List.range_succ, List.map_append]
  congr 1
  · refine List.map_congr_left fun i hi => ?_
    rw [List.take_append_of_le_length (by have := List.mem_range.mp hi; omega)]
  · rw [List.map_cons, List.map_nil, List.take_of_length_le (by simp)]
theorem walk_last (ns st : List Int) (ms : List (List Int × Bool)) : ∃ hss, walkL ns st ms = hss ++ [posL ns st ms] := by
  unfold walkL
  rw [List.range_succ, List.map_append]
  exact ⟨_, by rw [List.map_cons, List.map_nil, List.take_of_length_le (Nat.le_refl _)]⟩
theorem walk_len (ns st : List Int) (ms : List (List Int × Bool)) : (walkL ns st ms).length = ms.length + 1 := by simp [walkL]
theorem pos_ok {ns st : List Int} (one : ∀ n ∈ ns, 1 ≤ n) (sk : SeatOk ns st) : ∀ {ms : List (List Int × Bool)}, (∀ m ∈ ms, m.1.length = ns.length) → SeatOk ns (posL ns st ms)
  | [], _ => sk
  | m :: ms, h => by
    show SeatOk ns (posL ns (shiftL ns st m.1 (sgD m.2)) ms)
    exact pos_ok one (shift_seat one sk.len (h m List.mem_cons_self)) fun n hn => h n (List.mem_cons_of_mem _ hn)
theorem atI_last {α : Type} (ys : List α) (v : α) : atI (ys ++ [v]) (-1) = some v := by
  unfold atI ixN
  rw [if_neg (by decide), if_pos (by rw [List.length_append, List.length_singleton]; omega), List.length_append, List.length_singleton]
  have : ((-1 : Int) + ((ys.length + 1 : Nat) : Int)).toNat = ys.length := by omega
  show (ys ++ [v])[((-1 : Int) + ((ys.length + 1 : Nat) : Int)).toNat]? = some v
  rw [this, List.getElem?_append_right (Nat.le_refl _), Nat.sub_self]
  rfl
theorem RowsR.last {H : Hp} {xs : List V} {hss : List (List Int)} {hs : List Int} (h : RowsR H xs (hss ++ [hs])) : ∃ ys r, xs = ys ++ [V.ref r] ∧ H r = some (.tup (hs.map V.int)) := by
  have l := h.len
  rcases List.eq_nil_or_concat xs with rfl | ⟨ys, y, rfl⟩
  · simp at l
  simp only [List.concat_eq_append] at h l ⊢
  have l2 : ys.length = hss.length := by simpa using l
  obtain ⟨hs2, r, e1, rfl, e3⟩ := h.get (i := ys.length) (by rw [List.getElem?_append_right (Nat.le_refl _), Nat.sub_self]; rfl)
  rw [l2, List.getElem?_append_right (Nat.le_refl _), Nat.sub_self] at e1
  obtain rfl : hs = hs2 := Option.some.inj e1
  exact ⟨ys, r, rfl, e3⟩
section
variable {P : Program} {w : World} {K : PySem.W.Frag} {mg : Str → Option Value} {base : Heap}
def sp_is_move (C : Addr) : Sp := fun vs H Q _ => ∃ (a r c : Addr) (ns cs : List Int) (bk : Bool), vs = [.ref a, .ref r] ∧ TabAt C H a ns ∧ ns.length ≤ 4 ∧ H r = some (.tup [.ref c, .str (dirS bk)]) ∧ H c = some (.tup (cs.map V.int)) ∧ cs.length = ns.length ∧ ∀ H2, Ex H H2 → Q (.bl true) H2
theorem ok_is_move (T : TX K mg) : FnOk P w K mg base CX0 3 T.f_is_move T.fd_is_move ["table", "value"] (sp_is_move T.C_Table) := by
  refine T.F_is_move.ok sc_is_move (fun vs H Q E h => ?_) (fun cdv A outer s H vs Q E hr h => ?_)
  · obtain ⟨a, r, c, ns, cs, bk, rfl, _⟩ := h
    rfl
  · obtain ⟨a, r, c, ns, cs, bk, rfl, tab, l4, hr1, hc, lc, k⟩ := h
    refine ⟨_, (pss_cons (ps_if (PW.pt (pw_or (pt_not (pt_val (pe_callB call_isi (by rfl) T.z_isinstance (by decide +kernel) (pa_cons (pv 1) (pa_cons (pe_bltn (v := .ty "tuple") rfl T.z_tuple (by decide +kernel) rfl) pa_nil))))) (pw_or1 (pt_cmpR op_ne (pe_callB call_len_seq (by rfl) T.z_len (by decide +kernel) (pa_cons (pv 1) pa_nil)) pe_int (nomark _))))) (pss_one (ps_ret pe_bl)) pss_nil) (pss_one (ps_ret (pe_and (pe_meth (pv 0) T.cl_Table T.me_Table_is_call (ok_Table_is_call T) hr T.b_Table_is_call .nil pass0 (pa_cons (pe_ix ix_tup (pv 1) pe_int (fun _ _ => rfl)) pa_nil)) (pe_one (pe_call (ok_is_direction T) (hr.mono (by decide)) rfl T.m_is_direction T.F_is_direction.kp T.b_is_direction .nil pass0 (pa_cons (pe_ix ix_tup (pv 1) pe_int (fun _ _ => rfl)) pa_nil))))))), ?_⟩
    obtain ⟨dx, t, g1, g2⟩ := id tab
    refine ⟨_, rfl, _, _, _, _, true, rfl, .ty _, .base (.tup hr1), kit_ty (by decide +kernel), _, rfl, ?_⟩
    refine ⟨_, rfl, r, _, rfl, .inr (SqT.of hr1), rfl, _, rfl, ?_⟩
    refine ⟨_, rfl, a, dx, _, rfl, g1, rfl, _, rfl, r, _, _, _, rfl, rfl, SqT.of hr1, rfl, a, _, ns, _, rfl, tab, TupA.ints hc (by omega), fun H1 e1 => ?_⟩
    rw [isCall_ok lc]
    refine ⟨_, rfl, ?_⟩
    refine ⟨_, rfl, r, _, _, _, rfl, rfl, SqT.of (e1 _ _ hr1), rfl, _, some (dirS bk), rfl, rfl, fun H2 e2 => ?_⟩
    have : isDirO (some (dirS bk)) = true := by cases bk <;> decide +kernel
    rw [this]
    exact k _ (ext e1 e2)
def sp_require_moves (C : Addr) : Sp := fun vs H Q _ => ∃ (a : Addr) (q : Bool × Addr) (ns : List Int) (ms : List (List Int × Bool)), vs = [.ref a, .ref q.2] ∧ TabAt C H a ns ∧ ns.length ≤ 4 ∧ MovQ H q ms ∧ (∀ m ∈ ms, m.1.length = ns.length) ∧ ∀ H2, Ex H H2 → Q .non H2
theorem ok_require_moves (T : TX K mg) : FnOk P w K mg base CX0 4 T.f_require_moves T.fd_require_moves ["table", "moves"] (sp_require_moves T.C_Table) := by
  refine T.F_require_moves.ok sc_require_moves (fun vs H Q E h => ?_) (fun cdv A outer s H vs Q E hr h => ?_)
  · obtain ⟨a, q, ns, ms, rfl, _⟩ := h
    rfl
  · obtain ⟨a, ⟨b, q⟩, ns, ms, rfl, tab, l4, ⟨xs, hq, rr⟩, hm, k⟩ := h
    refine ⟨_, (pss_cons (ps_if (pt_not (pt_val (pe_callB call_isiT (by rfl) T.z_isinstance (by decide +kernel) (pa_cons (pv 1) (pa_cons (pe_tup (pa_cons (pe_bltn (v := .ty "list") rfl T.z_list (by decide +kernel) rfl) (pa_cons (pe_bltn (v := .ty "tuple") rfl T.z_tuple (by decide +kernel) rfl) pa_nil))) pa_nil))))) pss_never pss_nil) (pss_one (ps_for PassesOwn.never rfl (CE.pi_e rfl T.z_enumerate (pa_cons (pv 1) pa_nil)) (pg_tup rfl (pgs_cons (pg_name (i := 2) sc_require_moves.nd rfl (Or.inl rfl)) (pgs_cons (pg_name (i := 3) sc_require_moves.nd rfl (Or.inl rfl)) pgs_nil))) (pss_one (ps_if (pt_not (pt_val (pe_call (ok_is_move T) hr rfl T.m_is_move T.F_is_move.kp T.b_is_move .nil pass0 (pa_cons (pv 0) (pa_cons (pv 3) pa_nil))))) pss_never pss_nil))))), ?_⟩
    (repeat (first | refine ⟨rfl, ?_⟩ | refine ⟨_, rfl, ?_⟩ | refine ⟨_, _, rfl, rfl, ?_⟩ | refine ⟨_, _, rfl, ?_⟩ | refine ⟨slen rfl, ?_⟩ | refine ⟨⟨by decide, by decide +kernel⟩, ?_⟩ | refine ⟨⟨by decide, by decide, by decide⟩, ?_⟩ | refine ⟨(by show (0 : Int) < _; first | decide | assumption | omega), ?_⟩ | refine ⟨mul_ok (by first | exact .inr (by decide) | exact .inl (by decide)), ?_⟩))
    (intro y ny; generalize hGy : upd _ y _ = H1; have eH1 := exG hGy ny; have hy := atG hGy; clear hGy)
    have q1 := hq.mono eH1
    refine ⟨_, y, _, _, _, true, rfl, hy, .cons (.ty _) (.cons (.ty _) .nil), q1.ty, kit_seq b, _, rfl, itf rfl ?_⟩
    refine ⟨_, rfl, (b, q), rfl, ⟨_, q1.sq⟩, ?_⟩
    refine for_it (CE.walk_e (xs := xs)) (fun i σ H3 => (∃ (y2 y3 : Option V), σ = [some (.ref a), some (.ref q), y2, y3]) ∧ Ex H H3) ⟨⟨_, _, rfl⟩, eH1⟩ (fun i σ H2 _ ⟨_, e⟩ => (hq.mono e).sq) ?_ ?_
    · rintro i x σ H3 H4 hi ⟨⟨y2, y3, rfl⟩, e3⟩ ⟨Ta, x1, x2, rfl, hT, rfl, hx1, hx2⟩
      cases hx1
      obtain ⟨m, hmi, r, c, rfl, hr0, hc0⟩ := paired_get rr hx2
      have e4 : Ex H (upd H3 Ta (.tup [.int (i : Nat), .ref r])) := ext e3 (exn hT)
      refine ⟨Ta, _, rfl, SqT.of upd_same, rfl, _, _, rfl, _, _, rfl, rfl, ?_⟩
      refine ⟨_, rfl, _, rfl, a, r, c, ns, m.1, m.2, rfl, tab.mono e4, l4, e4 _ _ hr0, e4 _ _ hc0, hm m (List.mem_of_getElem? hmi), fun H5 e5 => ?_⟩
      exact ⟨_, rfl, itf rfl ⟨⟨_, _, rfl⟩, ext e4 e5⟩⟩
    · rintro σ H3 ⟨⟨y2, y3, rfl⟩, e3⟩
      exact k _ e3
def sp_visited_seats (C : Addr) : Sp := fun vs H Q _ => ∃ (a s : Addr) (q : Bool × Addr) (ns ps : List Int) (ms : List (List Int × Bool)), vs = [.ref a, .ref s, .ref q.2] ∧ TabAt C H a ns ∧ SzOk ns ∧ H s = some (.tup (ps.map V.int)) ∧ SeatOk ns ps ∧ MovQ H q ms ∧ ms.length ≤ 100000 ∧ (∀ m ∈ ms, m.1.length = ns.length) ∧ ∀ f H2, Ex H H2 → H f = none → RowsAt H2 f (walkL ns ps ms) → Q (.ref f) H2
theorem ok_visited_seats (T : TX K mg) : FnOk P w K mg base CX0 7 T.f_visited_seats T.fd_visited_seats ["table", "seat", "moves"] (sp_visited_seats T.C_Table) := by
  refine T.F_visited_seats.ok sc_visited_seats (fun vs H Q E h => ?_) (fun cdv A outer s H vs Q E hr h => ?_)
  · obtain ⟨a, s, q, ns, ps, ms, rfl, _⟩ := h
    rfl
  · obtain ⟨a, s, ⟨b, q⟩, ns, ps, ms, rfl, tab, ok, hs, sk, ⟨xs, hq, rr⟩, lm, hm, k⟩ := h
    refine ⟨_, (pss_cons (ps_set (i := 3) sc_visited_seats.nd rfl (Or.inl rfl) (pe_lst (pa_cons (pv 1) pa_nil))) (pss_cons (ps_for PassesOwn.never rfl (pi_seq (pv 2)) (pg_tup rfl (pgs_cons (pg_name (i := 4) sc_visited_seats.nd rfl (Or.inl rfl)) (pgs_cons (pg_name (i := 5) sc_visited_seats.nd rfl (Or.inl rfl)) pgs_nil))) (pss_one (ps_expr (pe_bm PySem.F.plainAttrs_list PySem.F.slot_list_append PySem.F.type_list_append mt_append (pv 3) (pa_cons (pe_meth (pv 0) T.cl_Table T.me_Table_step (ok_Table_step T) hr T.b_Table_step .nil pass0 (pa_cons (pe_ix ix_list (pv 3) (pe_un un_neg pe_int) (fun _ _ => rfl)) (pa_cons (pv 4) (pa_cons (pv 5) pa_nil)))) pa_nil))))) (pss_one (ps_ret (pv 3))))), ?_⟩
    have lx := rr.len
    (repeat (first | refine ⟨rfl, ?_⟩ | refine ⟨_, rfl, ?_⟩ | refine ⟨_, _, rfl, rfl, ?_⟩ | refine ⟨_, _, rfl, ?_⟩ | refine ⟨slen rfl, ?_⟩ | refine ⟨⟨by decide, by decide +kernel⟩, ?_⟩ | refine ⟨⟨by decide, by decide, by decide⟩, ?_⟩ | refine ⟨(by show (0 : Int) < _; first | decide | assumption | omega), ?_⟩ | refine ⟨mul_ok (by first | exact .inr (by decide) | exact .inl (by decide)), ?_⟩))
    (intro f nf; generalize hGf : upd _ f _ = H1; have eH1 := exG hGf nf; have hf := atG hGf; clear hGf)
    refine ⟨_, rfl, (b, q), rfl, ⟨_, (hq.mono eH1).sq⟩, ?_⟩
    refine for_it (walk_seq (xs := xs)) (fun i σ H3 => (∃ (y4 y5 : Option V), σ = [some (.ref a), some (.ref s), some (.ref q), some (.ref f), y4, y5]) ∧ Ex H H3 ∧ RowsAt H3 f (walkL ns ps (ms.take i))) ⟨⟨_, _, rfl⟩, eH1, _, hf, .cons ⟨s, rfl, eH1 _ _ hs⟩ .nil⟩ (fun i σ H2 _ ⟨_, e, _⟩ => (hq.mono e).sq) ?_ ?_
    · rintro i x σ _ H3 hi ⟨⟨y4, y5, rfl⟩, e3, ra⟩ ⟨rfl, hx⟩
      obtain ⟨m, hmi, r, c, rfl, hr0, hc0⟩ := paired_get rr hx
      obtain ⟨hss, eh⟩ := walk_last ns ps (ms.take i)
      obtain ⟨zs, hz1, hz2⟩ := id ra
      rw [eh] at hz2
      obtain ⟨ys, u, rfl, hu⟩ := hz2.last
      have skp := pos_ok ok.one sk (ms := ms.take i) fun m h => hm m (List.mem_of_mem_take h)
      have lc := hm m (List.mem_of_getElem? hmi)
      obtain ⟨dx, t, g1, g2⟩ := tab.mono e3
      refine ⟨r, _, rfl, SqT.of (e3 _ _ hr0), rfl, _, _, rfl, _, _, rfl, rfl, ?_⟩
      refine ⟨_, rfl, .inl ⟨rfl, _, SqL.of hz1⟩, ?_⟩
      refine ⟨_, rfl, a, dx, _, rfl, g1, rfl, _, rfl, _, rfl, f, _, _, _, rfl, rfl, SqL.of hz1, atI_last _ _, _, rfl, _, rfl, a, u, c, ns, _, m.1, m.2, rfl, tab.mono e3, ok, hu, e3 _ _ hc0, skp, lc, fun H4 z e4 nz hz => ?_⟩
      obtain ⟨acc, p1, p2, p3⟩ := rows_push (ra.mono e4) hz
      refine ⟨f, _, _, rfl, rfl, p1, ?_, ⟨_, _, rfl⟩, ex_upd (ext e3 e4) nf, ?_⟩
      · rw [p2, walk_len, List.length_take]
        exact Nat.lt_of_le_of_lt (show _ ≤ 100001 by omega) (by decide)
      · rw [take_more hmi, walk_snoc, pos_snoc]
        exact p3
    · rintro σ H3 ⟨⟨y4, y5, rfl⟩, e3, ra⟩
      rw [lx, List.take_length] at ra
      exact ⟨_, rfl, k f _ e3 nf ra⟩
end

/-- a record stands at a -/
def RecAt (CR C : Addr) (H : Hp) (a : Addr) (ns st : List Int) (tss : List (List Int)) (ms : List (List Int × Bool)) : Prop :=
  ∃ (dx tb g p v : Addr) (gs ps vs : List V), H a = some (.ins CR dx [("table", .ref tb), ("goals", .ref g), ("played", .ref p), ("visited", .ref v)]) ∧ TabAt C H tb ns ∧ H g = some (.tup gs) ∧ RowsR H gs tss ∧ H p = some (.tup ps) ∧ MovR H ps ms ∧ H v = some (.tup vs) ∧ RowsR H vs (walkL ns st ms)
theorem RecAt.mono {CR C : Addr} {H H2 : Hp} {a : Addr} {ns st : List Int} {tss : List (List Int)} {ms : List (List Int × Bool)} (e : Ex H H2) (h : RecAt CR C H a ns st tss ms) : RecAt CR C H2 a ns st tss ms := by
  obtain ⟨dx, tb, g, p, v, gs, ps, vs, h1, h2, h3, h4, h5, h6, h7, h8⟩ := h
  exact ⟨dx, tb, g, p, v, gs, ps, vs, e _ _ h1, h2.mono e, e _ _ h3, h4.mono e, e _ _ h5, h6.mono e, e _ _ h7, h8.mono e⟩
section
variable {P : Program} {w : World} {K : PySem.W.Frag} {mg : Str → Option Value} {base : Heap}
def sp_Record_init (CR C : Addr) : Sp := fun vs H Q _ => ∃ (p dx a s : Addr) (q m : Bool × Addr) (ns st : List Int) (tss : List (List Int)) (ms : List (List Int × Bool)) (H0 : Hp), vs = [.ref p, .ref a, .ref q.2, .ref s, .ref m.2] ∧ H p = some (.ins CR dx []) ∧ H0 p = none ∧ Ex H0 H ∧ TabAt C H0 a ns ∧ SzOk ns ∧ RowsQ H0 q tss ∧ tss ≠ [] ∧ tss.length ≤ 100000 ∧ (∀ ts ∈ tss, SeatOk ns ts) ∧ tss.Nodup ∧
  H0 s = some (.tup (st.map V.int)) ∧ SeatOk ns st ∧ MovQ H0 m ms ∧ ms.length ≤ 100000 ∧ (∀ m ∈ ms, m.1.length = ns.length) ∧ ∀ H2, Ex H0 H2 → RecAt CR C H2 p ns st tss ms → Q .non H2
theorem ok_Record_init (T : TX K mg) : FnOk P w K mg base CX0 8 T.f_Record_init T.fd_Record_init ["self", "table", "targets", "seat", "moves"] (sp_Record_init T.C_Record T.C_Table) := by
  refine T.F_Record_init.ok sc_Record_init (fun vs H Q E h => ?_) (fun cdv A outer s H vs Q E hr h => ?_)
  · obtain ⟨p, dx, a, s, q, m, ns, st, tss, ms, H0, rfl, _⟩ := h
    rfl
  · obtain ⟨p, dx, a, s, q, m, ns, st, tss, ms, H0, rfl, hp, np, e0, tab, ok, hq, ne, lt, sks, nod, hs, sk, hm, lm, hmm, k⟩ := h
    refine ⟨_, (pss_cons (ps_expr (pe_call (ok_require_table T) (hr.mono (by decide)) rfl T.m_require_table T.F_require_table.kp T.b_require_table .nil pass0 (pa_cons (pv 1) pa_nil))) (pss_cons (ps_expr (pe_call (ok_require_targets T) (hr.mono (by decide)) rfl T.m_require_targets T.F_require_targets.kp T.b_require_targets .nil pass0 (pa_cons (pv 1) (pa_cons (pv 2) pa_nil)))) (pss_cons (ps_expr (pe_call (ok_require_seat T) (hr.mono (by decide)) rfl T.m_require_seat T.F_require_seat.kp T.b_require_seat .nil pass0 (pa_cons (pv 1) (pa_cons (pv 3) pa_nil)))) (pss_cons (ps_expr (pe_call (ok_require_moves T) (hr.mono (by decide)) rfl T.m_require_moves T.F_require_moves.kp T.b_require_moves .nil pass0 (pa_cons (pv 1) (pa_cons (pv 4) pa_nil)))) (pss_cons (ps_asg (pe_tup (pa_cons (pv 1) (pa_cons (pe_callTy call_tuple_q (by rfl) T.z_tuple (by decide +kernel) (pa_cons (pv 2) pa_nil)) (pa_cons (pe_callTy call_tuple_q (by rfl) T.z_tuple (by decide +kernel) (pa_cons (pv 4) pa_nil)) pa_nil)))) (pg_tup rfl (pgs_cons (pg_fld (pv 0)) (pgs_cons (pg_fld (pv 0)) (pgs_cons (pg_fld (pv 0)) pgs_nil))))) (pss_one (ps_fld (pv 0) (pe_callTy call_tuple_of (by rfl) T.z_tuple (by decide +kernel) (pa_cons (pe_call (ok_visited_seats T) hr rfl T.m_visited_seats T.F_visited_seats.kp T.b_visited_seats .nil pass0 (pa_cons (pv 1) (pa_cons (pv 3) (pa_cons (pv 4) pa_nil)))) pa_nil)) rfl))))))), ?_⟩
    have l4 := ok.le
    refine ⟨_, rfl, a, ns, rfl, tab.mono e0, ?_⟩
    refine ⟨_, rfl, _, rfl, a, q, ns, tss, rfl, tab.mono e0, l4, hq.mono e0, ne, lt, sks, nod, fun H1 e1 => ?_⟩
    have E1 := ext e0 e1
    refine ⟨_, rfl, _, rfl, a, _, ns, _, rfl, tab.mono E1, l4, TupA.ints (E1 _ _ hs) (by rw [sk.len]; omega), isSeat_ok sk, fun H2 e2 => ?_⟩
    have E2 := ext E1 e2
    refine ⟨_, rfl, _, rfl, a, m, ns, ms, rfl, tab.mono E2, l4, hm.mono E2, hmm, fun H3 e3 => ?_⟩
    have E3 := ext E2 e3
    have hp3 := e3 _ _ (e2 _ _ (e1 _ _ hp))
    obtain ⟨gs, hq1, hq2⟩ := hq.mono E3
    obtain ⟨ps, hm1, hm2⟩ := hm.mono E3
    refine ⟨_, rfl, _, rfl, q, _, rfl, hq1, fun g H4 e4 hg => ?_⟩
    refine ⟨_, rfl, m, _, rfl, hm1.mono e4, fun pl H5 e5 hpl => ?_⟩
    (repeat (first | refine ⟨rfl, ?_⟩ | refine ⟨_, rfl, ?_⟩ | refine ⟨_, _, rfl, rfl, ?_⟩ | refine ⟨_, _, rfl, ?_⟩ | refine ⟨slen rfl, ?_⟩ | refine ⟨⟨by decide, by decide +kernel⟩, ?_⟩ | refine ⟨⟨by decide, by decide, by decide⟩, ?_⟩ | refine ⟨(by show (0 : Int) < _; first | decide | assumption | omega), ?_⟩ | refine ⟨mul_ok (by first | exact .inr (by decide) | exact .inl (by decide)), ?_⟩))
    (intro tp ntp; generalize hGtp : upd _ tp _ = H6; have eH6 := exG hGtp ntp; have htp := atG hGtp; clear hGtp)
    have E6 : Ex H3 H6 := ext e4 (ext e5 eH6)
    have hp6 := E6 _ _ hp3
    refine ⟨tp, _, rfl, SqT.of htp, rfl, ?_⟩
    refine ⟨_, _, rfl, _, rfl, p, T.C_Record, dx, [], rfl, hp6, T.cl_Record, T.n_Record_table, (by decide), ?_⟩
    refine ⟨_, _, rfl, _, rfl, p, T.C_Record, dx, _, rfl, upd_same, T.cl_Record, T.n_Record_goals, (by show 1 < 1000; decide), ?_⟩
    refine ⟨_, _, rfl, _, rfl, p, T.C_Record, dx, _, rfl, upd_same, T.cl_Record, T.n_Record_played, (by show 2 < 1000; decide), ?_⟩
    refine ⟨rfl, ?_⟩
    generalize hG7 : upd (upd (upd H6 p _) p _) p _ = H7
    have hp7 : H7 p = some (.ins T.C_Record dx [("table", .ref a), ("goals", .ref g), ("played", .ref pl)]) := by rw [← hG7]; exact upd_same
    have X7 : ∀ c o, c ≠ p → H6 c = some o → H7 c = some o := fun c o n z => by rw [← hG7, upd_ne n, upd_ne n, upd_ne n]; exact z
    clear hG7
    have E7 : Ex H0 H7 := fun c o z => X7 c o (ne_of_none z np) (E6 _ _ (E3 c o z))
    refine ⟨_, rfl, _, rfl, _, rfl, a, s, m, ns, st, ms, rfl, tab.mono E7, ok, E7 _ _ hs, sk, hm.mono E7, lm, hmm, fun f H8 e8 nf ra => ?_⟩
    obtain ⟨vs, hv1, hv2⟩ := ra
    refine ⟨f, _, rfl, .inl ⟨SqL.of hv1, ?_⟩⟩
    (intro vt nvt; generalize hGvt : upd _ vt _ = H9; have eH9 := exG hGvt nvt; have hvt := atG hGvt; clear hGvt)
    have E9 : Ex H7 H9 := ext e8 eH9
    refine ⟨_, rfl, p, T.C_Record, dx, _, rfl, E9 _ _ hp7, T.cl_Record, T.n_Record_visited, (by show 3 < 1000; decide), ?_⟩
    generalize hGa : upd H9 p _ = Ha
    have hpa : Ha p = some (.ins T.C_Record dx [("table", .ref a), ("goals", .ref g), ("played", .ref pl), ("visited", .ref vt)]) := by rw [← hGa]; exact upd_same
    have Xa : ∀ c o, c ≠ p → H9 c = some o → Ha c = some o := fun c o n z => by rw [← hGa, upd_ne n]; exact z
    clear hGa
    have Ea : Ex H0 Ha := fun c o z => Xa c o (ne_of_none z np) (E9 _ _ (E7 c o z))
    have T3 : ∀ c o, o ≠ .ins T.C_Record dx [] → H6 c = some o → Ha c = some o := fun c o n z => by
      have : c ≠ p := ne_of z hp6 n
      exact Xa c o this (E9 _ _ (X7 c o this z))
    have T9 : ∀ c o, (∀ fs, o ≠ .ins T.C_Record dx fs) → H9 c = some o → Ha c = some o := fun c o n z => Xa c o (ne_of z (E9 _ _ hp7) (n _)) z
    refine k _ Ea ⟨dx, a, g, pl, vt, gs, ps, vs, hpa, tab.mono Ea, T3 _ _ (by intro z; cases z) (eH6 _ _ (e5 _ _ hg)), ?_, T3 _ _ (by intro z; cases z) (eH6 _ _ hpl), ?_, T9 _ _ (by intro fs z; cases z) hvt, ?_⟩
    · obtain ⟨xs, hx1, hx2⟩ := hq
      obtain rfl : gs = xs := SqH.uniq hq1 (hx1.mono E3)
      exact hx2.mono Ea
    · obtain ⟨xs, hx1, hx2⟩ := hm
      obtain rfl : ps = xs := SqH.uniq hm1 (hx1.mono E3)
      exact hx2.mono Ea
    · exact (hv2.mono eH9).monoT fun c xs z => T9 _ _ (by intro fs z; cases z) z
def sp_Record_seats (CR C : Addr) : Sp := fun vs H Q _ => ∃ (p : Addr) (ns st : List Int) (tss : List (List Int)) (ms : List (List Int × Bool)), vs = [.ref p] ∧ RecAt CR C H p ns st tss ms ∧ ∀ f H2, Ex H H2 → H f = none → RowsAt H2 f (walkL ns st ms) → Q (.ref f) H2
theorem ok_Record_seats (T : TX K mg) : FnOk P w K mg base CX0 1 T.f_Record_seats T.fd_Record_seats ["self"] (sp_Record_seats T.C_Record T.C_Table) := by
  refine T.F_Record_seats.ok sc_Record_seats (fun vs H Q E h => ?_) (fun cdv A outer s H vs Q E hr h => ?_)
  · obtain ⟨p, ns, st, tss, ms, rfl, _⟩ := h
    rfl
  · obtain ⟨p, ns, st, tss, ms, rfl, ⟨dx, tb, g, pl, v, gs, ps, vs, h1, h2, h3, h4, h5, h6, h7, h8⟩, k⟩ := h
    refine ⟨_, (pss_one (ps_ret (pe_callTy call_list_of (by rfl) T.z_list (by decide +kernel) (pa_cons (pe_fld (pv 0) rfl) pa_nil)))), ?_⟩
    refine ⟨_, rfl, p, T.C_Record, dx, _, _, rfl, h1, T.cl_Record, T.n_Record_visited, rfl, v, _, rfl, .inr (SqT.of h7), fun f hf => ?_⟩
    exact k f _ (exn hf) hf ⟨_, upd_same, h8.mono (exn hf)⟩
end

/-- the places of a list that are in tss -/
def hitsL (hss tss : List (List Int)) : List (List Int × Nat) := hss.zipIdx.filter fun z => decide (z.1 ∈ tss)
/-- the first of them, or None -/
def hitV (hss tss : List (List Int)) : V := (((hitsL hss tss).map fun z => V.int z.2) ++ [V.non]).headD .non
theorem hit_at (hss tss : List (List Int)) : atI (((hitsL hss tss).map fun z => V.int z.2) ++ [V.non]) 0 = some (hitV hss tss) := by
  unfold hitV
  cases (hitsL hss tss).map fun z => V.int (z.2 : Nat) with
  | nil => rfl
  | cons x xs =>
    unfold atI ixN
    rw [if_pos (Int.le_refl 0), if_pos (by rw [List.length_append, List.length_cons]; omega)]
    rfl
theorem hits_len (hss tss : List (List Int)) : (hitsL hss tss).length ≤ hss.length := Nat.le_trans (List.length_filter_le _ _) (by rw [List.length_zipIdx]; exact Nat.le_refl _)
theorem mk_rec {CR C a st p : Addr} {bq bm : Bool} {g : Addr} {H : Hp} {ns ps : List Int} {tss : List (List Int)} {ms : List (List Int × Bool)} {R : Addr → Hp → Prop} {E : XK} (tab : TabAt C H a ns) (ok : SzOk ns) (hq : RowsQ H (bq, g) tss) (ne : tss ≠ []) (lt : tss.length ≤ 100000) (sks : ∀ ts ∈ tss, SeatOk ns ts) (nod : tss.Nodup)
    (hs : H st = some (.tup (ps.map V.int))) (sk : SeatOk ns ps) (hm : MovQ H (bm, p) ms) (lm : ms.length ≤ 100000) (hmm : ∀ m ∈ ms, m.1.length = ns.length) (k : ∀ x H2, Ex H H2 → H x = none → RecAt CR C H2 x ns ps tss ms → R x H2) :
    ∀ x dx, H x = none → H dx = none → dx ≠ x → sp_Record_init CR C [.ref x, .ref a, .ref g, .ref st, .ref p] (upd (upd H dx (.own x)) x (.ins CR dx [])) (fun v H2 => v = .non ∧ R x H2) E := by
  intro x dx nx ndx _
  have exB : Ex H (upd (upd H dx (.own x)) x (.ins CR dx [])) := fun c o z => by
    rw [upd_ne (ne_of_none z nx), upd_ne (ne_of_none z ndx)]
    exact z
  exact ⟨x, dx, a, st, (bq, g), (bm, p), ns, ps, tss, ms, H, rfl, upd_same, nx, exB, tab, ok, hq, ne, lt, sks, nod, hs, sk, hm, lm, hmm, fun H2 e2 ra => ⟨rfl, k x H2 e2 nx ra⟩⟩
section
variable {P : Program} {w : World} {K : PySem.W.Frag} {mg : Str → Option Value} {base : Heap}
def sp_Record_calls_to_target (CR C : Addr) : Sp := fun vs H Q _ => ∃ (p : Addr) (ns st : List Int) (tss : List (List Int)) (ms : List (List Int × Bool)), vs = [.ref p] ∧ RecAt CR C H p ns st tss ms ∧ ms.length ≤ 100000 ∧ ∀ H2, Ex H H2 → Q (hitV (walkL ns st ms) tss) H2
theorem ok_Record_calls_to_target (T : TX K mg) : FnOk P w K mg base CX0 1 T.f_Record_calls_to_target T.fd_Record_calls_to_target ["self"] (sp_Record_calls_to_target T.C_Record T.C_Table) := by
  refine T.F_Record_calls_to_target.ok sc_Record_calls_to_target (fun vs H Q E h => ?_) (fun cdv A outer s H vs Q E hr h => ?_)
  · obtain ⟨p, ns, st, tss, ms, rfl, _⟩ := h
    rfl
  · obtain ⟨p, ns, st, tss, ms, rfl, ⟨dx, tb, g, pl, v, gs, ps, vs, h1, h2, h3, h4, h5, h6, h7, h8⟩, lm, k⟩ := h
    refine ⟨_, (pss_one (ps_ret (pe_ix ix_list (pe_op (r := rCatR K) op_catR (pe_lc (own := [("index", 1), ("seat", 2)]) (g := (gTup K 2 (gCons (gName 1) (gCons (gName 2) gNil)))) rfl sc_Record_calls_to_target.nd (CE.pi_e rfl T.z_enumerate (pa_cons (pe_fld (pv 0) rfl) pa_nil)) (blkOk_by (N := N_Record_calls_to_target) (sc := defScope s_Record_calls_to_target) (by decide +kernel)) (fun _ _ _ _ _ => (pg_tup rfl (pgs_cons (pg_name (i := 1) sc_Record_calls_to_target.nd rfl (Or.inl rfl)) (pgs_cons (pg_name (i := 2) sc_Record_calls_to_target.nd rfl (Or.inl rfl)) pgs_nil)))) (fun _ _ _ _ _ => (pts_one (pt_cmpR (r := rInQ K) (op_inQ (u65 hr)) (pv 2) (pe_fldK K rfl (pv 0) rfl) rfl))) (fun _ _ _ _ _ => (pv 1))) (pe_lst (pa_cons pe_non pa_nil))) pe_int (fun _ _ => rfl)))), ?_⟩
    have lv := h8.len
    have lw := walk_len ns st ms
    refine ⟨_, rfl, p, T.C_Record, dx, _, _, rfl, h1, T.cl_Record, T.n_Record_visited, rfl, (true, v), rfl, ⟨_, sqT h7⟩, fun D hD => ?_⟩
    refine lc_filt (CE.walk_e (xs := vs)) (walkL ns st ms).zipIdx (fun z => decide (z.1 ∈ tss)) (fun z => .int z.2) (by rw [List.length_zipIdx, lv]) (by omega) hD (fun H3 e => sqT (e _ _ h7)) ?_ ?_
    · rintro i x ⟨hs, j⟩ H3 H4 R S ha e3 ⟨Ta, x1, x2, rfl, hT, rfl, hx1, hx2⟩ kR kS
      cases hx1
      obtain ⟨hs2, r, e1, rfl, hr0⟩ := h8.get hx2
      rw [List.getElem?_zipIdx, e1] at ha
      obtain ⟨rfl, rfl⟩ : hs2 = hs ∧ 0 + i = j := by simpa using ha
      have e4 := exn (o := .tup [.int (i : Nat), .ref r]) hT
      have E4 := ext e3 e4
      refine ⟨Ta, _, rfl, SqT.of upd_same, rfl, _, _, rfl, _, _, rfl, rfl, ?_⟩
      refine ⟨rfl, _, rfl, _, rfl, p, T.C_Record, dx, _, _, rfl, E4 _ _ h1, T.cl_Record, T.n_Record_goals, rfl, ?_⟩
      refine ⟨iT hs2, tss.map iT, dp_ints (E4 _ _ hr0), .inr (.tup (SqT.of (E4 _ _ h3)) (h4.mono E4).dp), (sh_ints _).ok, (sh_rows (n := 58) _).ok, _, rfl, ?_⟩
      rw [any_rows]
      refine ite2 (fun hc => ?_) (fun hc => ?_)
      · exact ⟨_, rfl, kR _ _ e4 hc (by show V.int (i : Nat) = V.int ((0 + i : Nat) : Int); rw [Nat.zero_add])⟩
      · exact kS _ e4 (by simpa using hc)
    · intro H3 e3 hD3
      (repeat (first | refine ⟨rfl, ?_⟩ | refine ⟨_, rfl, ?_⟩ | refine ⟨_, _, rfl, rfl, ?_⟩ | refine ⟨_, _, rfl, ?_⟩ | refine ⟨slen rfl, ?_⟩ | refine ⟨⟨by decide, by decide +kernel⟩, ?_⟩ | refine ⟨⟨by decide, by decide, by decide⟩, ?_⟩ | refine ⟨(by show (0 : Int) < _; first | decide | assumption | omega), ?_⟩ | refine ⟨mul_ok (by first | exact .inr (by decide) | exact .inl (by decide)), ?_⟩))
      (intro nl nnl; generalize hGnl : upd _ nl _ = H4; have eH4 := exG hGnl nnl; have hnl := atG hGnl; clear hGnl)
      refine ⟨D, nl, _, _, rfl, rfl, SqL.of (eH4 _ _ hD3), SqL.of hnl, ?_, ?_⟩
      · have := hits_len (walkL ns st ms) tss
        unfold hitsL at this
        rw [List.length_map]
        exact Nat.le_trans (show _ + 1 ≤ 100002 by omega) (by decide)
      · intro c hc
        refine ⟨c, _, _, _, rfl, rfl, SqL.of upd_same, hit_at _ _, ?_⟩
        exact k _ (ext e3 (ext eH4 (exn hc)))
end

theorem MovR.monoT {H H2 : Hp} (e : ∀ c xs, H c = some (.tup xs) → H2 c = some (.tup xs)) : ∀ {xs : List V} {ms : List (List Int × Bool)}, MovR H xs ms → MovR H2 xs ms
  | _, _, .nil => .nil
  | _, _, .cons ⟨r, c, h1, h2, h3⟩ t => .cons ⟨r, c, h1, e _ _ h2, e _ _ h3⟩ (MovR.monoT e t)
theorem MovR.xb {s : Addr} {H H2 : Hp} {xs : List V} {ms : List (List Int × Bool)} (h : MovR H xs ms) (src : Src H s) (xb : XB s H H2) : MovR H2 xs ms := h.monoT fun _ _ z => tup_xb src z xb

section
variable {P : Program} {w : World} {K : PySem.W.Frag} {mg : Str → Option Value} {base : Heap}
def sp_law_one : Sp := fun vs H Q _ => ∃ (s l : Addr) (xs : List V), vs = [.ref s, .ref l] ∧ Src H s ∧ H l = some (.lst xs) ∧ l ≠ s ∧ xs ≠ [] ∧ xs.length ≤ 10000000 ∧ ∀ (v : V) H2, v ∈ xs → XB s H H2 → Src H2 s → Q v H2
theorem ok_law_one (T : TX K mg) : FnOk P w K mg base CX0 3 T.f_law_one T.fd_law_one ["_law_source_here", "_law_some"] sp_law_one := by
  refine T.F_law_one.ok sc_law_one (fun vs H Q E h => ?_) (fun cdv A outer s H vs Q E hr h => ?_)
  · obtain ⟨s, l, xs, rfl, _⟩ := h
    rfl
  · obtain ⟨s, l, xs, rfl, hs, hl, nl, ne, lx, k⟩ := h
    refine ⟨_, (pss_one (ps_ret (pe_ix ix_list (pv 1) (pe_call (ok_law_take T) hr rfl T.m_law_take T.F_law_take.kp T.b_law_take .nil pass0 (pa_cons (pv 0) (pa_cons (pe_callB call_len_seq (by rfl) T.z_len (by decide +kernel) (pa_cons (pv 1) pa_nil)) pa_nil))) (fun _ _ => rfl)))), ?_⟩
    have pos := List.length_pos_iff.mpr ne
    refine ⟨_, rfl, _, rfl, _, rfl, l, _, rfl, .inl (SqL.of hl), s, _, rfl, hs, (by omega), ?_, fun r H2 r0 r1 xb src => ?_⟩
    · rw [Int.natAbs_natCast]
      exact Nat.lt_of_le_of_lt lx (by decide +kernel)
    obtain ⟨v, hv, hm⟩ := atI_nat r0 r1
    exact ⟨l, _, _, _, rfl, rfl, SqL.of (xb _ _ nl hl), hv, k v _ hm xb src⟩
def sp_law_rings : Sp := fun vs H Q _ => ∃ (s : Addr) (m : Int), vs = [.ref s, .int m] ∧ Src H s ∧ 3 ≤ m ∧ m ≤ 1000000 ∧ ∀ (t : Addr) (ns : List Int) H2, H t = none → H2 t = some (.tup (ns.map V.int)) → SzOk ns → (∀ n ∈ ns, n ≤ 31) → ns.foldl (fun p n => p * n) 1 ≤ m → XB s H H2 → Src H2 s → Q (.ref t) H2
theorem ok_law_rings (T : TX K mg) : FnOk P w K mg base CX0 4 T.f_law_rings T.fd_law_rings ["_law_source_here", "_law_limit"] sp_law_rings := by
  refine T.F_law_rings.ok sc_law_rings (fun vs H Q E h => ?_) (fun cdv A outer s H vs Q E hr h => ?_)
  · obtain ⟨s, m, rfl, _⟩ := h
    rfl
  · obtain ⟨s, m, rfl, hs, m0, m1, k⟩ := h
    refine ⟨_, (pss_cons (ps_set (i := 2) sc_law_rings.nd rfl (Or.inl rfl) (pe_lst pa_nil)) (pss_cons (ps_set (i := 3) sc_law_rings.nd rfl (Or.inl rfl) pe_int) (pss_cons (ps_for PassesOwn.never rfl (pi_range1 rfl T.z_range (pa_cons (pe_op op_add pe_int (pe_call (ok_law_take T) (hr.mono (by decide)) rfl T.m_law_take T.F_law_take.kp T.b_law_take .nil pass0 (pa_cons (pv 0) (pa_cons pe_int pa_nil)))) pa_nil)) (pg_name (i := 4) sc_law_rings.nd rfl (Or.inl rfl)) (pss_cons (ps_set (i := 5) sc_law_rings.nd rfl (Or.inl rfl) (pe_call (ok_law_one T) hr rfl T.m_law_one T.F_law_one.kp T.b_law_one .nil pass0 (pa_cons (pv 0) (pa_cons (pe_lst (pa_cons pe_int (pa_cons pe_int (pa_cons pe_int (pa_cons pe_int (pa_cons pe_int (pa_cons pe_int (pa_cons pe_int (pa_cons pe_int (pa_cons pe_int (pa_cons pe_int (pa_cons pe_int (pa_cons (pe_op op_add pe_int (pe_call (ok_law_take T) (hr.mono (by decide)) rfl T.m_law_take T.F_law_take.kp T.b_law_take .nil pass0 (pa_cons (pv 0) (pa_cons pe_int pa_nil)))) pa_nil))))))))))))) pa_nil)))) (pss_one (ps_if (pt_cmpR op_le (pe_op op_mulI (pv 3) (pv 5)) (pv 1) (nomark _)) (pss_cons (ps_expr (pe_bm PySem.F.plainAttrs_list PySem.F.slot_list_append PySem.F.type_list_append mt_append (pv 2) (pa_cons (pv 5) pa_nil))) (pss_one (ps_set (i := 3) sc_law_rings.nd rfl (Or.inl rfl) (pe_op op_mulI (pv 3) (pv 5))))) pss_nil)))) (pss_one (ps_ret (pe_callTy call_tuple_of (by rfl) T.z_tuple (by decide +kernel) (pa_cons (pe_op (r := rCatR K) op_catR (pv 2) (pe_op op_rep (pe_lst (pa_cons pe_int pa_nil)) (pe_callTy call_int1 (by rfl) T.z_int (by decide +kernel) (pa_cons (pe_cmpR (r := rEqD K) (op_eqD hr.units) (pv 2) (pe_lst pa_nil) (nomark _)) pa_nil)))) pa_nil))))))), ?_⟩
    (repeat (first | refine ⟨rfl, ?_⟩ | refine ⟨_, rfl, ?_⟩ | refine ⟨_, _, rfl, rfl, ?_⟩ | refine ⟨_, _, rfl, ?_⟩ | refine ⟨slen rfl, ?_⟩ | refine ⟨⟨by decide, by decide +kernel⟩, ?_⟩ | refine ⟨⟨by decide, by decide, by decide⟩, ?_⟩ | refine ⟨(by show (0 : Int) < _; first | decide | assumption | omega), ?_⟩ | refine ⟨mul_ok (by first | exact .inr (by decide) | exact .inl (by decide)), ?_⟩))
    (intro l nl; generalize hGl : upd _ l _ = H1; have eH1 := exG hGl nl; have hl := atG hGl; clear hGl)
    have nls : l ≠ s := hs.ne nl
    (repeat (first | refine ⟨rfl, ?_⟩ | refine ⟨_, rfl, ?_⟩ | refine ⟨_, _, rfl, rfl, ?_⟩ | refine ⟨_, _, rfl, ?_⟩ | refine ⟨slen rfl, ?_⟩ | refine ⟨⟨by decide, by decide +kernel⟩, ?_⟩ | refine ⟨⟨by decide, by decide, by decide⟩, ?_⟩ | refine ⟨(by show (0 : Int) < _; first | decide | assumption | omega), ?_⟩ | refine ⟨mul_ok (by first | exact .inr (by decide) | exact .inl (by decide)), ?_⟩))
    refine ⟨hs.mono eH1, by decide, by decide +kernel, fun r H2 r0 r1 xb2 src2 => ?_⟩
    (repeat (first | refine ⟨rfl, ?_⟩ | refine ⟨_, rfl, ?_⟩ | refine ⟨_, _, rfl, rfl, ?_⟩ | refine ⟨_, _, rfl, ?_⟩ | refine ⟨slen rfl, ?_⟩ | refine ⟨⟨by decide, by decide +kernel⟩, ?_⟩ | refine ⟨⟨by decide, by decide, by decide⟩, ?_⟩ | refine ⟨(by show (0 : Int) < _; first | decide | assumption | omega), ?_⟩ | refine ⟨mul_ok (by first | exact .inr (by decide) | exact .inl (by decide)), ?_⟩))
    refine ⟨by omega, by omega, ?_⟩
    have hl2 := xb2 _ _ nls hl
    have xbH : XB s H H2 := (XB.of eH1).trans xb2
    refine for_it walk_range (fun i σ H3 => ∃ (y4 y5 : Option V) (ns : List Int), σ = [some (.ref s), some (.int m), some (.ref l), some (.int (ns.foldl (fun p n => p * n) 1)), y4, y5] ∧ H3 l = some (.lst (ns.map V.int)) ∧ ns.length ≤ i ∧ (∀ n ∈ ns, 1 ≤ n ∧ n ≤ 31) ∧ 1 ≤ ns.foldl (fun p n => p * n) 1 ∧ ns.foldl (fun p n => p * n) 1 ≤ m ∧ XB s H H3 ∧ Src H3 s) ⟨none, none, [], rfl, hl2, Nat.le_refl _, by simp, by decide, by show (1 : Int) ≤ m; omega, xbH, src2⟩ (fun _ _ _ _ _ => True.intro) ?_ ?_
    · rintro i x σ _ H3 hi ⟨y4, y5, ns, rfl, hl3, ln, hn, t1, t2, xb3, src3⟩ ⟨rfl, hx⟩
      obtain rfl : x = .int (i : Int) := hx.trans (congrArg V.int (Int.zero_add _))
      (repeat (first | refine ⟨rfl, ?_⟩ | refine ⟨_, rfl, ?_⟩ | refine ⟨_, _, rfl, rfl, ?_⟩ | refine ⟨_, _, rfl, ?_⟩ | refine ⟨slen rfl, ?_⟩ | refine ⟨⟨by decide, by decide +kernel⟩, ?_⟩ | refine ⟨⟨by decide, by decide, by decide⟩, ?_⟩ | refine ⟨(by show (0 : Int) < _; first | decide | assumption | omega), ?_⟩ | refine ⟨mul_ok (by first | exact .inr (by decide) | exact .inl (by decide)), ?_⟩))
      refine ⟨src3, by decide, by decide +kernel, fun r5 H5 r50 r51 xb5 src5 => ?_⟩
      (repeat (first | refine ⟨rfl, ?_⟩ | refine ⟨_, rfl, ?_⟩ | refine ⟨_, _, rfl, rfl, ?_⟩ | refine ⟨_, _, rfl, ?_⟩ | refine ⟨slen rfl, ?_⟩ | refine ⟨⟨by decide, by decide +kernel⟩, ?_⟩ | refine ⟨⟨by decide, by decide, by decide⟩, ?_⟩ | refine ⟨(by show (0 : Int) < _; first | decide | assumption | omega), ?_⟩ | refine ⟨mul_ok (by first | exact .inr (by decide) | exact .inl (by decide)), ?_⟩))
      (intro al nal; generalize hGal : upd _ al _ = H6; have eH6 := exG hGal nal; have hal := atG hGal; clear hGal)
      have nals : al ≠ s := src5.ne nal
      have hl5 := xb5 _ _ nls hl3
      refine ⟨s, al, _, rfl, src5.mono eH6, hal, nals, by simp, (by show 12 ≤ 10000000; decide), fun v H7 hv xb7 src7 => ?_⟩
      obtain ⟨z, rfl, z1, z2⟩ : ∃ z : Int, v = .int z ∧ 1 ≤ z ∧ z ≤ 31 := by
        simp only [List.mem_cons, List.not_mem_nil, or_false] at hv
        rcases hv with rfl | rfl | rfl | rfl | rfl | rfl | rfl | rfl | rfl | rfl | rfl | rfl
        all_goals exact ⟨_, rfl, by omega, by omega⟩
      have hl7 := xb7 _ _ nls (eH6 _ _ hl5)
      have XB7 : XB s H H7 := (xb3.trans xb5).trans ((XB.of eH6).trans xb7)
      have mok : IntMulOk (ns.foldl (fun p n => p * n) 1) z := mul_ok (.inl (by omega))
      refine ⟨_, rfl, _, rfl, _, _, rfl, rfl, mok, _, rfl, _, _, rfl, rfl, _, rfl, ?_⟩
      refine ite2 (fun hc => ?_) (fun hc => ?_)
      · have hc2 := of_decide_eq_true hc
        refine ⟨_, rfl, .inl ⟨rfl, _, SqL.of hl7⟩, _, rfl, l, _, _, rfl, rfl, hl7, ?_, ?_⟩
        · rw [List.length_map]
          have : i < (1 + r).toNat := hi
          exact Nat.lt_of_le_of_lt (show ns.length ≤ 4 by omega) (by decide)
        refine ⟨_, rfl, _, rfl, _, _, rfl, rfl, mok, ?_⟩
        refine ⟨some (.int (i : Int)), some (.int z), ns ++ [z], ?_, ?_, ?_, ?_, ?_, ?_, XB7.app nl, src7.app nls⟩
        · rw [← prodL_snoc]
          rfl
        · rw [upd_same, List.map_append]
          rfl
        · rw [List.length_append]
          show _ + 1 ≤ _
          omega
        · intro n hn2
          rcases List.mem_append.mp hn2 with h | h
          · exact hn n h
          · rw [List.mem_singleton.mp h]
            exact ⟨z1, z2⟩
        · rw [← prodL_snoc]
          exact Int.le_trans z1 (by have := Int.mul_le_mul_of_nonneg_right t1 (show 0 ≤ z by omega); omega)
        · rw [← prodL_snoc]
          exact hc2
      · exact ⟨_, _, ns, rfl, hl7, by omega, hn, t1, t2, XB7, src7⟩
    · rintro σ H3 ⟨y4, y5, ns, rfl, hl3, ln, hn, t1, t2, xb3, src3⟩
      have ln4 : ns.length ≤ 4 := by
        have : ns.length ≤ (1 + r).toNat := ln
        omega
      (repeat (first | refine ⟨rfl, ?_⟩ | refine ⟨_, rfl, ?_⟩ | refine ⟨_, _, rfl, rfl, ?_⟩ | refine ⟨_, _, rfl, ?_⟩ | refine ⟨slen rfl, ?_⟩ | refine ⟨⟨by decide, by decide +kernel⟩, ?_⟩ | refine ⟨⟨by decide, by decide, by decide⟩, ?_⟩ | refine ⟨(by show (0 : Int) < _; first | decide | assumption | omega), ?_⟩ | refine ⟨mul_ok (by first | exact .inr (by decide) | exact .inl (by decide)), ?_⟩))
      (intro b3 nb3; generalize hGb3 : upd _ b3 _ = H4; have eH4 := exG hGb3 nb3; have hb3 := atG hGb3; clear hGb3)
      have nb3 : b3 ≠ s := src3.ne nb3
      (repeat (first | refine ⟨rfl, ?_⟩ | refine ⟨_, rfl, ?_⟩ | refine ⟨_, _, rfl, rfl, ?_⟩ | refine ⟨_, _, rfl, ?_⟩ | refine ⟨slen rfl, ?_⟩ | refine ⟨⟨by decide, by decide +kernel⟩, ?_⟩ | refine ⟨⟨by decide, by decide, by decide⟩, ?_⟩ | refine ⟨(by show (0 : Int) < _; first | decide | assumption | omega), ?_⟩ | refine ⟨mul_ok (by first | exact .inr (by decide) | exact .inl (by decide)), ?_⟩))
      (intro b0 nb0; generalize hGb0 : upd _ b0 _ = H5; have eH5 := exG hGb0 nb0; have hb0 := atG hGb0; clear hGb0)
      have hl5 := eH5 _ _ (eH4 _ _ hl3)
      refine ⟨iL ns, iL [], dp_ilist hl5, dp_ilist hb0, (sh_ilist _).ok, (sh_ilist _).ok, ?_⟩
      rw [eqv_ilist]
      refine .inr ⟨_, rfl, ?_⟩
      have XB5 : XB s H H5 := xb3.trans (XB.of (ext eH4 eH5))
      have src5 := src3.mono (ext eH4 eH5)
      obtain ⟨kk, zs, hk0, hk1, hk2, hz, hok, hle, hpr⟩ : ∃ (kk : Int) (zs : List Int), (if decide (ns = []) = true then (1 : Int) else 0) = kk ∧ 0 ≤ kk ∧ kk ≤ 1 ∧ (List.replicate kk.toNat [V.int 3]).flatten = zs.map V.int ∧ SzOk (ns ++ zs) ∧ (∀ n ∈ ns ++ zs, n ≤ 31) ∧ (ns ++ zs).foldl (fun p n => p * n) 1 ≤ m := by
        by_cases hns : ns = []
        · subst hns
          exact ⟨1, [3], rfl, by decide, by decide, rfl, ⟨by decide, by decide, by decide⟩, by decide, m0⟩
        · refine ⟨0, [], by simp [hns], by decide, by decide, rfl, ⟨by simpa using hns, by simpa using ln4, fun n h => (hn n (by simpa using h)).1⟩, fun n h => (hn n (by simpa using h)).2, by rw [List.append_nil]; exact t2⟩
      rw [hk0]
      refine ⟨b3, kk, _, rfl, rfl, eH5 _ _ hb3, by omega, by omega, ?_, ?_⟩
      · show 1 * kk.toNat ≤ sizeLine
        exact Nat.le_trans (show _ ≤ 1 by omega) (by decide)
      rw [hz]
      (intro b4 nb4; generalize hGb4 : upd _ b4 _ = H6; have eH6 := exG hGb4 nb4; have hb4 := atG hGb4; clear hGb4)
      refine ⟨l, b4, _, _, rfl, rfl, SqL.of (eH6 _ _ hl5), SqL.of hb4, ?_, ?_⟩
      · have := hok.le
        rw [List.length_append] at this
        rw [List.length_map, List.length_map]
        exact Nat.le_trans this (by decide)
      rw [← List.map_append]
      (intro b5 nb5; generalize hGb5 : upd _ b5 _ = H7; have eH7 := exG hGb5 nb5; have hb5 := atG hGb5; clear hGb5)
      refine ⟨b5, _, rfl, .inl ⟨SqL.of hb5, fun t ht => ?_⟩⟩
      have e7 : Ex H5 H7 := ext eH6 eH7
      have XB7 := XB5.trans (XB.of e7)
      have src7 := src5.mono e7
      exact k t _ _ (XB7.back (src7.ne ht) ht) upd_same hok hle hpr (XB7.trans (XB.of (exn ht))) (src7.new ht)
end

section
variable {P : Program} {w : World} {K : PySem.W.Frag} {mg : Str → Option Value} {base : Heap}
def sp_law_seat : Sp := fun vs H Q _ => ∃ (s l : Addr) (ns : List Int), vs = [.ref s, .ref l] ∧ Src H s ∧ H l = some (.tup (ns.map V.int)) ∧ SzOk ns ∧ (∀ n ∈ ns, n ≤ 10 ^ 30) ∧
  ∀ (q : Addr) (ps : List Int) H2, H q = none → H2 q = some (.tup (ps.map V.int)) → SeatOk ns ps → XB s H H2 → Src H2 s → Q (.ref q) H2
theorem ok_law_seat (T : TX K mg) : FnOk P w K mg base CX0 3 T.f_law_seat T.fd_law_seat ["_law_source_here", "_law_rings_here"] sp_law_seat := by
  refine T.F_law_seat.ok sc_law_seat (fun vs H Q E h => ?_) (fun cdv A outer s H vs Q E hr h => ?_)
  · obtain ⟨s, l, ns, rfl, _⟩ := h
    rfl
  · obtain ⟨s, l, ns, rfl, hs, hl, ok, hB, k⟩ := h
    refine ⟨_, (pss_one (ps_ret (pe_callTy call_tuple_of (by rfl) T.z_tuple (by decide +kernel) (pa_cons (pe_lc (own := [("_law_size", 2)]) (g := (gName 2)) rfl sc_law_seat.nd (pi_tup (pv 1)) (blkOk_by (N := N_law_seat) (sc := defScope s_law_seat) (by decide +kernel)) (fun _ _ _ _ _ => (pg_name (i := 2) sc_law_seat.nd rfl (Or.inl rfl))) (fun _ _ _ _ _ => pts_nil) (fun _ _ _ _ _ => (pe_call (ok_law_take T) hr rfl T.m_law_take T.F_law_take.kp T.b_law_take .nil pass0 (pa_cons (pv 0) (pa_cons (pv 2) pa_nil))))) pa_nil)))), ?_⟩
    refine ⟨_, rfl, l, rfl, ⟨_, SqT.of hl⟩, fun D hD => ?_⟩
    have nD : D ≠ s := hs.ne hD
    refine lc_it (walk_tup (xs := ns.map V.int)) (fun i H2 => ∃ ps : List Int, H2 D = some (.lst (ps.map V.int)) ∧ SeatOk (ns.take i) ps ∧ XB s H H2 ∧ Src H2 s) ⟨[], upd_same, True.intro, XB.of (exn hD), hs.new hD⟩ (fun i H2 _ ⟨ps, _, _, xb, _⟩ => SqT.of (tup_xb hs hl xb)) ?_ ?_
    · rintro i x H2 H3 hi ⟨ps, hD2, sk, xb, src⟩ ⟨rfl, hx⟩
      obtain ⟨n, hn, rfl⟩ := map_get hx
      have n1 := ok.one n (List.mem_of_getElem? hn)
      have n2 := hB n (List.mem_of_getElem? hn)
      refine ⟨rfl, _, rfl, _, rfl, s, n, rfl, src, by omega, ?_, fun r H4 r0 r1 xb4 src4 => ?_⟩
      · exact Nat.lt_of_lt_of_le (abs30 n1 n2) (Nat.pow_le_pow_right (by decide) (by decide))
      refine ⟨ps.map V.int, xb4 _ _ nD hD2, ?_, ps ++ [r], ?_, ?_, (xb.trans xb4).app hD, src4.app nD⟩
      · have hl4 := ok.le
        have := sk.len
        rw [List.length_take] at this
        rw [List.length_map]
        exact Nat.lt_of_le_of_lt (show ps.length ≤ 4 by omega) (by decide)
      · rw [upd_same, List.map_append]
        rfl
      · rw [take_more hn]
        exact sk.snoc r0 r1
    · rintro H2 ⟨ps, hD2, sk, xb, src⟩
      refine ⟨D, _, rfl, .inl ⟨SqL.of hD2, fun q hq => ?_⟩⟩
      rw [List.length_map, List.take_length] at sk
      have nq := src.ne hq
      exact k q ps _ (xb.back nq hq) upd_same sk (xb.trans (XB.of (exn hq))) (src.new hq)
def sp_law_seats : Sp := fun vs H Q _ => ∃ (s l : Addr) (ns : List Int) (m : Int), vs = [.ref s, .ref l, .int m] ∧ Src H s ∧ H l = some (.tup (ns.map V.int)) ∧ SzOk ns ∧ (∀ n ∈ ns, n ≤ 10 ^ 30) ∧ 1 ≤ m ∧ m ≤ 1000 ∧
  ∀ (f : Addr) (tss : List (List Int)) H2, H f = none → RowsAt H2 f tss → tss ≠ [] → tss.length ≤ m.toNat → (∀ ts ∈ tss, SeatOk ns ts) → tss.Nodup → XB s H H2 → Src H2 s → Q (.ref f) H2
theorem ok_law_seats (T : TX K mg) : FnOk P w K mg base CX0 4 T.f_law_seats T.fd_law_seats ["_law_source_here", "_law_rings_here", "_law_most"] sp_law_seats := by
  refine T.F_law_seats.ok sc_law_seats (fun vs H Q E h => ?_) (fun cdv A outer s H vs Q E hr h => ?_)
  · obtain ⟨s, l, ns, m, rfl, _⟩ := h
    rfl
  · obtain ⟨s, l, ns, m, rfl, hs, hl, ok, hB, m1, m2, k⟩ := h
    refine ⟨_, (pss_cons (ps_set (i := 3) sc_law_seats.nd rfl (Or.inl rfl) (pe_lst pa_nil)) (pss_cons (ps_for PassesOwn.never rfl (pi_range1 rfl T.z_range (pa_cons (pe_op op_add pe_int (pe_call (ok_law_take T) (hr.mono (by decide)) rfl T.m_law_take T.F_law_take.kp T.b_law_take .nil pass0 (pa_cons (pv 0) (pa_cons (pv 2) pa_nil)))) pa_nil)) (pg_name (i := 4) sc_law_seats.nd rfl (Or.inl rfl)) (pss_cons (ps_set (i := 5) sc_law_seats.nd rfl (Or.inl rfl) (pe_call (ok_law_seat T) hr rfl T.m_law_seat T.F_law_seat.kp T.b_law_seat .nil pass0 (pa_cons (pv 0) (pa_cons (pv 1) pa_nil)))) (pss_one (ps_if (pt_cmpR (r := rNotInD K) (op_notInD (u65 hr)) (pv 5) (pv 3) rfl) (pss_one (ps_expr (pe_bm PySem.F.plainAttrs_list PySem.F.slot_list_append PySem.F.type_list_append mt_append (pv 3) (pa_cons (pv 5) pa_nil)))) pss_nil)))) (pss_one (ps_ret (pv 3))))), ?_⟩
    (repeat (first | refine ⟨rfl, ?_⟩ | refine ⟨_, rfl, ?_⟩ | refine ⟨_, _, rfl, rfl, ?_⟩ | refine ⟨_, _, rfl, ?_⟩ | refine ⟨slen rfl, ?_⟩ | refine ⟨⟨by decide, by decide +kernel⟩, ?_⟩ | refine ⟨⟨by decide, by decide, by decide⟩, ?_⟩ | refine ⟨(by show (0 : Int) < _; first | decide | assumption | omega), ?_⟩ | refine ⟨mul_ok (by first | exact .inr (by decide) | exact .inl (by decide)), ?_⟩))
    (intro f nf; generalize hGf : upd _ f _ = H1; have eH1 := exG hGf nf; have hf := atG hGf; clear hGf)
    have nfs : f ≠ s := hs.ne nf
    refine ⟨_, rfl, _, rfl, s, m, rfl, hs.mono eH1, by omega, ?_, fun r H2 r0 r1 xb2 src2 => ?_⟩
    · exact Nat.lt_of_le_of_lt (show m.natAbs ≤ 1000 by omega) (by decide +kernel)
    (repeat (first | refine ⟨rfl, ?_⟩ | refine ⟨_, rfl, ?_⟩ | refine ⟨_, _, rfl, rfl, ?_⟩ | refine ⟨_, _, rfl, ?_⟩ | refine ⟨slen rfl, ?_⟩ | refine ⟨⟨by decide, by decide +kernel⟩, ?_⟩ | refine ⟨⟨by decide, by decide, by decide⟩, ?_⟩ | refine ⟨(by show (0 : Int) < _; first | decide | assumption | omega), ?_⟩ | refine ⟨mul_ok (by first | exact .inr (by decide) | exact .inl (by decide)), ?_⟩))
    refine ⟨by omega, by omega, ?_⟩
    refine for_it walk_range (fun i σ H3 => ∃ (y4 y5 : Option V) (tss : List (List Int)), σ = [some (.ref s), some (.ref l), some (.int m), some (.ref f), y4, y5] ∧ RowsAt H3 f tss ∧ (1 ≤ i → tss ≠ []) ∧ tss.length ≤ i ∧ (∀ ts ∈ tss, SeatOk ns ts) ∧ tss.Nodup ∧ XB s H H3 ∧ Src H3 s) ⟨none, none, [], rfl, ⟨_, xb2 _ _ nfs hf, .nil⟩, fun h => absurd h (by decide), Nat.le_refl _, by simp, List.nodup_nil, (XB.of eH1).trans xb2, src2⟩ (fun _ _ _ _ _ => True.intro) ?_ ?_
    · rintro i x σ _ H3 hi ⟨y4, y5, tss, rfl, ra, hne, lt, sks, nod, xb3, src3⟩ ⟨rfl, hx⟩
      refine ⟨_, rfl, _, rfl, s, l, ns, rfl, src3, tup_xb hs hl xb3, ok, hB, fun q ps H4 nq hq sk xb4 src4 => ?_⟩
      have ra4 : RowsAt H4 f tss := ra.xb nfs src3 xb4
      refine ⟨_, rfl, _, rfl, iT ps, tss.map iT, dp_ints hq, ra4.dp, (sh_ints _).ok, (sh_rows (n := 58) _).ok, _, rfl, ?_⟩
      rw [any_rows]
      have hi2 : i < (1 + r).toNat := hi
      by_cases hm : ps ∈ tss
      · refine itf (by simp [hm]) ?_
        exact ⟨_, _, tss, rfl, ra4, (fun _ z => by rw [z] at hm; cases hm), by omega, sks, nod, xb3.trans xb4, src4⟩
      · refine itt (by simp [hm]) ?_
        obtain ⟨acc, p1, p2, p3⟩ := rows_push ra4 hq
        refine ⟨_, rfl, .inl ⟨rfl, _, SqL.of p1⟩, _, rfl, f, _, _, rfl, rfl, p1, ?_, ?_⟩
        · rw [p2]
          exact Nat.lt_of_le_of_lt (show tss.length ≤ 1000 by omega) (by decide)
        refine ⟨_, _, tss ++ [ps], rfl, p3, fun _ z => by simp at z, by rw [List.length_append]; show _ + 1 ≤ _; omega, fun ts h => ?_, ?_, (xb3.trans xb4).app nf, src4.app nfs⟩
        · rcases List.mem_append.mp h with h | h
          · exact sks ts h
          · rw [List.mem_singleton.mp h]
            exact sk
        · rw [List.nodup_append]
          exact ⟨nod, by simp, fun a ha b hb z => hm (by rw [← List.mem_singleton.mp hb, ← z]; exact ha)⟩
    · rintro σ H3 ⟨y4, y5, tss, rfl, ra, hne, lt, sks, nod, xb3, src3⟩
      have e1 : (1 : Nat) ≤ (1 + r).toNat := by omega
      have lt2 : tss.length ≤ (1 + r).toNat := lt
      exact ⟨_, rfl, k f tss _ nf ra (hne e1) (by omega) sks nod xb3 src3⟩
def sp_law_call : Sp := fun vs H Q _ => ∃ (s l : Addr) (ns : List Int), vs = [.ref s, .ref l] ∧ Src H s ∧ H l = some (.tup (ns.map V.int)) ∧ SzOk ns ∧ (∀ n ∈ ns, n ≤ 10 ^ 30) ∧
  ∀ (q : Addr) (cs : List Int) H2, H q = none → H2 q = some (.tup (cs.map V.int)) → cs.length = ns.length → XB s H H2 → Src H2 s → Q (.ref q) H2
theorem ok_law_call (T : TX K mg) : FnOk P w K mg base CX0 4 T.f_law_call T.fd_law_call ["_law_source_here", "_law_rings_here"] sp_law_call := by
  refine T.F_law_call.ok sc_law_call (fun vs H Q E h => ?_) (fun cdv A outer s H vs Q E hr h => ?_)
  · obtain ⟨s, l, ns, rfl, _⟩ := h
    rfl
  · obtain ⟨s, l, ns, rfl, hs, hl, ok, hB, k⟩ := h
    refine ⟨_, (pss_cons (ps_set (i := 2) sc_law_call.nd rfl (Or.inr rfl) (pe_call (ok_law_one T) hr rfl T.m_law_one T.F_law_one.kp T.b_law_one .nil pass0 (pa_cons (pv 0) (pa_cons (pe_lst (pa_cons pe_int (pa_cons pe_int (pa_cons pe_int (pa_cons pe_int (pa_cons (pe_un un_neg pe_int) (pa_cons (pe_op op_pow pe_int pe_int) pa_nil))))))) pa_nil)))) (pss_one (ps_ret (pe_callTy call_tuple_of (by rfl) T.z_tuple (by decide +kernel) (pa_cons (pe_lc (own := [("_law_size", 3)]) (g := (gName 3)) rfl sc_law_call.nd (pi_tup (pv 1)) (blkOk_by (N := N_law_call) (sc := defScope s_law_call) (by decide +kernel)) (fun _ _ _ _ _ => (pg_name (i := 3) sc_law_call.nd rfl (Or.inl rfl))) (fun _ _ _ _ _ => pts_nil) (fun _ _ _ _ _ => (pe_op op_add (pe_call (ok_law_take T) (hr.mono (by decide)) rfl T.m_law_take T.F_law_take.kp T.b_law_take .nil pass0 (pa_cons (pv 0) (pa_cons (pv 3) pa_nil))) (pe_op op_mulI (pv 2) (pv 3))))) pa_nil))))), ?_⟩
    (repeat (first | refine ⟨rfl, ?_⟩ | refine ⟨_, rfl, ?_⟩ | refine ⟨_, _, rfl, rfl, ?_⟩ | refine ⟨_, _, rfl, ?_⟩ | refine ⟨slen rfl, ?_⟩ | refine ⟨⟨by decide, by decide +kernel⟩, ?_⟩ | refine ⟨⟨by decide, by decide, by decide⟩, ?_⟩ | refine ⟨(by show (0 : Int) < _; first | decide | assumption | omega), ?_⟩ | refine ⟨mul_ok (by first | exact .inr (by decide) | exact .inl (by decide)), ?_⟩))
    (intro al nal; generalize hGal : upd _ al _ = H0; have eH0 := exG hGal nal; have hal := atG hGal; clear hGal)
    have nals : al ≠ s := hs.ne nal
    refine ⟨s, al, _, rfl, hs.mono eH0, hal, nals, by simp, (by show 6 ≤ 10000000; decide), fun v H1 hv xb1 src1 => ?_⟩
    obtain ⟨z, rfl, z2⟩ : ∃ z : Int, v = .int z ∧ z.natAbs < 2 ^ 70 := by
      simp only [List.mem_cons, List.not_mem_nil, or_false] at hv
      rcases hv with rfl | rfl | rfl | rfl | rfl | rfl
      all_goals exact ⟨_, rfl, by decide +kernel⟩
    have xbH : XB s H H1 := (XB.of eH0).trans xb1
    have hl1 := tup_xb hs hl xbH
    refine ⟨_, rfl, l, rfl, ⟨_, SqT.of hl1⟩, fun D hD => ?_⟩
    have nD : D ≠ s := src1.ne hD
    refine lc_it (walk_tup (xs := ns.map V.int)) (fun i H2 => ∃ ps : List Int, H2 D = some (.lst (ps.map V.int)) ∧ ps.length = i ∧ XB s H1 H2 ∧ Src H2 s) ⟨[], upd_same, rfl, XB.of (exn hD), src1.new hD⟩ (fun i H2 _ ⟨ps, _, _, xb, _⟩ => SqT.of (tup_xb src1 hl1 xb)) ?_ ?_
    · rintro i x H2 H3 hi ⟨ps, hD2, lp, xb, src⟩ ⟨rfl, hx⟩
      obtain ⟨n, hn, rfl⟩ := map_get hx
      have n1 := ok.one n (List.mem_of_getElem? hn)
      have n2 := hB n (List.mem_of_getElem? hn)
      have hl4 := ok.le
      refine ⟨rfl, _, rfl, _, rfl, s, n, rfl, src, by omega, ?_, fun r H4 r0 r1 xb4 src4 => ?_⟩
      · exact Nat.lt_of_lt_of_le (abs30 n1 n2) (Nat.pow_le_pow_right (by decide) (by decide))
      refine ⟨_, rfl, _, rfl, _, _, rfl, rfl, (wide_mul z2 (abs30 n1 n2) (by decide) (by decide) (by decide)).ok, _, _, rfl, rfl, ?_⟩
      refine ⟨ps.map V.int, xb4 _ _ nD hD2, ?_, ps ++ [r + z * n], ?_, ?_, (xb.trans xb4).app hD, src4.app nD⟩
      · rw [List.length_map] at hi ⊢
        exact Nat.lt_of_le_of_lt (show ps.length ≤ 4 by omega) (by decide)
      · rw [upd_same, List.map_append]
        rfl
      · rw [List.length_append, lp]
        rfl
    · rintro H2 ⟨ps, hD2, lp, xb, src⟩
      refine ⟨D, _, rfl, .inl ⟨SqL.of hD2, fun q hq => ?_⟩⟩
      rw [List.length_map] at lp
      have nq := src.ne hq
      have XB2 := xbH.trans xb
      exact k q ps _ (XB2.back nq hq) upd_same lp (XB2.trans (XB.of (exn hq))) (src.new hq)
end

section
variable {P : Program} {w : World} {K : PySem.W.Frag} {mg : Str → Option Value} {base : Heap}
def sp_law_step : Sp := fun vs H Q _ => ∃ (l p d : Addr) (f : Int) (ns ps cs : List Int), vs = [.ref l, .ref p, .ref d, .int f] ∧ H l = some (.tup (ns.map V.int)) ∧ SzOk ns ∧ H p = some (.tup (ps.map V.int)) ∧ H d = some (.tup (cs.map V.int)) ∧ ps.length = ns.length ∧ cs.length = ns.length ∧ (f = 1 ∨ f = -1) ∧
  ∀ H2 q, Ex H H2 → H q = none → H2 q = some (.tup ((shiftL ns ps cs f).map V.int)) → Q (.ref q) H2
theorem ok_law_step (T : TX K mg) : FnOk P w K mg base CX0 1 T.f_law_step T.fd_law_step ["_law_rings_here", "_law_spot", "_law_delta", "_law_sign"] sp_law_step := by
  refine T.F_law_step.ok sc_law_step (fun vs H Q E h => ?_) (fun cdv A outer s H vs Q E hr h => ?_)
  · obtain ⟨l, p, d, f, ns, ps, cs, rfl, _⟩ := h
    rfl
  · obtain ⟨t, s, c, f, ns, ps, cs, rfl, h2, ok, hs, hc, lp, lc, hf, k⟩ := h
    have l4 := ok.le
    refine ⟨_, (pss_one (ps_ret (pe_callTy call_tuple_of (by rfl) T.z_tuple (by decide +kernel) (pa_cons (pe_lc (own := [("_law_place", 4), ("_law_one_here", 5), ("_law_size", 6)]) (g := (gTup K 3 (gCons (gName 4) (gCons (gName 5) (gCons (gName 6) gNil))))) rfl sc_law_step.nd (CZ.pi_z3 (fl := [true, true, true]) rfl (by rfl) T.z_zip (pa_cons (pv 1) (pa_cons (pv 2) (pa_cons (pv 0) pa_nil)))) (blkOk_by (N := N_law_step) (sc := defScope s_law_step) (by decide +kernel)) (fun _ _ _ _ _ => (pg_tup rfl (pgs_cons (pg_name (i := 4) sc_law_step.nd rfl (Or.inl rfl)) (pgs_cons (pg_name (i := 5) sc_law_step.nd rfl (Or.inl rfl)) (pgs_cons (pg_name (i := 6) sc_law_step.nd rfl (Or.inl rfl)) pgs_nil))))) (fun _ _ _ _ _ => pts_nil) (fun _ _ _ _ _ => (pe_op op_mod (pe_op op_add (pv 4) (pe_op op_mulI (pv 3) (pv 5))) (pv 6)))) pa_nil)))), ?_⟩
    refine ⟨_, rfl, _, rfl, _, rfl, [s, c, t], rfl, rfl, all3 (sqT hs) (sqT hc) (sqT h2), fun D hD => ?_⟩
    have ls : (shiftL ns ps cs f).length = ns.length := shift_len lp lc
    refine lc_vals (CZ.walk_rows (xss := [ps.map V.int, cs.map V.int, ns.map V.int]) (n := ns.length) (lens3 (by rw [List.length_map, lp]) (by rw [List.length_map, lc]) (by rw [List.length_map]))) ((shiftL ns ps cs f).map V.int) (by rw [List.length_map, ls]) (by omega) hD (fun H3 e => .cons (sqT (e _ _ hs)) (.cons (sqT (e _ _ hc)) (.cons (sqT (e _ _ h2)) .nil))) ?_ (gmono_tup (gmono_cons gmono_name (gmono_cons gmono_name (gmono_cons gmono_name gmono_nil)))) ?_
    · intro i y H3 H4 R hi e yy kk
      obtain ⟨Ta, p, d, n, rfl, hT, rfl, hp, hd, hn⟩ := yints3 yy
      have n1 := ok.one n (List.mem_of_getElem? hn)
      refine ⟨Ta, _, rfl, SqT.of upd_same, rfl, _, _, rfl, _, _, rfl, _, _, rfl, rfl, rfl, ?_⟩
      refine ⟨_, rfl, _, rfl, _, rfl, _, _, rfl, rfl, mul_ok (.inl (by omega)), _, _, rfl, rfl, _, rfl, _, _, rfl, rfl, (by show (0 : Int) < n; omega), ?_⟩
      refine kk _ _ (exn hT) ?_
      rw [List.getElem?_map, shift_get hn hp hd]
      rfl
    · intro H3 e hD3
      exact ⟨D, _, rfl, .inl ⟨SqL.of hD3, fun q hq => k _ q (ext e (exn hq)) (Evl.fresh_back e hq) upd_same⟩⟩
def sp_law_walk : Sp := fun vs H Q _ => ∃ (l s p : Addr) (ns ps : List Int) (xs : List V) (ms : List (List Int × Bool)), vs = [.ref l, .ref s, .ref p] ∧ H l = some (.tup (ns.map V.int)) ∧ SzOk ns ∧ H s = some (.tup (ps.map V.int)) ∧ SeatOk ns ps ∧ H p = some (.lst xs) ∧ MovR H xs ms ∧ ms.length ≤ 100000 ∧ (∀ m ∈ ms, m.1.length = ns.length) ∧ ∀ f H2, Ex H H2 → H f = none → RowsAt H2 f (walkL ns ps ms) → Q (.ref f) H2
theorem ok_law_walk (T : TX K mg) : FnOk P w K mg base CX0 2 T.f_law_walk T.fd_law_walk ["_law_rings_here", "_law_start", "_law_played"] sp_law_walk := by
  refine T.F_law_walk.ok sc_law_walk (fun vs H Q E h => ?_) (fun cdv A outer s H vs Q E hr h => ?_)
  · obtain ⟨l, s, p, ns, ps, xs, ms, rfl, _⟩ := h
    rfl
  · obtain ⟨l, s, q, ns, ps, xs, ms, rfl, hl, ok, hs, sk, hq, rr, lm, hm, k⟩ := h
    refine ⟨_, (pss_cons (ps_set (i := 3) sc_law_walk.nd rfl (Or.inl rfl) (pe_lst (pa_cons (pv 1) pa_nil))) (pss_cons (ps_for PassesOwn.never rfl (pi_list (pv 2)) (pg_tup rfl (pgs_cons (pg_name (i := 4) sc_law_walk.nd rfl (Or.inl rfl)) (pgs_cons (pg_name (i := 5) sc_law_walk.nd rfl (Or.inl rfl)) pgs_nil))) (pss_one (ps_expr (pe_bm PySem.F.plainAttrs_list PySem.F.slot_list_append PySem.F.type_list_append mt_append (pv 3) (pa_cons (pe_call (ok_law_step T) hr rfl T.m_law_step T.F_law_step.kp T.b_law_step .nil pass0 (pa_cons (pv 0) (pa_cons (pe_ix ix_list (pv 3) (pe_un un_neg pe_int) (fun _ _ => rfl)) (pa_cons (pv 4) (pa_cons (pe_ix ix_list (pe_lst (pa_cons pe_int (pa_cons (pe_un un_neg pe_int) pa_nil))) (pe_callTy call_int1 (by rfl) T.z_int (by decide +kernel) (pa_cons (pe_cmpR op_eq (pv 5) pe_str (nomark _)) pa_nil)) (fun _ _ => rfl)) pa_nil))))) pa_nil))))) (pss_one (ps_ret (pv 3))))), ?_⟩
    have lx := rr.len
    (repeat (first | refine ⟨rfl, ?_⟩ | refine ⟨_, rfl, ?_⟩ | refine ⟨_, _, rfl, rfl, ?_⟩ | refine ⟨_, _, rfl, ?_⟩ | refine ⟨slen rfl, ?_⟩ | refine ⟨⟨by decide, by decide +kernel⟩, ?_⟩ | refine ⟨⟨by decide, by decide, by decide⟩, ?_⟩ | refine ⟨(by show (0 : Int) < _; first | decide | assumption | omega), ?_⟩ | refine ⟨mul_ok (by first | exact .inr (by decide) | exact .inl (by decide)), ?_⟩))
    (intro f nf; generalize hGf : upd _ f _ = H1; have eH1 := exG hGf nf; have hf := atG hGf; clear hGf)
    refine ⟨_, rfl, q, rfl, ⟨_, SqL.of (eH1 _ _ hq)⟩, ?_⟩
    refine for_it (walk_list (xs := xs)) (fun i σ H3 => (∃ (y4 y5 : Option V), σ = [some (.ref l), some (.ref s), some (.ref q), some (.ref f), y4, y5]) ∧ Ex H H3 ∧ RowsAt H3 f (walkL ns ps (ms.take i))) ⟨⟨_, _, rfl⟩, eH1, _, hf, .cons ⟨s, rfl, eH1 _ _ hs⟩ .nil⟩ (fun i σ H2 _ ⟨_, e, _⟩ => SqL.of (e _ _ hq)) ?_ ?_
    · rintro i x σ _ H3 hi ⟨⟨y4, y5, rfl⟩, e3, ra⟩ ⟨rfl, hx⟩
      obtain ⟨m, hmi, r, c, rfl, hr0, hc0⟩ := paired_get rr hx
      obtain ⟨hss, eh⟩ := walk_last ns ps (ms.take i)
      obtain ⟨zs, hz1, hz2⟩ := id ra
      rw [eh] at hz2
      obtain ⟨ys, u, rfl, hu⟩ := hz2.last
      have skp := pos_ok ok.one sk (ms := ms.take i) fun m h => hm m (List.mem_of_mem_take h)
      have lc := hm m (List.mem_of_getElem? hmi)
      refine ⟨r, _, rfl, SqT.of (e3 _ _ hr0), rfl, _, _, rfl, _, _, rfl, rfl, ?_⟩
      refine ⟨_, rfl, .inl ⟨rfl, _, SqL.of hz1⟩, ?_⟩
      refine ⟨_, rfl, _, rfl, _, rfl, f, _, _, _, rfl, rfl, SqL.of hz1, atI_last _ _, _, rfl, ?_⟩
      (repeat (first | refine ⟨rfl, ?_⟩ | refine ⟨_, rfl, ?_⟩ | refine ⟨_, _, rfl, rfl, ?_⟩ | refine ⟨_, _, rfl, ?_⟩ | refine ⟨slen rfl, ?_⟩ | refine ⟨⟨by decide, by decide +kernel⟩, ?_⟩ | refine ⟨⟨by decide, by decide, by decide⟩, ?_⟩ | refine ⟨(by show (0 : Int) < _; first | decide | assumption | omega), ?_⟩ | refine ⟨mul_ok (by first | exact .inr (by decide) | exact .inl (by decide)), ?_⟩))
      (intro al nal; generalize hGal : upd _ al _ = H4; have eH4 := exG hGal nal; have hal := atG hGal; clear hGal)
      refine ⟨_, rfl, rfl, .inr ⟨_, rfl, ?_⟩⟩
      have hsg : atI [V.int 1, V.int (-1)] (if decide (V.str (dirS m.2) = V.str "backward") = true then 1 else 0) = some (.int (sgD m.2)) := by
        cases m.2 <;> rfl
      refine ⟨al, _, _, _, rfl, rfl, SqL.of hal, hsg, ?_⟩
      have e4 := ext e3 eH4
      refine ⟨l, u, c, _, ns, _, m.1, rfl, e4 _ _ hl, ok, eH4 _ _ hu, e4 _ _ hc0, skp.len, lc, ?_, fun H5 z e5 nz hz => ?_⟩
      · cases m.2
        · exact .inl rfl
        · exact .inr rfl
      obtain ⟨acc, p1, p2, p3⟩ := rows_push (ra.mono (ext eH4 e5)) hz
      refine ⟨f, _, _, rfl, rfl, p1, ?_, ⟨_, _, rfl⟩, ex_upd (ext e4 e5) nf, ?_⟩
      · rw [p2, walk_len, List.length_take]
        exact Nat.lt_of_le_of_lt (show _ ≤ 100001 by omega) (by decide)
      · rw [take_more hmi, walk_snoc, pos_snoc]
        exact p3
    · rintro σ H3 ⟨⟨y4, y5, rfl⟩, e3, ra⟩
      rw [lx, List.take_length] at ra
      exact ⟨_, rfl, k f _ e3 nf ra⟩
end

/-! ### comprehensions of new tuples -/
theorem paired_mono {α : Type} {P Q : V → α → Prop} (h : ∀ v a, P v a → Q v a) : ∀ {xs : List V} {as : List α}, Paired P xs as → Paired Q xs as
  | _, _, .nil => .nil
  | _, _, .cons q t => .cons (h _ _ q) (paired_mono h t)
theorem paired_snoc {α : Type} {P : V → α → Prop} {v : V} {a : α} (h : P v a) : ∀ {xs : List V} {as : List α}, Paired P xs as → Paired P (xs ++ [v]) (as ++ [a])
  | _, _, .nil => .cons h .nil
  | _, _, .cons q t => .cons q (paired_snoc h t)
theorem lc_new {α : Type} (Pd : Hp → V → α → Prop) (mono : ∀ (H H2 : Hp) (v : V) (a : α), (∀ c xs, H c = some (.tup xs) → H2 c = some (.tup xs)) → Pd H v a → Pd H2 v a)
    {J : It} {n : Nat} {G : Hp → Prop} {Y : Nat → Hp → V → Hp → Prop} (w : Walk J n G Y) {g : TG} {te : TE} {vs : List Nat} {σ : L2.St} {H1 : Hp} {D : Addr} {Qd : Hp → Prop} (as : List α) (hn : as.length = n) (hl : n ≤ 10000000) (hD : H1 D = none)
    (hG : ∀ H, Ex H1 H → G H)
    (hs : ∀ i x a H H2 (R : VK), as[i]? = some a → Ex H1 H → Y i H x H2 → (∀ v H5, Ex H H5 → Pd H5 v a → R v H5) → g x (wipe σ vs) H2 fun σ2 H3 => wipe σ2 vs = wipe σ vs ∧ te σ2 H3 R)
    (hg : ∀ x σ2 H2 (R R2 : L2.St → Hp → Prop), (∀ σ3 H3, R σ3 H3 → R2 σ3 H3) → g x σ2 H2 R → g x σ2 H2 R2)
    (hd : ∀ H xs, Ex H1 H → H D = some (.lst xs) → Paired (Pd H) xs as → Qd H) :
    ∃ W : Nat → Nat → Hp → Prop, (∃ m, W 0 m (upd H1 D (.lst []))) ∧ ∀ i m H, W i m H →
      (J.stop i H ∧ Qd H) ∨ (J.go i H ∧ ∃ Nx : Hp → Prop, (∀ H2, Nx H2 → ∃ m2, m2 < m ∧ W (i + 1) m2 H2) ∧ ∀ x H2, J.yld i H x H2 → g x (wipe σ vs) H2 fun σ2 H3 => wipe σ2 vs = wipe σ vs ∧ tYes σ2 H3 fun b H4 =>
        if b = true then te σ2 H4 fun y H5 => ∃ acc, H5 D = some (.lst acc) ∧ acc.length < sizeLine ∧ Nx (upd H5 D (.lst (acc ++ [y]))) else Nx H4) := by
  refine lc_it w (fun i H => Ex H1 H ∧ ∃ xs, H D = some (.lst xs) ∧ Paired (Pd H) xs (as.take i)) ⟨exn hD, [], upd_same, .nil⟩ (fun i H _ p => hG H p.1) (fun i x H H2 hi p y => ?_) (fun H p => ?_)
  · obtain ⟨a, ha⟩ : ∃ a, as[i]? = some a := ⟨_, List.getElem?_eq_getElem (by omega)⟩
    refine hg _ _ _ _ _ (fun σ3 H3 q => ⟨q.1, q.2⟩) (hs i x a H H2 (fun y H5 => ∃ acc, H5 D = some (.lst acc) ∧ acc.length < sizeLine ∧ Ex H1 (upd H5 D (.lst (acc ++ [y]))) ∧ ∃ xs, upd H5 D (.lst (acc ++ [y])) D = some (.lst xs) ∧ Paired (Pd (upd H5 D (.lst (acc ++ [y])))) xs (as.take (i + 1))) ha p.1 y fun v H5 e hv => ?_)
    obtain ⟨p1, xs, p2, p3⟩ := p
    have tp : ∀ c zs, H5 c = some (.tup zs) → upd H5 D (.lst (xs ++ [v])) c = some (.tup zs) := fun c zs z => by
      rw [upd_ne (ne_of z (e _ _ p2) (by intro q; cases q))]
      exact z
    refine ⟨xs, e _ _ p2, ?_, ex_upd (ext p1 e) hD, xs ++ [v], upd_same, ?_⟩
    · rw [Paired.length p3, List.length_take]
      exact Nat.lt_of_le_of_lt (Nat.le_trans (Nat.min_le_right _ _) (by rw [hn]; exact hl)) (by decide)
    · rw [take_more ha]
      refine paired_snoc (mono _ _ _ _ tp hv) (paired_mono (fun v a q => mono _ _ _ _ tp (mono _ _ _ _ (fun c zs z => e _ _ z) q)) p3)
  · obtain ⟨p1, xs, p2, p3⟩ := p
    rw [List.take_of_length_le (by omega)] at p3
    exact hd H xs p1 p2 p3
def PdRow (H : Hp) (x : V) (hs : List Int) : Prop := ∃ r, x = V.ref r ∧ H r = some (.tup (hs.map V.int))
theorem pdrow_mono (H H2 : Hp) (v : V) (a : List Int) (e : ∀ c xs, H c = some (.tup xs) → H2 c = some (.tup xs)) (h : PdRow H v a) : PdRow H2 v a := by
  obtain ⟨r, h1, h2⟩ := h
  exact ⟨r, h1, e _ _ h2⟩

/-- a comprehension of new objects with a test -/
theorem lc_newF {α : Type} (Pd : Hp → V → α → Prop) (mono : ∀ (H H2 : Hp) (v : V) (a : α), (∀ c xs, H c = some (.tup xs) → H2 c = some (.tup xs)) → Pd H v a → Pd H2 v a)
    {J : It} {n : Nat} {G : Hp → Prop} {Y : Nat → Hp → V → Hp → Prop} (w : Walk J n G Y) {g : TG} {tt : TT} {te : TE} {vs : List Nat} {σ : L2.St} {H1 : Hp} {D : Addr} {Qd : Hp → Prop} (as : List α) (c : α → Bool) (hn : as.length = n) (hl : n ≤ 10000000) (hD : H1 D = none)
    (hG : ∀ H, Ex H1 H → G H)
    (hs : ∀ i x a H H2 (R : VK) (S : Hp → Prop), as[i]? = some a → Ex H1 H → Y i H x H2 → (∀ v H5, Ex H H5 → c a = true → Pd H5 v a → R v H5) → (∀ H4, Ex H H4 → c a = false → S H4) → g x (wipe σ vs) H2 fun σ2 H3 => wipe σ2 vs = wipe σ vs ∧ tt σ2 H3 fun b H4 => if b = true then te σ2 H4 R else S H4)
    (hd : ∀ H xs, Ex H1 H → H D = some (.lst xs) → Paired (Pd H) xs (as.filter c) → Qd H) :
    ∃ W : Nat → Nat → Hp → Prop, (∃ m, W 0 m (upd H1 D (.lst []))) ∧ ∀ i m H, W i m H →
      (J.stop i H ∧ Qd H) ∨ (J.go i H ∧ ∃ Nx : Hp → Prop, (∀ H2, Nx H2 → ∃ m2, m2 < m ∧ W (i + 1) m2 H2) ∧ ∀ x H2, J.yld i H x H2 → g x (wipe σ vs) H2 fun σ2 H3 => wipe σ2 vs = wipe σ vs ∧ tt σ2 H3 fun b H4 =>
        if b = true then te σ2 H4 fun y H5 => ∃ acc, H5 D = some (.lst acc) ∧ acc.length < sizeLine ∧ Nx (upd H5 D (.lst (acc ++ [y]))) else Nx H4) := by
  refine lc_it w (fun i H => Ex H1 H ∧ ∃ xs, H D = some (.lst xs) ∧ Paired (Pd H) xs ((as.take i).filter c)) ⟨exn hD, [], upd_same, .nil⟩ (fun i H _ p => hG H p.1) (fun i x H H2 hi p y => ?_) (fun H p => ?_)
  · obtain ⟨a, ha⟩ : ∃ a, as[i]? = some a := ⟨as[i]'(by omega), List.getElem?_eq_getElem (by omega)⟩
    obtain ⟨p1, xs, p2, p3⟩ := p
    refine hs i x a H H2 _ (fun H3 => Ex H1 H3 ∧ ∃ xs, H3 D = some (.lst xs) ∧ Paired (Pd H3) xs ((as.take (i + 1)).filter c)) ha p1 y (fun v H5 e hc hv => ?_) (fun H4 e hc => ?_)
    · have tp : ∀ c zs, H5 c = some (.tup zs) → upd H5 D (.lst (xs ++ [v])) c = some (.tup zs) := fun c zs z => by
        rw [upd_ne (ne_of z (e _ _ p2) (by intro q; cases q))]
        exact z
      refine ⟨xs, e _ _ p2, ?_, ex_upd (ext p1 e) hD, xs ++ [v], upd_same, ?_⟩
      · rw [Paired.length p3]
        refine Nat.lt_of_le_of_lt (Nat.le_trans (List.length_filter_le _ _) ?_) (show 10000000 < sizeLine by decide)
        rw [List.length_take]
        omega
      · rw [take_more ha, List.filter_append, show [a].filter c = [a] by simp [hc]]
        exact paired_snoc (mono _ _ _ _ tp hv) (paired_mono (fun v a q => mono _ _ _ _ tp (mono _ _ _ _ (fun c zs z => e _ _ z) q)) p3)
    · refine ⟨ext p1 e, xs, e _ _ p2, ?_⟩
      rw [take_more ha, List.filter_append, show [a].filter c = [] by simp [hc], List.append_nil]
      exact paired_mono (fun v a q => mono _ _ _ _ (fun c zs z => e _ _ z) q) p3
  · obtain ⟨p1, xs, p2, p3⟩ := p
    rw [List.take_of_length_le (by omega)] at p3
    exact hd H xs p1 p2 p3
/-- .. of new objects of any kind, beside the list itself -/
theorem lc_newG {α : Type} {D : Addr} (Pd : Hp → V → α → Prop) (mono : ∀ (H H2 : Hp) (v : V) (a : α) (ys : List V), H D = some (.lst ys) → (∀ c o, c ≠ D → H c = some o → H2 c = some o) → Pd H v a → Pd H2 v a)
    {J : It} {n : Nat} {G : Hp → Prop} {Y : Nat → Hp → V → Hp → Prop} (w : Walk J n G Y) {g : TG} {tt : TT} {te : TE} {vs : List Nat} {σ : L2.St} {H1 : Hp} {Qd : Hp → Prop} (as : List α) (c : α → Bool) (hn : as.length = n) (hl : n ≤ 10000000) (hD : H1 D = none)
    (hG : ∀ H, Ex H1 H → G H)
    (hs : ∀ i x a H H2 (R : VK) (S : Hp → Prop), as[i]? = some a → Ex H1 H → (∃ ys, H D = some (.lst ys)) → Y i H x H2 → (∀ v H5, Ex H H5 → c a = true → Pd H5 v a → R v H5) → (∀ H4, Ex H H4 → c a = false → S H4) → g x (wipe σ vs) H2 fun σ2 H3 => wipe σ2 vs = wipe σ vs ∧ tt σ2 H3 fun b H4 => if b = true then te σ2 H4 R else S H4)
    (hd : ∀ H xs, Ex H1 H → H D = some (.lst xs) → Paired (Pd H) xs (as.filter c) → Qd H) :
    ∃ W : Nat → Nat → Hp → Prop, (∃ m, W 0 m (upd H1 D (.lst []))) ∧ ∀ i m H, W i m H →
      (J.stop i H ∧ Qd H) ∨ (J.go i H ∧ ∃ Nx : Hp → Prop, (∀ H2, Nx H2 → ∃ m2, m2 < m ∧ W (i + 1) m2 H2) ∧ ∀ x H2, J.yld i H x H2 → g x (wipe σ vs) H2 fun σ2 H3 => wipe σ2 vs = wipe σ vs ∧ tt σ2 H3 fun b H4 =>
        if b = true then te σ2 H4 fun y H5 => ∃ acc, H5 D = some (.lst acc) ∧ acc.length < sizeLine ∧ Nx (upd H5 D (.lst (acc ++ [y]))) else Nx H4) := by
  refine lc_it w (fun i H => Ex H1 H ∧ ∃ xs, H D = some (.lst xs) ∧ Paired (Pd H) xs ((as.take i).filter c)) ⟨exn hD, [], upd_same, .nil⟩ (fun i H _ p => hG H p.1) (fun i x H H2 hi p y => ?_) (fun H p => ?_)
  · obtain ⟨a, ha⟩ : ∃ a, as[i]? = some a := ⟨as[i]'(by omega), List.getElem?_eq_getElem (by omega)⟩
    obtain ⟨p1, xs, p2, p3⟩ := p
    refine hs i x a H H2 _ (fun H3 => Ex H1 H3 ∧ ∃ xs, H3 D = some (.lst xs) ∧ Paired (Pd H3) xs ((as.take (i + 1)).filter c)) ha p1 ⟨xs, p2⟩ y (fun v H5 e hc hv => ?_) (fun H4 e hc => ?_)
    · have tp : ∀ c o, c ≠ D → H5 c = some o → upd H5 D (.lst (xs ++ [v])) c = some o := fun c o n z => by
        rw [upd_ne n]
        exact z
      refine ⟨xs, e _ _ p2, ?_, ex_upd (ext p1 e) hD, xs ++ [v], upd_same, ?_⟩
      · rw [Paired.length p3]
        refine Nat.lt_of_le_of_lt (Nat.le_trans (List.length_filter_le _ _) ?_) (show 10000000 < sizeLine by decide)
        rw [List.length_take]
        omega
      · rw [take_more ha, List.filter_append, show [a].filter c = [a] by simp [hc]]
        exact paired_snoc (mono _ _ _ _ _ (e _ _ p2) tp hv) (paired_mono (fun v a q => mono _ _ _ _ _ (e _ _ p2) tp (mono _ _ _ _ _ p2 (fun c o _ z => e _ _ z) q)) p3)
    · refine ⟨ext p1 e, xs, e _ _ p2, ?_⟩
      rw [take_more ha, List.filter_append, show [a].filter c = [] by simp [hc], List.append_nil]
      exact paired_mono (fun v a q => mono _ _ _ _ _ p2 (fun c o _ z => e _ _ z) q) p3
  · obtain ⟨p1, xs, p2, p3⟩ := p
    rw [List.take_of_length_le (by omega)] at p3
    exact hd H xs p1 p2 p3
/-- a new list of tuples of ints -/
def PdRows (D : Addr) (H : Hp) (v : V) (row : List (List Int)) : Prop := ∃ a, v = V.ref a ∧ a ≠ D ∧ RowsAt H a row
theorem pdrows_mono {D : Addr} (H H2 : Hp) (v : V) (row : List (List Int)) (ys : List V) (hD : H D = some (.lst ys)) (e : ∀ c o, c ≠ D → H c = some o → H2 c = some o) (h : PdRows D H v row) : PdRows D H2 v row := by
  obtain ⟨a, h1, h2, xs, h3, h4⟩ := h
  exact ⟨a, h1, h2, xs, e _ _ h2 h3, paired_mono (fun v hs ⟨r, q1, q2⟩ => ⟨r, q1, e _ _ (ne_of q2 hD (by intro z; cases z)) q2⟩) h4⟩

theorem mul_le_prod {ns : List Int} (h : ∀ n ∈ ns, 1 ≤ n) {i : Nat} {n : Int} (hn : ns[i]? = some n) : n ≤ prodL ns := by
  have o1 : ∀ m ∈ ns.take i, 1 ≤ m := fun m hm => h m (List.mem_of_mem_take hm)
  have a1 : prodL (ns.take (i + 1)) ≤ prodL ns := prodL_take (i + 1) h
  have n1 := h n (List.mem_of_getElem? hn)
  rw [take_more hn, prodS_snoc] at a1
  have a2 := prodL_pos o1
  have a3 : 1 * n ≤ prodL (ns.take i) * n := Int.mul_le_mul_of_nonneg_right a2 (by omega)
  omega

theorem mul_le_of_mem {ns : List Int} (h : ∀ n ∈ ns, 1 ≤ n) {n : Int} (hn : n ∈ ns) : n ≤ prodL ns := by
  obtain ⟨i, hi⟩ := List.mem_iff_getElem?.mp hn
  exact mul_le_prod h hi

theorem seat_lt : ∀ {ns q : List Int}, (∀ n ∈ ns, n ≤ 300) → SeatOk ns q → ∀ x ∈ q, 0 ≤ x ∧ x < 300
  | [], [], _, _ => fun x h => (nomatch h)
  | [], _ :: _, _, h => (h : False).elim
  | _ :: _, [], _, h => (h : False).elim
  | n :: ns, y :: q, b, h => fun x hx => by
    obtain ⟨h1, h2⟩ : (0 ≤ y ∧ y < n) ∧ SeatOk ns q := h
    rcases List.mem_cons.mp hx with rfl | hx
    · have := b n List.mem_cons_self
      omega
    · exact seat_lt (fun m hm => b m (List.mem_cons_of_mem _ hm)) h2 x hx

theorem sorted_same : ∀ {xs ys : List Int}, xs.Pairwise (· < ·) → ys.Pairwise (· < ·) → (∀ k, k ∈ xs ↔ k ∈ ys) → xs = ys
  | [], [], _, _, _ => rfl
  | [], y :: ys, _, _, h => absurd ((h y).mpr List.mem_cons_self) (by simp)
  | x :: xs, [], _, _, h => absurd ((h x).mp List.mem_cons_self) (by simp)
  | x :: xs, y :: ys, hx, hy, h => by
    have hx2 := List.pairwise_cons.mp hx
    have hy2 := List.pairwise_cons.mp hy
    have e : x = y := by
      rcases List.mem_cons.mp ((h x).mp List.mem_cons_self) with z | z
      · exact z
      · rcases List.mem_cons.mp ((h y).mpr List.mem_cons_self) with u | u
        · exact u.symm
        · have := hy2.1 x z
          have := hx2.1 y u
          omega
    subst e
    rw [sorted_same hx2.2 hy2.2 fun k => ?_]
    constructor
    · intro hk
      rcases List.mem_cons.mp ((h k).mp (List.mem_cons_of_mem _ hk)) with z | z
      · have := hx2.1 k hk
        omega
      · exact z
    · intro hk
      rcases List.mem_cons.mp ((h k).mpr (List.mem_cons_of_mem _ hk)) with z | z
      · have := hy2.1 k hk
        omega
      · exact z

theorem bez : ∀ (b a : Nat), ∃ x y : Int, (a : Int) * x + (b : Int) * y = ((Nat.gcd a b : Nat) : Int) := by
  intro b
  induction b using Nat.strongRecOn with
  | ind b ih =>
    intro a
    by_cases h : b = 0
    · subst h
      exact ⟨1, 0, by simp⟩
    · obtain ⟨x, y, e⟩ := ih (a % b) (Nat.mod_lt _ (by omega)) b
      refine ⟨y, x - (a / b : Nat) * y, ?_⟩
      rw [Nat.gcd_comm a b, Nat.gcd_rec b a, Nat.gcd_comm (a % b) b, ← e]
      have d : (a : Int) = (b : Int) * (a / b : Nat) + (a % b : Nat) := by
        have := Nat.div_add_mod a b
        rw [← Int.natCast_mul, ← Int.natCast_add, this]
      generalize ((a / b : Nat) : Int) = q at *
      generalize ((a % b : Nat) : Int) = r at *
      rw [d]
      grind

theorem odd_dvd {n : Int} (h : 1 ≤ n) : oddI n ∣ n := by
  obtain ⟨⟨k, hk⟩, _⟩ := oddI_ok h
  conv => rhs; rw [hk]
  exact Int.dvd_mul_left _ _

/-- weights that fit the rings modulo p -/
structure FitW (ns : List Int) (p : Int) (ws : List Int) : Prop where
  len : ws.length = ns.length
  w0 : ∀ x ∈ ws, 0 ≤ x ∧ x < p
  fit : ∀ (i : Nat) (x n : Int), ws[i]? = some x → ns[i]? = some n → x * n % p = 0

/-! ### witnesses that explain a game: plain -/
def stepE (e n : Int) : Int := e * oddI n / gcdI e (oddI n)
def expoL (ns : List Int) : Int := ns.foldl stepE 1
structure ExpOk (ns : List Int) (e : Int) : Prop where
  one : 1 ≤ e
  odd : e % 2 = 1
  all : ∀ n ∈ ns, oddI n ∣ e
  dvd : e ∣ prodL ns
theorem odd_of_dvd {a b : Int} (h : a ∣ b) (hb : b % 2 = 1) : a % 2 = 1 := by
  obtain ⟨c, rfl⟩ := h
  have e1 := Int.mul_ediv_add_emod a 2
  have e2 := Int.mul_ediv_add_emod c 2
  rcases Int.emod_two_eq a with h | h
  · rw [Int.mul_emod, h] at hb
    simp at hb
  · exact h
theorem stepE_ok {ns : List Int} {e n : Int} (h : ExpOk ns e) (n1 : 1 ≤ n) (one : ∀ m ∈ ns, 1 ≤ m) : ExpOk (ns ++ [n]) (stepE e n) := by
  obtain ⟨_, o1, o2, o3⟩ := oddI_ok n1
  have e1 := h.one
  have g0 : 0 < gcdI e (oddI n) := by
    have : 0 < Int.gcd e (oddI n) := Int.gcd_pos_of_ne_zero_left _ (by omega)
    show (0 : Int) < ((Int.gcd e (oddI n) : Nat) : Int)
    omega
  have gl : gcdI e (oddI n) ∣ e := Int.gcd_dvd_left ..
  have gr : gcdI e (oddI n) ∣ oddI n := Int.gcd_dvd_right ..
  have s1 : stepE e n = e * (oddI n / gcdI e (oddI n)) := Int.mul_ediv_assoc _ gr
  have s2 : stepE e n = e / gcdI e (oddI n) * oddI n := by
    unfold stepE
    rw [Int.mul_comm, Int.mul_ediv_assoc _ gl, Int.mul_comm]
  have q1 : 1 ≤ oddI n / gcdI e (oddI n) := by
    obtain ⟨c, hc⟩ := gr
    have : oddI n / gcdI e (oddI n) = c := by
      conv => lhs; lhs; rw [hc]
      exact Int.mul_ediv_cancel_left _ (by omega)
    rw [this]
    refine Classical.byContradiction fun no => ?_
    have : gcdI e (oddI n) * c ≤ gcdI e (oddI n) * 0 := Int.mul_le_mul_of_nonneg_left (by omega) (by omega)
    omega
  refine ⟨?_, ?_, fun m hm => ?_, ?_⟩
  · rw [s1]
    have := Int.mul_le_mul e1 q1 (by decide) (by omega)
    omega
  · rw [s1, Int.mul_emod, h.odd, odd_of_dvd (Int.ediv_dvd_of_dvd gr) o1]
    rfl
  · rcases List.mem_append.mp hm with hm | hm
    · rw [s1]
      exact Int.dvd_mul_of_dvd_left (h.all m hm)
    · rw [List.mem_singleton.mp hm, s2]
      exact Int.dvd_mul_left _ _
  · rw [prodS_snoc, s1]
    exact Int.mul_dvd_mul h.dvd (Int.dvd_trans (Int.ediv_dvd_of_dvd gr) (odd_dvd n1))
theorem expo_ok : ∀ {ns : List Int}, (∀ n ∈ ns, 1 ≤ n) → ExpOk ns (expoL ns) := by
  have key : ∀ (ms ds : List Int) (e : Int), ExpOk ds e → (∀ n ∈ ds, 1 ≤ n) → (∀ n ∈ ms, 1 ≤ n) → ExpOk (ds ++ ms) (ms.foldl stepE e) := by
    intro ms
    induction ms with
    | nil =>
      intro ds e h _ _
      rw [List.append_nil]
      exact h
    | cons n ms ih =>
      intro ds e h o1 o2
      have n1 := o2 n List.mem_cons_self
      have := ih (ds ++ [n]) (stepE e n) (stepE_ok h n1 o1) (fun m hm => by
        rcases List.mem_append.mp hm with hm | hm
        · exact o1 m hm
        · rw [List.mem_singleton.mp hm]
          exact n1) fun m hm => o2 m (List.mem_cons_of_mem _ hm)
      rw [List.append_assoc] at this
      exact this
  intro ns h
  exact key ns [] 1 ⟨by decide, by decide, fun _ h => (nomatch h), Int.one_dvd _⟩ (fun _ h => nomatch h) h
/-- the weights of a ring -/
def wsC (m n : Int) : List Int := ((List.range m.toNat).filter fun (w : Nat) => decide ((w : Int) * n % m = 0)).map fun (w : Nat) => (w : Int)
def crossW (hss : List (List Int)) (ws : List Int) : List (List Int) := hss.flatMap fun hs => ws.map fun w => hs ++ [w]
def rowsW (ns : List Int) (m : Int) : List (List Int) := ns.foldl (fun hss n => crossW hss (wsC m n)) [[]]
theorem mem_wsC {m n w : Int} : w ∈ wsC m n ↔ 0 ≤ w ∧ w < m ∧ w * n % m = 0 := by
  unfold wsC
  simp only [List.mem_map, List.mem_filter, List.mem_range, decide_eq_true_eq]
  constructor
  · rintro ⟨k, ⟨h1, h2⟩, rfl⟩
    exact ⟨by omega, by omega, h2⟩
  · rintro ⟨h1, h2, h3⟩
    exact ⟨w.toNat, ⟨by omega, by rw [Int.toNat_of_nonneg h1]; exact h3⟩, Int.toNat_of_nonneg h1⟩
theorem wsC_sorted (m n : Int) : (wsC m n).Pairwise (· < ·) := by
  unfold wsC
  rw [List.pairwise_map]
  exact (List.pairwise_lt_range.filter _).imp fun {a b} h => by omega
theorem dvd_co {a b w : Int} (d : a ∣ w * b) (co : Int.gcd a b = 1) : a ∣ w := by
  have h := Int.natAbs_dvd_natAbs.mpr d
  rw [Int.natAbs_mul] at h
  exact Int.natAbs_dvd_natAbs.mp (Nat.Coprime.dvd_of_dvd_mul_right (show Nat.Coprime a.natAbs b.natAbs from co) h)
/-- a weight fits a ring if it is a multiple of m / gcd -/
theorem fit_step {m n w : Int} (m1 : 1 ≤ m) : w * n % m = 0 ↔ (m / gcdI m n) ∣ w := by
  have g0 : 0 < Int.gcd m n := Int.gcd_pos_of_ne_zero_left _ (by omega)
  have gl : gcdI m n ∣ m := Int.gcd_dvd_left ..
  have gr : gcdI m n ∣ n := Int.gcd_dvd_right ..
  have gp : (0 : Int) < gcdI m n := by
    show (0 : Int) < ((Int.gcd m n : Nat) : Int)
    omega
  have co : Int.gcd (m / gcdI m n) (n / gcdI m n) = 1 := Int.gcd_ediv_gcd_ediv_gcd g0
  obtain ⟨a, ha⟩ := gl
  obtain ⟨b, hb⟩ := gr
  have ea : m / gcdI m n = a := by
    conv => lhs; lhs; rw [ha]
    exact Int.mul_ediv_cancel_left _ (by omega)
  have eb : n / gcdI m n = b := by
    conv => lhs; lhs; rw [hb]
    exact Int.mul_ediv_cancel_left _ (by omega)
  rw [ea, eb] at co
  rw [ea]
  generalize gcdI m n = g at *
  constructor
  · intro h
    have d := Int.dvd_of_emod_eq_zero h
    rw [ha, hb, show w * (g * b) = g * (w * b) by grind] at d
    have d2 : a ∣ w * b := Int.dvd_of_mul_dvd_mul_left (by omega) d
    exact dvd_co d2 co
  · rintro ⟨c, rfl⟩
    rw [hb, show a * c * (g * b) = g * a * (c * b) by grind, ← ha]
    exact Int.emod_eq_zero_of_dvd (Int.dvd_mul_right _ _)

/-- the program's range of weights is the law's filter -/
theorem step_list {m n : Int} (m1 : 1 ≤ m) : ((List.range (Int.gcd m n)).map fun (i : Nat) => (0 : Int) + (i : Int) * (m / gcdI m n)) = wsC m n := by
  have g0 : 0 < Int.gcd m n := Int.gcd_pos_of_ne_zero_left _ (by omega)
  have gl : gcdI m n ∣ m := Int.gcd_dvd_left ..
  have hm : gcdI m n * (m / gcdI m n) = m := Int.mul_ediv_cancel' gl
  have s0 : 0 < m / gcdI m n := by
    refine Classical.byContradiction fun no => ?_
    have : gcdI m n * (m / gcdI m n) ≤ gcdI m n * 0 := Int.mul_le_mul_of_nonneg_left (by omega) (by show (0 : Int) ≤ ((Int.gcd m n : Nat) : Int); omega)
    omega
  refine sorted_same ?_ (wsC_sorted m n) fun w => ?_
  · rw [List.pairwise_map]
    refine List.pairwise_lt_range.imp fun {a b} h => ?_
    have : (a : Int) * (m / gcdI m n) < (b : Int) * (m / gcdI m n) := Int.mul_lt_mul_of_pos_right (by omega) s0
    omega
  · rw [mem_wsC, fit_step m1]
    simp only [List.mem_map, List.mem_range]
    generalize m / gcdI m n = s at *
    constructor
    · rintro ⟨i, hi, rfl⟩
      have h0 : 0 ≤ (i : Int) * s := Int.mul_nonneg (by omega) (by omega)
      have h1 : (i : Int) * s < ((Int.gcd m n : Nat) : Int) * s := Int.mul_lt_mul_of_pos_right (by omega) s0
      rw [show ((Int.gcd m n : Nat) : Int) * s = m from hm] at h1
      exact ⟨by omega, by omega, by rw [Int.zero_add]; exact Int.dvd_mul_left _ _⟩
    · rintro ⟨w0, w1, c, rfl⟩
      have c0 : 0 ≤ c := by
        refine Classical.byContradiction fun no => ?_
        have : s * c ≤ s * (-1) := Int.mul_le_mul_of_nonneg_left (by omega) (by omega)
        omega
      refine ⟨c.toNat, ?_, by rw [Int.toNat_of_nonneg c0, Int.zero_add, Int.mul_comm]⟩
      refine Classical.byContradiction fun no => ?_
      have : s * ((Int.gcd m n : Nat) : Int) ≤ s * c := Int.mul_le_mul_of_nonneg_left (by omega) (by omega)
      rw [show s * ((Int.gcd m n : Nat) : Int) = m by rw [Int.mul_comm]; exact hm] at this
      omega
/-! canonical rows -/
def gcdW (m : Int) (ws : List Int) : Int := ws.foldl (fun g w => gcdI g w) m
def unitsL (lo m : Int) : List Int := ((List.range (m - lo).toNat).map fun (i : Nat) => lo + (i : Int)).filter fun u => decide (gcdI u m = 1)
def mulM (u m : Int) (ws : List Int) : List Int := ws.map fun w => u * w % m
def canonB (m : Int) (ws : List Int) : Bool := decide (gcdW m ws = 1) && (unitsL 2 m).all fun u => decide (ws ≤ mulM u m ws)
theorem gcdW_nn : ∀ (ws : List Int) (m : Int), 0 ≤ m → 0 ≤ gcdW m ws
  | [], m, h => h
  | w :: ws, m, _ => gcdW_nn ws (gcdI m w) (by show (0 : Int) ≤ ((Int.gcd m w : Nat) : Int); omega)
/-- a number that all w * e have as a multiple divides gcd * e -/
theorem gcdW_dvd {d e : Int} : ∀ (ws : List Int) (g : Int), 0 ≤ g → d ∣ g * e → (∀ w ∈ ws, d ∣ w * e) → d ∣ gcdW g ws * e
  | [], g, _, h, _ => h
  | w :: ws, g, g0, h, hw => by
    refine gcdW_dvd ws (gcdI g w) (by show (0 : Int) ≤ ((Int.gcd g w : Nat) : Int); omega) ?_ fun x hx => hw x (List.mem_cons_of_mem _ hx)
    obtain ⟨a, b, hab⟩ := bez w.natAbs g.natAbs
    have eg : (g.natAbs : Int) = g := by omega
    have hg : gcdI g w = g * a + (w.natAbs : Int) * b := by
      show ((Int.gcd g w : Nat) : Int) = _
      rw [show Int.gcd g w = Nat.gcd g.natAbs w.natAbs from rfl, ← hab, eg]
    rw [hg]
    have hw1 := hw w List.mem_cons_self
    have hw2 : d ∣ (w.natAbs : Int) * e := by
      rcases Int.natAbs_eq w with z | z
      · rw [← z]
        exact hw1
      · have : (w.natAbs : Int) = -w := by omega
        rw [this, Int.neg_mul]
        exact Int.dvd_neg.mpr hw1
    have e1 : (g * a + (w.natAbs : Int) * b) * e = g * e * a + (w.natAbs : Int) * e * b := by grind
    rw [e1]
    exact Int.dvd_add (Int.dvd_mul_of_dvd_left h) (Int.dvd_mul_of_dvd_left hw2)
theorem mem_rows {m : Int} : ∀ (ns : List Int) (hss : List (List Int)) (qs : List (Int)), qs ∈ ns.foldl (fun hss n => crossW hss (wsC m n)) hss → ∃ hs ws, hs ∈ hss ∧ qs = hs ++ ws ∧ ws.length = ns.length ∧ ∀ (i : Nat) (w n : Int), ws[i]? = some w → ns[i]? = some n → w ∈ wsC m n
  | [], hss, qs, h => ⟨qs, [], h, by simp, rfl, fun i w n h => by simp at h⟩
  | n :: ns, hss, qs, h => by
    obtain ⟨hs, ws, h1, rfl, h3, h4⟩ := mem_rows ns _ qs h
    obtain ⟨hs0, h5, h6⟩ := List.mem_flatMap.mp h1
    obtain ⟨w, hw, rfl⟩ := List.mem_map.mp h6
    refine ⟨hs0, w :: ws, h5, by simp, by simp [h3], fun i x k hx hk => ?_⟩
    cases i with
    | zero =>
      simp only [List.getElem?_cons_zero, Option.some.injEq] at hx hk
      subst hx hk
      exact hw
    | succ i => exact h4 i x k (by simpa using hx) (by simpa using hk)
theorem rows_fit {ns ws : List Int} {m : Int} (h : ws ∈ rowsW ns m) : FitW ns m ws := by
  obtain ⟨hs, vs, h1, rfl, h3, h4⟩ := mem_rows ns [[]] ws h
  obtain rfl := List.mem_singleton.mp h1
  rw [List.nil_append]
  refine ⟨h3, fun x hx => ?_, fun i x n hx hn => (mem_wsC.mp (h4 i x n hx hn)).2.2⟩
  obtain ⟨i, hi⟩ := List.getElem?_of_mem hx
  have li : i < ns.length := by rw [← h3]; exact (List.getElem?_eq_some_iff.mp hi).1
  have := mem_wsC.mp (h4 i x _ hi (List.getElem?_eq_getElem li))
  exact ⟨this.1, this.2.1⟩
/-- the modulus of a canonical row divides the greatest odd order -/
theorem canon_dvd {ns ws : List Int} {m e : Int} (one : ∀ n ∈ ns, 1 ≤ n) (E : ExpOk ns e) (m1 : 1 ≤ m) (mo : m % 2 = 1) (h : ws ∈ rowsW ns m) (g : gcdW m ws = 1) : e % m = 0 := by
  have F := rows_fit h
  have d := gcdW_dvd (d := m) (e := e) ws m (by omega) (Int.dvd_mul_right _ _) fun w hw => by
    obtain ⟨i, hi⟩ := List.getElem?_of_mem hw
    have li : i < ns.length := by rw [← F.len]; exact (List.getElem?_eq_some_iff.mp hi).1
    have hn := List.getElem?_eq_getElem li
    have f := Int.dvd_of_emod_eq_zero (F.fit i w _ hi hn)
    have n1 := one _ (List.mem_of_getElem? hn)
    obtain ⟨⟨k, hk⟩, _⟩ := oddI_ok n1
    rw [hk, show w * (2 ^ k * oddI ns[i]) = 2 ^ k * (w * oddI ns[i]) by grind] at f
    have f2 := odd_pow2 mo k f
    exact Int.dvd_trans f2 (Int.mul_dvd_mul (Int.dvd_refl _) (E.all _ (List.mem_of_getElem? hn)))
  rw [g, Int.one_mul] at d
  exact Int.emod_eq_zero_of_dvd d
/-! explained games -/
abbrev W3 : Type := Int × List Int × Int
def explM (ns : List Int) (m r : Int) (ws : List Int) : List Int → List (List Int × Bool) → Bool
  | _, [] => true
  | p, c :: ms => (decide (wsum ws (shiftL ns p c.1 1) % m = r) == c.2) && explM ns m r ws (shiftL ns p c.1 (sgD c.2)) ms
def explB (ns p : List Int) (ms : List (List Int × Bool)) (w : W3) : Bool := decide (wsum w.2.1 p % w.1 ≠ w.2.2) && explM ns w.1 w.2.2 w.2.1 p ms
def resL (m : Int) (ws : List Int) : List W3 := (List.range m.toNat).map fun (r : Nat) => (m, ws, (r : Int))
def witsM (ns p : List Int) (ms : List (List Int × Bool)) (m : Int) : List W3 := (((rowsW ns m).filter (canonB m)).flatMap (resL m)).filter (explB ns p ms)
def oddsTo (k : Nat) : List Int := (List.range k).map fun (i : Nat) => 3 + (i : Int) * 2
def consL (ns p : List Int) (ms : List (List Int × Bool)) : List W3 := ((oddsTo ((expoL ns - 1) / 2).toNat).filter fun m => decide (expoL ns % m = 0)).flatMap (witsM ns p ms)
def dueL (ns p : List Int) (ms : List (List Int × Bool)) : List W3 := (oddsTo 22).flatMap (witsM ns p ms)
theorem wits_nil {ns p : List Int} {ms : List (List Int × Bool)} {m : Int} (one : ∀ n ∈ ns, 1 ≤ n) (m1 : 1 ≤ m) (mo : m % 2 = 1) (h : expoL ns % m ≠ 0) : witsM ns p ms m = [] := by
  have e : (rowsW ns m).filter (canonB m) = [] := by
    rw [List.filter_eq_nil_iff]
    intro ws hw hc
    unfold canonB at hc
    rw [Bool.and_eq_true, decide_eq_true_iff] at hc
    exact h (canon_dvd one (expo_ok one) m1 mo hw hc.1)
  unfold witsM
  rw [e]
  rfl
theorem flat_filter {α β : Type} {f : α → List β} {c : α → Bool} : ∀ {l : List α}, (∀ a ∈ l, c a = false → f a = []) → (l.filter c).flatMap f = l.flatMap f
  | [], _ => rfl
  | a :: l, h => by
    have ih := flat_filter fun b hb => h b (List.mem_cons_of_mem _ hb)
    cases e : c a with
    | true => rw [List.filter_cons_of_pos e, List.flatMap_cons, List.flatMap_cons, ih]
    | false => rw [List.filter_cons_of_neg (by simp [e]), List.flatMap_cons, h a List.mem_cons_self e, List.nil_append, ih]
theorem cons_due {ns p : List Int} {ms : List (List Int × Bool)} (one : ∀ n ∈ ns, 1 ≤ n) (pr : prodL ns ≤ 45) : consL ns p ms = dueL ns p ms := by
  have E := expo_ok one
  have e1 := E.one
  have e45 : expoL ns ≤ 45 := Int.le_trans (Int.le_of_dvd (by have := prodL_pos one; omega) E.dvd) pr
  have nil : ∀ i : Nat, expoL ns % (3 + (i : Int) * 2) ≠ 0 → witsM ns p ms (3 + (i : Int) * 2) = [] := fun i h => wits_nil one (by omega) (by omega) h
  unfold consL dueL
  rw [flat_filter fun m hm hc => by
    obtain ⟨i, _, rfl⟩ := List.mem_map.mp hm
    exact nil i (by simpa using hc)]
  have key : ∀ k : Nat, ((expoL ns - 1) / 2).toNat ≤ k → (oddsTo ((expoL ns - 1) / 2).toNat).flatMap (witsM ns p ms) = (oddsTo k).flatMap (witsM ns p ms) := by
    intro k
    induction k with
    | zero =>
      intro h
      rw [Nat.le_zero.mp h]
    | succ k ih =>
      intro h
      by_cases c : ((expoL ns - 1) / 2).toNat = k + 1
      · rw [c]
      · rw [ih (by omega)]
        unfold oddsTo
        rw [List.range_succ, List.map_append, List.flatMap_append]
        have : expoL ns % (3 + (k : Int) * 2) ≠ 0 := by
          rw [Int.emod_eq_of_lt (by omega) (by omega)]
          omega
        simp only [List.map_cons, List.map_nil, List.flatMap_cons, List.flatMap_nil, List.append_nil]
        rw [nil k this, List.append_nil]
  exact key 22 (by omega)

theorem rgc_div {g s : Int} (g1 : 1 ≤ g) (s1 : 1 ≤ s) (h : g * s ≤ 1000000) : RgC 0 (g * s) s g.toNat := by
  have e : Builtin.Range.rangeSize 0 (g * s) s = g := by
    unfold Builtin.Range.rangeSize
    have gs : 0 < g * s := by
      have := Int.mul_le_mul g1 s1 (by decide) (by omega)
      omega
    rw [if_pos (by omega), if_pos gs, show g * s - 0 - 1 = (s - 1) + (g - 1) * s by grind, Int.add_mul_ediv_right _ _ (by omega), Int.ediv_eq_zero_of_lt (by omega) (by omega)]
    omega
  have gs0 : 0 ≤ g * s := Int.mul_nonneg (by omega) (by omega)
  have sl : s ≤ g * s := by
    have : 1 * s ≤ g * s := Int.mul_le_mul_of_nonneg_right g1 (by omega)
    omega
  have gl : g ≤ g * s := by
    have : g * 1 ≤ g * s := Int.mul_le_mul_of_nonneg_left s1 (by omega)
    omega
  refine ⟨by omega, by omega, ?_, by rw [e]; omega⟩
  unfold Builtin.Range.small
  rw [e]
  simp only [Builtin.Range.rangeFitsLong, Bool.and_eq_true, Bool.or_eq_true, decide_eq_true_eq, beq_iff_eq]
  generalize g * s = m at *
  rw [if_pos (show s > 0 by omega)]
  refine ⟨by omega, .inr ?_⟩
  rw [Bool.and_eq_true, decide_eq_true_iff, decide_eq_true_iff]
  omega
theorem crossW_snoc (hss : List (List Int)) (hs ws : List Int) : crossW (hss ++ [hs]) ws = crossW hss ws ++ ws.map fun w => hs ++ [w] := by
  unfold crossW
  rw [List.flatMap_append]
  simp
theorem crossW_len (ws : List Int) : ∀ hss : List (List Int), (crossW hss ws).length = hss.length * ws.length
  | [] => by simp [crossW]
  | hs :: hss => by
    have ih := crossW_len ws hss
    unfold crossW at ih ⊢
    rw [List.flatMap_cons, List.length_append, ih, List.length_map, List.length_cons, Nat.succ_mul]
    omega
theorem rowsW_snoc (ns : List Int) (n m : Int) : rowsW (ns ++ [n]) m = crossW (rowsW ns m) (wsC m n) := by
  unfold rowsW
  rw [List.foldl_append]
  rfl
theorem wsC_len {m n : Int} (m1 : 1 ≤ m) : (wsC m n).length = Int.gcd m n := by
  rw [← step_list m1, List.length_map, List.length_range]
theorem rowsW_len {m : Int} (m1 : 1 ≤ m) : ∀ ns : List Int, (∀ n ∈ ns, 1 ≤ n) → ((rowsW ns m).length : Int) ≤ prodL ns := by
  have key : ∀ (ns : List Int), (∀ n ∈ ns, 1 ≤ n) → ∀ hss : List (List Int), ((ns.foldl (fun hss n => crossW hss (wsC m n)) hss).length : Int) ≤ hss.length * prodL ns := by
    intro ns
    induction ns with
    | nil =>
      intro _ hss
      show (hss.length : Int) ≤ hss.length * 1
      omega
    | cons n ns ih =>
      intro o hss
      have n1 := o n List.mem_cons_self
      have h := ih (fun x hx => o x (List.mem_cons_of_mem _ hx)) (crossW hss (wsC m n))
      have gl : ((Int.gcd m n : Nat) : Int) ≤ n := Int.le_of_dvd (by omega) (Int.gcd_dvd_right ..)
      rw [crossW_len, wsC_len m1, Int.natCast_mul] at h
      rw [List.foldl_cons, prodL_cons]
      have p1 := prodL_pos fun x hx => o x (List.mem_cons_of_mem _ hx)
      refine Int.le_trans h ?_
      rw [Int.mul_assoc]
      exact Int.mul_le_mul_of_nonneg_left (Int.mul_le_mul_of_nonneg_right gl (by omega)) (by omega)
  intro ns o
  have := key ns o [[]]
  unfold rowsW
  simpa using this
theorem rowsW_four {ns ws : List Int} {m : Int} (h : ws ∈ rowsW ns m) : ws.length = ns.length := (rows_fit h).len

-- tupleorder
theorem lex_le : ∀ (i : Nat) (xs ys : List Int) (ns ms : List Int), xs.length = ys.length → (∀ j, ns.getD (i + j) 0 = xs.getD j 0) → (∀ j, ms.getD (i + j) 0 = ys.getD j 0) → Ob.lexAt (fun j => decide (ns.getD j 0 = ms.getD j 0)) (fun j => decide (ns.getD j 0 ≤ ms.getD j 0)) true i xs.length = decide (xs ≤ ys)
  | i, [], [], ns, ms, _, _, _ => by
    show true = _
    exact (decide_eq_true (List.le_refl _)).symm
  | i, x :: xs, y :: ys, ns, ms, l, hx, hy => by
    rw [List.length_cons, Ob.lexAt_succ]
    have h0 := hx 0
    have h1 := hy 0
    simp only [Nat.add_zero, List.getD_cons_zero] at h0 h1
    have ih := lex_le (i + 1) xs ys ns ms (Nat.succ.inj l) (fun j => by rw [Nat.add_assoc, Nat.add_comm 1 j, hx (j + 1), List.getD_cons_succ]) (fun j => by rw [Nat.add_assoc, Nat.add_comm 1 j, hy (j + 1), List.getD_cons_succ])
    rw [h0, h1, ih]
    by_cases e : x = y
    · subst e
      rw [if_pos (by simp)]
      refine decide_eq_decide.mpr ?_
      rw [← List.not_lt, ← List.not_lt, List.cons_lt_cons_iff]
      simp
    · rw [if_neg (by simpa using e)]
      refine decide_eq_decide.mpr ?_
      rw [← List.not_lt, List.cons_lt_cons_iff]
      constructor
      · rintro h (h2 | ⟨h2, _⟩)
        · omega
        · exact e h2.symm
      · intro h
        refine Classical.byContradiction fun z => h (.inl (by omega))
theorem lexT (ns ms : List Int) (l : ns.length = ms.length) : Ob.lexAt (fun j => decide (ns.getD j 0 = ms.getD j 0)) (fun j => decide (ns.getD j 0 ≤ ms.getD j 0)) (decide (ns.length ≤ ms.length)) 0 (min ns.length ms.length) = decide (ns ≤ ms) := by
  rw [decide_eq_true (show ns.length ≤ ms.length by omega), show min ns.length ms.length = ns.length by omega]
  exact lex_le 0 ns ms ns ms l (fun j => by rw [Nat.zero_add]) (fun j => by rw [Nat.zero_add])

section
variable {P : Program} {w : World} {K : PySem.W.Frag} {mg : Str → Option Value} {base : Heap}
def sp_common_exponent : Sp := fun vs H Q _ => ∃ (a : Addr) (ns : List Int), vs = [.ref a] ∧ H a = some (.tup (ns.map V.int)) ∧ SzOk ns ∧ prodL ns ≤ 300 ∧ Q (.int (expoL ns)) H
theorem ok_common_exponent (T : TX K mg) : FnOk P w K mg base CX0 2 T.f_common_exponent T.fd_common_exponent ["sizes"] sp_common_exponent := by
  refine T.F_common_exponent.ok sc_common_exponent (fun vs H Q E h => ?_) (fun cdv A outer s H vs Q E hr h => ?_)
  · obtain ⟨a, ns, rfl, _⟩ := h
    rfl
  · obtain ⟨a, ns, rfl, ha, ok, pr, k⟩ := h
    refine ⟨_, (pss_cons (ps_set (i := 1) sc_common_exponent.nd rfl (Or.inl rfl) pe_int) (pss_cons (ps_for PassesOwn.never rfl (pi_tup (pv 0)) (pg_name (i := 2) sc_common_exponent.nd rfl (Or.inl rfl)) (pss_cons (ps_set (i := 3) sc_common_exponent.nd rfl (Or.inl rfl) (pe_op op_fdivW (pv 2) (pe_op op_and (pv 2) (pe_un un_neg (pv 2))))) (pss_one (ps_set (i := 1) sc_common_exponent.nd rfl (Or.inl rfl) (pe_op op_fdivW (pe_op op_mulI (pv 1) (pv 3)) (pe_call (ok_greatest_common_divisor T) hr rfl T.m_greatest_common_divisor T.F_greatest_common_divisor.kp T.b_greatest_common_divisor .nil pass0 (pa_cons (pv 1) (pa_cons (pv 3) pa_nil)))))))) (pss_one (ps_ret (pv 1))))), ?_⟩
    refine ⟨_, rfl, a, rfl, ⟨_, SqT.of ha⟩, ?_⟩
    refine for_it (walk_tup (xs := ns.map V.int)) (fun i σ Hx => (∃ y2 y3 : Option V, σ = [some (.ref a), some (.int (expoL (ns.take i))), y2, y3]) ∧ Hx = H) ⟨⟨_, _, rfl⟩, rfl⟩ (fun i σ Hx _ q => SqT.of (q.2 ▸ ha)) ?_ ?_
    · rintro i x σ _ Hx hi ⟨⟨y2, y3, rfl⟩, rfl⟩ ⟨rfl, hx⟩
      obtain ⟨n, hn, rfl⟩ := map_get hx
      have n1 := ok.one n (List.mem_of_getElem? hn)
      have nl := mul_le_of_mem ok.one (List.mem_of_getElem? hn)
      obtain ⟨⟨j, hj⟩, o1, o2, o3⟩ := oddI_ok n1
      have ea : oddI n = 2 * (oddI n / 2) + 1 := by omega
      have eb : Builtin.bitAnd n (-n) = 2 ^ j := by
        have := PySem.W.kbt_low j (oddI n / 2)
        rw [← ea, ← hj] at this
        exact this
      have p0 : (0 : Int) < 2 ^ j := Int.pow_pos (by decide)
      have pl : (2 : Int) ^ j ≤ n := by
        have := Int.mul_le_mul_of_nonneg_left (show 1 ≤ oddI n by omega) (show 0 ≤ (2 : Int) ^ j by omega)
        omega
      have e2 : n / Builtin.bitAnd n (-n) = oddI n := by
        rw [eb]
        conv => lhs; lhs; rw [hj]
        exact Int.mul_ediv_cancel_left _ (by omega)
      have E1 := expo_ok (ns := ns.take i) fun m hm => ok.one m (List.mem_of_mem_take hm)
      have e1 := E1.one
      have eP : expoL (ns.take i) ≤ 300 := by
        have h1 := Int.le_of_dvd (by have := prodL_pos (ns := ns.take i) fun m hm => ok.one m (List.mem_of_mem_take hm); omega) E1.dvd
        have h2 := prodL_take i ok.one
        omega
      have st : expoL (ns.take (i + 1)) = stepE (expoL (ns.take i)) n := by
        rw [take_more hn]
        unfold expoL
        rw [List.foldl_append]
        rfl
      dsimp only [gName]
      have pj : (2 : Int) ^ j ≤ 300 := by omega
      refine ⟨_, rfl, _, rfl, _, rfl, _, rfl, _, _, rfl, rfl, _, _, rfl, rfl, ?_, ?_⟩
      · rw [eb]
        exact wide_div (b := 9) (by omega) (show ((2 : Int) ^ j).natAbs < 2 ^ 9 by show _ < 512; omega) (by decide) (by decide)
      dsimp only [gName]
      rw [e2]
      have g1 : 1 ≤ Int.gcd (expoL (ns.take i)) (oddI n) := Int.gcd_pos_of_ne_zero_left _ (by omega)
      have g2 : ((Int.gcd (expoL (ns.take i)) (oddI n) : Nat) : Int) ≤ oddI n := Int.le_of_dvd (by omega) (Int.gcd_dvd_right ..)
      refine ⟨_, rfl, _, rfl, _, _, rfl, rfl, ?_, _, rfl, _, rfl, _, _, rfl, by omega, by omega, _, _, rfl, rfl, ?_, ⟨_, _, by rw [st]; rfl⟩, rfl⟩
      · exact (wide_mul (a := 40) (b := 40) (show (expoL (ns.take i)).natAbs < 2 ^ 40 by show _ < 1099511627776; omega) (show (oddI n).natAbs < 2 ^ 40 by show _ < 1099511627776; omega) (by decide) (by decide) (by decide)).ok
      · refine wide_div (b := 9) ?_ (show (gcdI (expoL (ns.take i)) (oddI n)).natAbs < 2 ^ 9 by show Int.gcd (expoL (ns.take i)) (oddI n) < 512; omega) (by decide) (by decide)
        show (0 : Int) < ((Int.gcd (expoL (ns.take i)) (oddI n) : Nat) : Int)
        omega
    rintro σ Hx ⟨⟨y2, y3, rfl⟩, rfl⟩
    have e : ns.take (ns.map V.int).length = ns := by rw [List.length_map, List.take_length]
    rw [e]
    exact ⟨_, rfl, k⟩
def sp_weight_rows : Sp := fun vs H Q _ => ∃ (a : Addr) (ns : List Int) (m : Int), vs = [.ref a, .int m] ∧ H a = some (.tup (ns.map V.int)) ∧ SzOk ns ∧ prodL ns ≤ 300 ∧ 1 ≤ m ∧ m ≤ 300 ∧ ∀ q H2, Ex H H2 → H q = none → RowsAt H2 q (rowsW ns m) → Q (.ref q) H2
theorem ok_weight_rows (T : TX K mg) : FnOk P w K mg base CX0 2 T.f_weight_rows T.fd_weight_rows ["sizes", "modulus"] sp_weight_rows := by
  refine T.F_weight_rows.ok sc_weight_rows (fun vs H Q E h => ?_) (fun cdv A outer s H vs Q E hr h => ?_)
  · obtain ⟨a, ns, m, rfl, _⟩ := h
    rfl
  · obtain ⟨a, ns, m, rfl, ha, ok, pr, m1, m3, k⟩ := h
    refine ⟨_, (pss_cons (ps_set (i := 2) sc_weight_rows.nd rfl (Or.inl rfl) (pe_lst (pa_cons (pe_tup pa_nil) pa_nil))) (pss_cons (ps_for PassesOwn.never rfl (pi_tup (pv 0)) (pg_name (i := 3) sc_weight_rows.nd rfl (Or.inl rfl)) (pss_cons (ps_set (i := 4) sc_weight_rows.nd rfl (Or.inr rfl) (pe_op op_fdivW (pv 1) (pe_call (ok_greatest_common_divisor T) hr rfl T.m_greatest_common_divisor T.F_greatest_common_divisor.kp T.b_greatest_common_divisor .nil pass0 (pa_cons (pv 1) (pa_cons (pv 3) pa_nil))))) (pss_one (ps_setLc2 (own := [("start", 5), ("weight", 6)]) (g := (gName 5)) (g1 := (gName 6)) (vs1 := [6]) (i := 2) rfl sc_weight_rows.nd rfl rfl (sw_true rfl rfl rfl (by decide +kernel)) (pi_list (pv 2)) (blkOk_by (N := N_weight_rows) (sc := defScope s_weight_rows) (by decide +kernel)) (by decide) (fun _ _ _ _ _ => (pg_name (i := 5) sc_weight_rows.nd rfl (Or.inl rfl))) (fun _ _ _ _ _ => pts_nil) (fun _ _ _ _ _ => (pi_range3 rfl T.z_range (pa_cons pe_int (pa_cons (pv 1) (pa_cons (pv 4) pa_nil))))) (fun _ _ _ _ _ => (pg_name (i := 6) sc_weight_rows.nd rfl (Or.inl rfl))) (fun _ _ _ _ _ => pts_nil) (fun _ _ _ _ _ => (pe_op (r := rCatA K) op_catA (pv 5) (pe_tup (pa_cons (pv 6) pa_nil)))))))) (pss_one (ps_ret (pv 2))))), ?_⟩
    have l4 := ok.le
    refine ⟨by show 0 ≤ sizeLine; decide, fun u hu => ⟨by show 1 ≤ sizeLine; decide, fun f hf => ?_⟩⟩
    have e2 : Ex H (upd (upd H u (.tup [])) f (.lst [.ref u])) := ext (exn hu) (exn hf)
    have f0 : H f = none := Evl.fresh_back (exn hu) hf
    refine ⟨_, rfl, a, rfl, ⟨_, SqT.of (e2 _ _ ha)⟩, ?_⟩
    refine for_it (walk_tup (xs := ns.map V.int)) (fun i σ H2 => ∃ (f : Addr) (y1 y2 y3 y4 : Option V), σ = [some (.ref a), some (.int m), some (.ref f), y1, y2, y3, y4] ∧ Ex H H2 ∧ H f = none ∧ RowsAt H2 f (rowsW (ns.take i) m)) ⟨_, _, _, _, _, rfl, e2, f0, _, upd_same, .cons ⟨u, rfl, by rw [upd_ne (ne_of_none upd_same hf)]; exact upd_same⟩ .nil⟩ (fun i σ Hx _ ⟨_, _, _, _, _, _, e, _⟩ => SqT.of (e _ _ ha)) ?_ ?_
    · rintro i x σ _ H4 hi ⟨f, y1, y2, y3, y4, rfl, e4, f0, ra⟩ ⟨rfl, hx⟩
      obtain ⟨n, hn, rfl⟩ := map_get hx
      have n1 := ok.one n (List.mem_of_getElem? hn)
      have o1 : ∀ k ∈ ns.take i, 1 ≤ k := fun k hk => ok.one k (List.mem_of_mem_take hk)
      have len : ((rowsW (ns.take i) m).length : Int) ≤ 300 := by
        have h1 := rowsW_len m1 (ns.take i) o1
        have h2 := prodL_take i ok.one
        omega
      have rows : ∀ hs ∈ rowsW (ns.take i) m, hs.length ≤ 4 := fun hs hh => by
        rw [rowsW_four hh, List.length_take]
        omega
      have nx : rowsW (ns.take (i + 1)) m = crossW (rowsW (ns.take i) m) (wsC m n) := by rw [take_more hn, rowsW_snoc]
      obtain ⟨xs, ra5, rr⟩ := ra
      generalize hh : rowsW (ns.take i) m = hss at rr len rows nx
      have g1 : 1 ≤ Int.gcd m n := Int.gcd_pos_of_ne_zero_left _ (by omega)
      have gm : ((Int.gcd m n : Nat) : Int) ≤ m := Int.le_of_dvd (by omega) (Int.gcd_dvd_left ..)
      have hmul : gcdI m n * (m / gcdI m n) = m := Int.mul_ediv_cancel' (Int.gcd_dvd_left ..)
      have sl := step_list (n := n) m1
      have lw := wsC_len (n := n) m1
      dsimp only [gName]
      refine ⟨_, rfl, _, rfl, _, rfl, m, n, rfl, by omega, by omega, _, _, rfl, rfl, ?_, ?_⟩
      · refine wide_div (b := 9) ?_ (show (gcdI m n).natAbs < 2 ^ 9 by show Int.gcd m n < 512; omega) (by decide) (by decide)
        show (0 : Int) < ((Int.gcd m n : Nat) : Int)
        omega
      dsimp only [gName]
      have s1 : 1 ≤ m / gcdI m n := by
        refine Classical.byContradiction fun no => ?_
        have : gcdI m n * (m / gcdI m n) ≤ gcdI m n * 0 := Int.mul_le_mul_of_nonneg_left (by omega) (by show (0 : Int) ≤ ((Int.gcd m n : Nat) : Int); omega)
        omega
      generalize hs : m / gcdI m n = s at *
      refine ⟨_, rfl, f, rfl, ⟨_, SqL.of ra5⟩, fun D hD => ?_⟩
      refine lc2_it (walk_list (xs := xs)) (fun j Hx => Ex H4 Hx ∧ RowsAt Hx D (crossW (hss.take j) (wsC m n))) ⟨exn hD, _, upd_same, .nil⟩ (fun j Hx _ q => SqL.of (q.1 _ _ ra5)) ?_ ?_
      · rintro j x _ H5 hj ⟨e5, rb⟩ ⟨rfl, hx⟩
        obtain ⟨ps, r, hhs, rfl, hr4⟩ := rr.get hx
        refine ⟨rfl, ?_⟩
        have rg : RgC 0 m s (Int.gcd m n) := by
          have := rgc_div (g := gcdI m n) (s := s) (by show (1 : Int) ≤ ((Int.gcd m n : Nat) : Int); omega) s1 (by rw [hmul]; omega)
          rw [hmul] at this
          exact this
        have lps := rows ps (List.mem_of_getElem? hhs)
        refine ⟨_, rfl, _, rfl, 0, m, s, Int.gcd m n, rfl, rg, ?_⟩
        refine in_it walk_rangeC (fun l Hx => Ex H4 Hx ∧ RowsAt Hx D (crossW (hss.take j) (wsC m n) ++ (List.range l).map fun (i : Nat) => ps ++ [(0 : Int) + (i : Int) * s])) ⟨e5, ?_⟩ (fun _ _ _ _ => True.intro) ?_ ?_
        · rw [List.range_zero, List.map_nil, List.append_nil]
          exact rb
        · rintro l x _ H7 hl ⟨e7, rc⟩ ⟨rfl, rfl⟩
          refine ⟨rfl, ?_⟩
          refine ⟨_, rfl, _, rfl, by show 1 ≤ sizeLine; decide, fun u hu => ?_⟩
          refine cat_row (exn hu _ _ (e7 _ _ hr4)) upd_same (Nat.le_trans lps (by decide)) fun v H8 e8 hv => ?_
          have e8' : Ex H7 H8 := ext (exn hu) e8
          obtain ⟨acc, b1, b2, b3⟩ := rows_push (rc.mono e8') hv
          refine ⟨acc, b1, ?_, ex_upd (ext e7 e8') hD, ?_⟩
          · rw [b2, List.length_append, crossW_len, List.length_map, List.length_range, List.length_take, lw]
            have : min j hss.length * Int.gcd m n ≤ 300 * 300 := Nat.mul_le_mul (by omega) (by omega)
            have hl' : l < Int.gcd m n := hl
            exact Nat.lt_of_le_of_lt (show _ ≤ 90300 by omega) (by decide)
          · rw [List.range_succ, List.map_append, ← List.append_assoc]
            exact b3
        · rintro Hz ⟨ez, rz⟩
          refine ⟨ez, ?_⟩
          have em : ((wsC m n).map fun w => ps ++ [w]) = (List.range (Int.gcd m n)).map fun (i : Nat) => ps ++ [(0 : Int) + (i : Int) * s] := by
            rw [← sl, List.map_map]
            rfl
          rw [take_more hhs, crossW_snoc, em]
          exact rz
      · rintro Hz ⟨ez, rz⟩
        rw [List.take_of_length_le (by have := Paired.length rr; omega)] at rz
        refine ⟨D, _, _, _, _, rfl, ext e4 ez, Evl.fresh_back e4 hD, ?_⟩
        rw [nx]
        exact rz
    · rintro σ H2 ⟨f, y1, y2, y3, y4, rfl, e, f0, ra⟩
      rw [List.take_of_length_le (by simp)] at ra
      exact ⟨_, rfl, k f H2 e f0 ra⟩
def sp_units_of : Sp := fun vs H Q _ => ∃ (m : Int), vs = [.int m] ∧ 1 ≤ m ∧ m ≤ 300 ∧ ∀ q H2, Ex H H2 → H2 q = some (.lst ((unitsL 2 m).map V.int)) → Q (.ref q) H2
theorem ok_units_of (T : TX K mg) : FnOk P w K mg base CX0 2 T.f_units_of T.fd_units_of ["modulus"] sp_units_of := by
  refine T.F_units_of.ok sc_units_of (fun vs H Q E h => ?_) (fun cdv A outer s H vs Q E hr h => ?_)
  · obtain ⟨m, rfl, _⟩ := h
    rfl
  · obtain ⟨m, rfl, m1, m3, k⟩ := h
    refine ⟨_, (pss_one (ps_ret (pe_lc (own := [("unit", 1)]) (g := (gName 1)) rfl sc_units_of.nd (pi_range2 rfl T.z_range (pa_cons pe_int (pa_cons (pv 0) pa_nil))) (blkOk_by (N := N_units_of) (sc := defScope s_units_of) (by decide +kernel)) (fun _ _ _ _ _ => (pg_name (i := 1) sc_units_of.nd rfl (Or.inl rfl))) (fun _ _ _ _ _ => (pts_one (pt_cmpR op_eq (pe_call (ok_greatest_common_divisor T) hr rfl T.m_greatest_common_divisor T.F_greatest_common_divisor.kp T.b_greatest_common_divisor .nil pass0 (pa_cons (pv 1) (pa_cons (pv 0) pa_nil))) pe_int (nomark _)))) (fun _ _ _ _ _ => (pv 1))))), ?_⟩
    refine ⟨_, rfl, 2, m, rfl, by omega, fun D hD => ?_⟩
    refine lc_filt walk_range ((List.range (m - 2).toNat).map fun (i : Nat) => (2 : Int) + (i : Int)) (fun u => decide (gcdI u m = 1)) V.int (by simp) (by omega) hD (fun _ _ => True.intro) ?_ ?_
    · rintro i x u Ha Hb R S hu ea ⟨e0, e1⟩ kR kS
      subst e0 e1
      rw [List.getElem?_map] at hu
      obtain ⟨j, hj, rfl⟩ := Option.map_eq_some_iff.mp hu
      obtain ⟨_, ej⟩ := List.getElem?_eq_some_iff.mp hj
      rw [List.getElem_range] at ej
      subst ej
      refine ⟨rfl, _, rfl, _, rfl, _, _, rfl, by omega, by omega, rfl, _, rfl, ?_⟩
      by_cases c : gcdI (2 + (i : Int)) m = 1
      · exact itt (decide_eq_true (congrArg V.int c)) ⟨_, rfl, kR _ _ exr (decide_eq_true c) rfl⟩
      · exact itf (decide_eq_false fun z => c (V.int.inj z)) (kS _ exr (decide_eq_false c))
    · intro H2 e2 hD2
      exact k D H2 e2 hD2
def sp_is_canonical : Sp := fun vs H Q _ => ∃ (m : Int) (u a : Addr) (ws : List Int), vs = [.int m, .ref u, .ref a] ∧ 1 ≤ m ∧ m ≤ 300 ∧ H u = some (.lst ((unitsL 2 m).map V.int)) ∧ H a = some (.tup (ws.map V.int)) ∧ ws.length ≤ 4 ∧ (∀ x ∈ ws, 0 ≤ x ∧ x < m) ∧ ∀ H2, Ex H H2 → Q (.bl (canonB m ws)) H2
theorem ok_is_canonical (T : TX K mg) : FnOk P w K mg base CX0 2 T.f_is_canonical T.fd_is_canonical ["modulus", "units", "weights"] sp_is_canonical := by
  refine T.F_is_canonical.ok sc_is_canonical (fun vs H Q E h => ?_) (fun cdv A outer s H vs Q E hr h => ?_)
  · obtain ⟨m, u, a, ws, rfl, _⟩ := h
    rfl
  · obtain ⟨m, u, a, ws, rfl, m1, m3, hu, ha, l4, wb, k⟩ := h
    refine ⟨_, (pss_cons (ps_set (i := 3) sc_is_canonical.nd rfl (Or.inl rfl) (pv 0)) (pss_cons (ps_for PassesOwn.never rfl (pi_tup (pv 2)) (pg_name (i := 4) sc_is_canonical.nd rfl (Or.inl rfl)) (pss_one (ps_set (i := 3) sc_is_canonical.nd rfl (Or.inl rfl) (pe_call (ok_greatest_common_divisor T) hr rfl T.m_greatest_common_divisor T.F_greatest_common_divisor.kp T.b_greatest_common_divisor .nil pass0 (pa_cons (pv 3) (pa_cons (pv 4) pa_nil)))))) (pss_one (ps_ret (pe_and (pe_cmpR op_eq (pv 3) pe_int (nomark _)) (pe_one (pe_callB (cr_all rfl) (by rfl) T.z_all (by decide +kernel) (pa_cons (pe_lc (own := [("unit", 5)]) (g := (gName 5)) rfl sc_is_canonical.nd (pi_list (pv 1)) (blkOk_by (N := N_is_canonical) (sc := defScope s_is_canonical) (by decide +kernel)) (fun _ _ _ _ _ => (pg_name (i := 5) sc_is_canonical.nd rfl (Or.inr rfl))) (fun _ _ _ _ _ => pts_nil) (fun _ _ _ _ _ => (pe_cmpR (r := rLeT K) (op_leT hr.units0) (pv 2) (pe_callTy (r := rTupleQ K) call_tuple_of (by rfl) T.z_tuple (by decide +kernel) (pa_cons (pe_lc (wi := iTup K _) (own := [("weight", 4)]) (g := (gName 4)) rfl sc_is_canonical.nd (pi_tup (pv 2)) (blkOk_by (N := N_is_canonical) rfl) (fun _ _ _ _ _ => (pg_name (i := 4) sc_is_canonical.nd rfl (Or.inl rfl))) (fun _ _ _ _ _ => pts_nil) (fun _ _ _ _ _ => (pe_op op_mod (pe_op op_mulI (pv 5) (pv 4)) (pv 0)))) pa_nil)) (nomark _)))) pa_nil)))))))), ?_⟩
    refine ⟨_, rfl, _, rfl, ?_⟩
    refine ⟨a, rfl, ⟨_, SqT.of ha⟩, ?_⟩
    refine for_it (walk_tup (xs := ws.map V.int)) (fun i σ Hx => (∃ y4 y5 : Option V, σ = [some (.int m), some (.ref u), some (.ref a), some (.int (gcdW m (ws.take i))), y4, y5]) ∧ Hx = H) ⟨⟨_, _, rfl⟩, rfl⟩ (fun i σ Hx _ q => SqT.of (q.2 ▸ ha)) ?_ ?_
    · rintro i x σ _ Hx hi ⟨⟨y4, y5, rfl⟩, rfl⟩ ⟨rfl, hx⟩
      obtain ⟨n, hn, rfl⟩ := map_get hx
      have g0 := gcdW_nn (ws.take i) m (by omega)
      have n0 := (wb n (List.mem_of_getElem? hn)).1
      have st : gcdW m (ws.take (i + 1)) = gcdI (gcdW m (ws.take i)) n := by
        rw [take_more hn]
        unfold gcdW
        rw [List.foldl_append]
        rfl
      dsimp only [gName]
      exact ⟨_, rfl, _, rfl, _, _, rfl, g0, n0, ⟨_, _, by rw [st]; rfl⟩, rfl⟩
    rintro σ Hx ⟨⟨y4, y5, rfl⟩, rfl⟩
    rw [show ws.take (ws.map V.int).length = ws by rw [List.length_map, List.take_length]]
    have g0 := gcdW_nn ws m (by omega)
    have lun : (unitsL 2 m).length ≤ 300 := by
      refine Nat.le_trans (List.length_filter_le _ _) ?_
      rw [List.length_map, List.length_range]
      omega
    have ub : ∀ x ∈ unitsL 2 m, 0 ≤ x ∧ x < 300 := fun x hx => by
      obtain ⟨i, hi, rfl⟩ := List.mem_map.mp (List.mem_filter.mp hx).1
      have := List.mem_range.mp hi
      omega
    dsimp only
    refine ⟨_, rfl, rfl, _, rfl, ?_⟩
    by_cases g : gcdW m ws = 1
    rotate_left
    · refine itf (by rw [dec_int]; simpa using g) ?_
      have := k Hx exr
      unfold canonB at this
      rw [decide_eq_false g, Bool.false_and] at this
      exact this
    refine itt (by rw [dec_int]; simpa using g) ?_
    have ec : canonB m ws = ((unitsL 2 m).map fun x => decide (ws ≤ mulM x m ws)).all id := by
      unfold canonB
      rw [decide_eq_true g, Bool.true_and, List.all_map]
      rfl
    refine ⟨_, rfl, u, rfl, ⟨_, SqL.of hu⟩, fun D hD => ?_⟩
    refine lc_vals (walk_list (xs := (unitsL 2 m).map V.int)) (((unitsL 2 m).map fun x => decide (ws ≤ mulM x m ws)).map V.bl) (by simp) (by rw [List.length_map]; omega) hD (fun _ e => SqL.of (e _ _ hu)) ?_ gmono_name ?_
    · rintro i x Ha Hb R hi ea ⟨e0, hx⟩ kk
      subst e0
      obtain ⟨z, hz, rfl⟩ := map_get hx
      have zb := ub z (List.mem_of_getElem? hz)
      have hab := ea _ _ ha
      refine ⟨rfl, ?_⟩
      refine ⟨_, rfl, _, rfl, a, rfl, ⟨_, SqT.of hab⟩, fun D2 hD2 => ?_⟩
      refine lc_vals (walk_tup (xs := ws.map V.int)) ((mulM z m ws).map V.int) (by unfold mulM; simp) (by rw [List.length_map]; omega) hD2 (fun _ e => SqT.of (e _ _ hab)) ?_ gmono_name ?_
      · rintro j y Hc Hd R2 hj ec2 ⟨e1, hy⟩ kk2
        subst e1
        obtain ⟨v, hv, rfl⟩ := map_get hy
        have vb := wb v (List.mem_of_getElem? hv)
        refine ⟨rfl, ?_⟩
        refine ⟨_, rfl, _, rfl, _, _, rfl, rfl, ?_, _, rfl, _, _, rfl, rfl, by omega, kk2 _ _ exr ?_⟩
        · exact (wide_mul (a := 40) (b := 40) (show z.natAbs < 2 ^ 40 by show _ < 1099511627776; omega) (show v.natAbs < 2 ^ 40 by show _ < 1099511627776; omega) (by decide) (by decide) (by decide)).ok
        unfold mulM
        rw [List.getElem?_map, List.getElem?_map, hv]
        rfl
      intro He ee hDe
      refine ⟨D2, _, rfl, .inl ⟨SqL.of hDe, ?_⟩⟩
      (intro t2 nt2; generalize hGt2 : upd _ t2 _ = Hf; have eHf := exG hGt2 nt2; have ht2 := atG hGt2; clear hGt2)
      refine ⟨a, t2, ws, mulM z m ws, rfl, rfl, SqT.of ((ext ea (ext ee eHf)) _ _ ha), SqT.of ht2, ?_⟩
      rw [lexT _ _ (by unfold mulM; rw [List.length_map])]
      refine kk _ _ (ext ee eHf) ?_
      rw [List.getElem?_map, List.getElem?_map, hz]
      rfl
    intro H2 e2 hD2
    refine ⟨D, _, rfl, SqL.of hD2, ?_⟩
    rw [← ec]
    exact k H2 e2
def sp_explains (C : Addr) : Sp := fun vs H Q _ => ∃ (a v t : Addr) (q : Bool × Addr) (ns p : List Int) (ms : List (List Int × Bool)) (w3 : W3), vs = [.ref a, .ref v, .ref q.2, .ref t] ∧ TabAt C H a ns ∧ SzOk ns ∧ prodL ns ≤ 300 ∧ RowsAt H v (walkL ns p ms) ∧ SeatOk ns p ∧ MovQ H q ms ∧ ms.length ≤ 1000 ∧ (∀ c ∈ ms, c.1.length = ns.length) ∧ WitAt H t w3.1 w3.2.1 w3.2.2 ∧ 1 ≤ w3.1 ∧ w3.1 ≤ 300 ∧ FitW ns w3.1 w3.2.1 ∧ ∀ H2, Ex H H2 → Q (.bl (explB ns p ms w3)) H2
theorem ok_explains (T : TX K mg) : FnOk P w K mg base CX0 6 T.f_explains T.fd_explains ["table", "visited", "moves", "witness"] (sp_explains T.C_Table) := by
  refine T.F_explains.ok sc_explains (fun vs H Q E h => ?_) (fun cdv A outer s H vs Q E hr h => ?_)
  · obtain ⟨a, v, t, q, ns, p, ms, w3, rfl, _⟩ := h
    rfl
  · obtain ⟨a, v, t, q, ns, p, ms, ⟨m, ws, r⟩, rfl, tab, ok, pr, hv, skp, hq, lms, cl, ⟨wa, ht, hwa⟩, m1, m3, F, k⟩ := h
    refine ⟨_, (pss_cons (ps_asg (pv 3) (pg_tup rfl (pgs_cons (pg_name (i := 4) sc_explains.nd rfl (Or.inl rfl)) (pgs_cons (pg_name (i := 5) sc_explains.nd rfl (Or.inl rfl)) (pgs_cons (pg_name (i := 6) sc_explains.nd rfl (Or.inl rfl)) pgs_nil))))) (pss_cons (ps_if (pt_cmpR op_eq (pe_call (ok_weighted T) (hr.mono (by decide)) rfl T.m_weighted T.F_weighted.kp T.b_weighted .nil pass0 (pa_cons (pv 4) (pa_cons (pv 5) (pa_cons (pe_ix ix_list (pv 1) pe_int (fun _ _ => rfl)) pa_nil)))) (pv 6) (nomark _)) (pss_one (ps_ret pe_bl)) pss_nil) (pss_cons (ps_for PassesOwn.never rfl (CE.pi_e rfl T.z_enumerate (pa_cons (pv 2) pa_nil)) (pg_tup rfl (pgs_cons (pg_name (i := 7) sc_explains.nd rfl (Or.inl rfl)) (pgs_cons (pg_tup rfl (pgs_cons (pg_name (i := 8) sc_explains.nd rfl (Or.inl rfl)) (pgs_cons (pg_name (i := 9) sc_explains.nd rfl (Or.inl rfl)) pgs_nil))) pgs_nil))) (pss_cons (ps_set (i := 10) sc_explains.nd rfl (Or.inl rfl) (pe_ix ix_tup (pe_meth (pv 0) T.cl_Table T.me_Table_moves (ok_Table_moves T) hr T.b_Table_moves .nil pass0 (pa_cons (pe_ix ix_list (pv 1) (pv 7) (fun _ _ => rfl)) (pa_cons (pv 8) pa_nil))) pe_int (fun _ _ => rfl))) (pss_one (ps_if (pt_cmpR op_ne (pe_cmpR op_eq (pe_call (ok_weighted T) (hr.mono (by decide)) rfl T.m_weighted T.F_weighted.kp T.b_weighted .nil pass0 (pa_cons (pv 4) (pa_cons (pv 5) (pa_cons (pv 10) pa_nil)))) (pv 6) (nomark _)) (pe_cmpR op_eq (pv 9) pe_str (nomark _)) (nomark _)) (pss_one (ps_ret pe_bl)) pss_nil)))) (pss_one (ps_ret pe_bl))))), ?_⟩
    have l4 := ok.le
    refine ⟨_, rfl, t, _, rfl, SqT.of ht, rfl, _, _, rfl, _, _, rfl, _, _, rfl, rfl, ?_⟩
    obtain ⟨xs, hx0, rx⟩ := id hv
    obtain ⟨us, hqs, rm⟩ := id hq
    have lx : xs.length = ms.length + 1 := rx.len.trans (walk_len _ _ _)
    have lu : us.length = ms.length := rm.len
    have wb : ∀ x ∈ ws, x.natAbs < 2 ^ 5000 := fun x hx => by
      have := F.w0 x hx
      exact Nat.lt_of_lt_of_le (show x.natAbs < 2 ^ 9 by show _ < 512; dsimp only at m3; omega) (Nat.pow_le_pow_right (by decide) (by decide))
    have pb : ∀ z : List Int, SeatOk ns z → ∀ x ∈ z, x.natAbs < 2 ^ 5000 := fun z sz x hx => by
      have := seat_lt (fun n hn => by have := mul_le_of_mem ok.one hn; omega) sz x hx
      exact Nat.lt_of_lt_of_le (show x.natAbs < 2 ^ 9 by show _ < 512; omega) (Nat.pow_le_pow_right (by decide) (by decide))
    have wget : ∀ i, i ≤ ms.length → (walkL ns p ms)[i]? = some (posL ns p (ms.take i)) := fun i hi => by
      unfold walkL
      rw [List.getElem?_map, List.getElem?_range (by omega)]
      rfl
    have vget : ∀ i, i ≤ ms.length → ∃ r0, xs[i]? = some (.ref r0) ∧ H r0 = some (.tup ((posL ns p (ms.take i)).map V.int)) := fun i hi => by
      obtain ⟨v0, h0⟩ : ∃ v0, xs[i]? = some v0 := ⟨_, List.getElem?_eq_getElem (by omega)⟩
      obtain ⟨z, r0, hz, rfl, h1⟩ := rx.get h0
      rw [wget i hi] at hz
      obtain rfl := Option.some.inj hz
      exact ⟨r0, h0, h1⟩
    obtain ⟨r0, g0, g1⟩ := vget 0 (by omega)
    dsimp only
    refine ⟨_, rfl, _, rfl, _, rfl, v, _, _, _, rfl, rfl, SqL.of hx0, L2.atI_nat (j := 0) g0, m, wa, r0, ws, p, rfl, by dsimp only at m1; omega, hwa, g1, by rw [F.len, skp.len], by rw [skp.len]; exact l4, wb, pb p skp, fun H1 e1 => ?_⟩
    refine ⟨_, rfl, rfl, _, rfl, ?_⟩
    by_cases c0 : wsum ws p % m = r
    · refine itt (by show decide (V.int (wsum ws p % m) = V.int r) = true; rw [c0]; simp) ?_
      have := k H1 e1
      unfold explB at this
      rw [show (decide (wsum ws p % m ≠ r)) = false from decide_eq_false fun z => z c0, Bool.false_and] at this
      exact this
    refine itf (by show decide (V.int (wsum ws p % m) = V.int r) = false; rw [dec_int]; simpa using c0) ?_
    have ee : explB ns p ms (m, ws, r) = explM ns m r ws p ms := by
      unfold explB
      rw [decide_eq_true (show wsum ws p % m ≠ r from c0), Bool.true_and]
    rw [ee] at k
    dsimp only [tNext]
    refine ⟨_, rfl, q, rfl, ⟨_, (hqs.mono e1).sq⟩, ?_⟩
    refine for_it (CE.walk_e (xs := us)) (fun i σ Hx => (∃ y7 y8 y9 y10 : Option V, σ = [some (.ref a), some (.ref v), some (.ref q.2), some (.ref t), some (.int m), some (.ref wa), some (.int r), y7, y8, y9, y10]) ∧ Ex H Hx ∧ explM ns m r ws p ms = explM ns m r ws (posL ns p (ms.take i)) (ms.drop i)) ⟨⟨_, _, _, _, rfl⟩, e1, rfl⟩ (fun i σ Hx _ z => (hqs.mono z.2.1).sq) ?_ ?_
    · rintro i x σ H3 H4 hi ⟨⟨y7, y8, y9, y10, rfl⟩, e3, em⟩ ⟨Ta, x1, x2, rfl, hT, rfl, hx1, hx2⟩
      cases hx1
      obtain ⟨c, hci, mr, cr, rfl, hmr, hcr⟩ := paired_get rm hx2
      have il : i < ms.length := (List.getElem?_eq_some_iff.mp hci).1
      have e4 : Ex H (upd H3 Ta (.tup [.int (i : Nat), .ref mr])) := ext e3 (exn hT)
      have lc := cl c (List.mem_of_getElem? hci)
      obtain ⟨ri, gi, hi2⟩ := vget i (by omega)
      have skq : SeatOk ns (posL ns p (ms.take i)) := pos_ok ok.one skp fun d hd => cl d (List.mem_of_mem_take hd)
      have ed : ms.drop i = c :: ms.drop (i + 1) := by
        rw [List.drop_eq_getElem_cons il]
        congr 1
        have := List.getElem?_eq_getElem il
        rw [hci] at this
        exact (Option.some.inj this).symm
      have nx : posL ns p (ms.take (i + 1)) = shiftL ns (posL ns p (ms.take i)) c.1 (sgD c.2) := by
        rw [take_more hci, pos_snoc]
      refine ⟨Ta, _, rfl, SqT.of upd_same, rfl, _, _, rfl, _, _, rfl, mr, _, rfl, SqT.of (e4 _ _ hmr), rfl, _, _, rfl, _, _, rfl, rfl, rfl, ?_⟩
      dsimp only [gName]
      obtain ⟨dt, tt, gt1, gt2⟩ := id (tab.mono e4)
      refine ⟨_, rfl, a, dt, _, rfl, gt1, rfl, _, rfl, _, rfl, v, _, _, _, rfl, rfl, SqL.of (e4 _ _ hx0), L2.atI_nat gi, _, rfl, a, ri, cr, ns, posL ns p (ms.take i), c.1, rfl, tab.mono e4, ok, e4 _ _ hi2, e4 _ _ hcr, skq, lc, fun H5 qq f b e5 nqq nf nb hqq hf hb => ?_⟩
      refine ⟨qq, _, _, _, rfl, rfl, SqT.of hqq, rfl, ?_⟩
      have e6 : Ex H H5 := ext e4 e5
      have skf : SeatOk ns (shiftL ns (posL ns p (ms.take i)) c.1 1) := shift_seat ok.one skq.len lc
      dsimp only [gName]
      refine ⟨_, rfl, _, rfl, _, rfl, m, wa, f, ws, shiftL ns (posL ns p (ms.take i)) c.1 1, rfl, by dsimp only at m1; omega, e6 _ _ hwa, hf, by rw [F.len, skf.len], by rw [skf.len]; exact l4, wb, pb _ skf, fun H6 e7 => ?_⟩
      have e8 := ext e6 e7
      refine ⟨_, rfl, rfl, _, rfl, rfl, rfl, _, rfl, ?_⟩
      have est : explM ns m r ws p ms = ((decide (wsum ws (shiftL ns (posL ns p (ms.take i)) c.1 1) % m = r) == c.2) && explM ns m r ws (posL ns p (ms.take (i + 1))) (ms.drop (i + 1))) := by
        rw [em, ed, nx]
        rfl
      have etest : (!decide (V.bl (decide (V.int (wsum ws (shiftL ns (posL ns p (ms.take i)) c.1 1) % m) = V.int r)) = V.bl (decide (V.str (dirS c.2) = V.str "backward")))) = !(decide (wsum ws (shiftL ns (posL ns p (ms.take i)) c.1 1) % m = r) == c.2) := by
        rw [show decide (V.int (wsum ws (shiftL ns (posL ns p (ms.take i)) c.1 1) % m) = V.int r) = decide (wsum ws (shiftL ns (posL ns p (ms.take i)) c.1 1) % m = r) from decide_eq_decide.mpr ⟨V.int.inj, congrArg V.int⟩]
        generalize decide (wsum ws (shiftL ns (posL ns p (ms.take i)) c.1 1) % m = r) = z
        cases z <;> cases c.2 <;> decide +kernel
      cases hz : (decide (wsum ws (shiftL ns (posL ns p (ms.take i)) c.1 1) % m = r) == c.2) with
      | true =>
        rw [hz, Bool.true_and] at est
        exact itf (etest.trans (by rw [hz]; rfl)) ⟨⟨_, _, _, _, rfl⟩, e8, est⟩
      | false =>
        rw [hz, Bool.false_and] at est
        have := k H6 e8
        rw [est] at this
        exact itt (etest.trans (by rw [hz]; rfl)) this
    rintro σ H3 ⟨⟨y7, y8, y9, y10, rfl⟩, e3, em⟩
    have := k H3 e3
    rw [em, List.drop_of_length_le (by omega)] at this
    exact this
end

def PdW (H : Hp) (v : V) (w3 : W3) : Prop := ∃ t, v = .ref t ∧ WitAt H t w3.1 w3.2.1 w3.2.2
theorem pdw_mono (H H2 : Hp) (v : V) (w3 : W3) (e : ∀ c xs, H c = some (.tup xs) → H2 c = some (.tup xs)) (h : PdW H v w3) : PdW H2 v w3 := by
  obtain ⟨t, rfl, wa, h1, h2⟩ := h
  exact ⟨t, rfl, wa, e _ _ h1, e _ _ h2⟩
theorem rgc_odd {n : Int} (n0 : 0 ≤ n) (h : n ≤ 300) : RgC 3 (n + 1) 2 ((n - 1) / 2).toNat := by
  have key : ∀ m : Fin 301, (Builtin.Range.small 3 ((m.val : Int) + 1) 2 && decide (Builtin.Range.rangeSize 3 ((m.val : Int) + 1) 2 = ((((m.val : Int) - 1) / 2).toNat : Int))) = true := by decide +kernel
  obtain ⟨k, rfl⟩ := Int.eq_ofNat_of_zero_le n0
  have q := key ⟨k, by omega⟩
  rw [Bool.and_eq_true, decide_eq_true_eq] at q
  exact ⟨by decide, by decide, q.1, q.2⟩
/-- a list of witnesses -/
def WsAt (H : Hp) (D : Addr) (L : List W3) : Prop := ∃ xs, H D = some (.lst xs) ∧ Paired (PdW H) xs L
theorem pdw_ex {H H2 : Hp} {v : V} {w3 : W3} (e : Ex H H2) (h : PdW H v w3) : PdW H2 v w3 := pdw_mono H H2 v w3 (fun _ _ z => e _ _ z) h
theorem WsAt.mono {H H2 : Hp} {D : Addr} {L : List W3} (e : Ex H H2) (h : WsAt H D L) : WsAt H2 D L := by
  obtain ⟨xs, h1, h2⟩ := h
  exact ⟨xs, e _ _ h1, paired_mono (fun _ _ q => pdw_ex e q) h2⟩
theorem wits_push {H : Hp} {D : Addr} {L : List W3} {v : V} {w3 : W3} (h : WsAt H D L) (hv : PdW H v w3) : ∃ acc, H D = some (.lst acc) ∧ acc.length = L.length ∧ WsAt (upd H D (.lst (acc ++ [v]))) D (L ++ [w3]) := by
  obtain ⟨xs, h1, h2⟩ := h
  have tp : ∀ c ys, H c = some (.tup ys) → upd H D (.lst (xs ++ [v])) c = some (.tup ys) := fun c ys z => by
    rw [upd_ne (ne_of z h1 (by intro z; cases z))]
    exact z
  exact ⟨xs, h1, Paired.length h2, _, upd_same, paired_snoc (pdw_mono _ _ _ _ tp hv) (paired_mono (fun _ _ q => pdw_mono _ _ _ _ tp q) h2)⟩
theorem paired_filt {α : Type} {R : V → α → Prop} (c : α → Bool) : ∀ {xs : List V} {as : List α}, Paired R xs as → Paired R (((xs.zip as).filter fun z => c z.2).map fun z => z.1) (as.filter c)
  | _, _, .nil => .nil
  | _, _, .cons (a := x) (b := a) q t => by
    have ih := paired_filt c t
    rw [List.zip_cons_cons]
    cases e : c a with
    | false =>
      rw [List.filter_cons_of_neg (by simp [e]), List.filter_cons_of_neg (by simp [e])]
      exact ih
    | true =>
      rw [List.filter_cons_of_pos (by simp [e]), List.filter_cons_of_pos (by simp [e])]
      exact .cons q ih
theorem paired_join {α : Type} {R : V → α → Prop} : ∀ {xs ys : List V} {as bs : List α}, Paired R xs as → Paired R ys bs → Paired R (xs ++ ys) (as ++ bs)
  | _, _, _, _, .nil, h => h
  | _, _, _, _, .cons q t, h => .cons q (paired_join t h)
theorem resL_len (m : Int) (ws : List Int) : (resL m ws).length = m.toNat := by
  unfold resL
  rw [List.length_map, List.length_range]
theorem flat_res_len {m : Int} : ∀ l : List (List Int), (l.flatMap (resL m)).length = l.length * m.toNat
  | [] => by simp
  | a :: l => by
    rw [List.flatMap_cons, List.length_append, flat_res_len l, resL_len, List.length_cons, Nat.succ_mul]
    omega
theorem wits_len {ns p : List Int} {ms : List (List Int × Bool)} {m : Int} (one : ∀ n ∈ ns, 1 ≤ n) (pr : prodL ns ≤ 300) (m1 : 1 ≤ m) (m3 : m ≤ 300) : (witsM ns p ms m).length ≤ 90000 := by
  unfold witsM
  refine Nat.le_trans (List.length_filter_le _ _) ?_
  rw [flat_res_len]
  have h1 := rowsW_len m1 ns one
  have h2 : ((rowsW ns m).filter (canonB m)).length ≤ (rowsW ns m).length := List.length_filter_le _ _
  exact Nat.mul_le_mul (show _ ≤ 300 by omega) (show _ ≤ 300 by omega)
theorem flat_le {α β : Type} {f : α → List β} {c : Nat} : ∀ {l : List α}, (∀ a ∈ l, (f a).length ≤ c) → (l.flatMap f).length ≤ l.length * c
  | [], _ => by simp
  | a :: l, h => by
    have ih := flat_le fun b hb => h b (List.mem_cons_of_mem _ hb)
    have h1 := h a List.mem_cons_self
    rw [List.flatMap_cons, List.length_append, List.length_cons, Nat.succ_mul]
    omega

section
variable {P : Program} {w : World} {K : PySem.W.Frag} {mg : Str → Option Value} {base : Heap}
def sp_consistent_witnesses (C : Addr) : Sp := fun vs H Q _ => ∃ (a s : Addr) (q : Bool × Addr) (ns p : List Int) (ms : List (List Int × Bool)), vs = [.ref a, .ref s, .ref q.2] ∧ TabAt C H a ns ∧ SzOk ns ∧ prodL ns ≤ 300 ∧ H s = some (.tup (p.map V.int)) ∧ SeatOk ns p ∧ MovQ H q ms ∧ ms.length ≤ 1000 ∧ (∀ c ∈ ms, c.1.length = ns.length) ∧
  ∀ (f : Addr) (zs : List V) H2, Ex H H2 → H f = none → H2 f = some (.lst zs) → Paired (PdW H2) zs (consL ns p ms) → Q (.ref f) H2
theorem ok_consistent_witnesses (T : TX K mg) : FnOk P w K mg base CX0 8 T.f_consistent_witnesses T.fd_consistent_witnesses ["table", "seat", "moves"] (sp_consistent_witnesses T.C_Table) := by
  refine T.F_consistent_witnesses.ok sc_consistent_witnesses (fun vs H Q E h => ?_) (fun cdv A outer s H vs Q E hr h => ?_)
  · obtain ⟨a, s, q, ns, p, ms, rfl, _⟩ := h
    rfl
  · obtain ⟨a, s, q, ns, p, ms, rfl, tab, ok, pr, hs, skp, hq, lms, cl, k⟩ := h
    refine ⟨_, (pss_cons (ps_expr (pe_call (ok_require_table T) (hr.mono (by decide)) rfl T.m_require_table T.F_require_table.kp T.b_require_table .nil pass0 (pa_cons (pv 0) pa_nil))) (pss_cons (ps_expr (pe_call (ok_require_seat T) (hr.mono (by decide)) rfl T.m_require_seat T.F_require_seat.kp T.b_require_seat .nil pass0 (pa_cons (pv 0) (pa_cons (pv 1) pa_nil)))) (pss_cons (ps_expr (pe_call (ok_require_moves T) (hr.mono (by decide)) rfl T.m_require_moves T.F_require_moves.kp T.b_require_moves .nil pass0 (pa_cons (pv 0) (pa_cons (pv 2) pa_nil)))) (pss_cons (ps_expr (pe_call (ok_require_small T) (hr.mono (by decide)) rfl T.m_require_small T.F_require_small.kp T.b_require_small .nil pass0 (pa_cons (pv 0) pa_nil))) (pss_cons (ps_set (i := 3) sc_consistent_witnesses.nd rfl (Or.inr rfl) (pe_call (ok_visited_seats T) hr rfl T.m_visited_seats T.F_visited_seats.kp T.b_visited_seats .nil pass0 (pa_cons (pv 0) (pa_cons (pv 1) (pa_cons (pv 2) pa_nil))))) (pss_cons (ps_set (i := 4) sc_consistent_witnesses.nd rfl (Or.inl rfl) (pe_call (ok_common_exponent T) (hr.mono (by decide)) rfl T.m_common_exponent T.F_common_exponent.kp T.b_common_exponent .nil pass0 (pa_cons (pe_meth0 (pv 0) T.cl_Table T.me_Table_sizes (ok_Table_sizes T) (hr.mono (by decide)) T.b_Table_sizes .nil pass0) pa_nil))) (pss_cons (ps_set (i := 5) sc_consistent_witnesses.nd rfl (Or.inl rfl) (pe_lst pa_nil)) (pss_cons (ps_for PassesOwn.never rfl (pi_range3 rfl T.z_range (pa_cons pe_int (pa_cons (pe_op op_add (pv 4) pe_int) (pa_cons pe_int pa_nil)))) (pg_name (i := 6) sc_consistent_witnesses.nd rfl (Or.inr rfl)) (pss_one (ps_if (pt_cmpR op_eq (pe_op op_mod (pv 4) (pv 6)) pe_int (nomark _)) (pss_cons (ps_set (i := 7) sc_consistent_witnesses.nd rfl (Or.inr rfl) (pe_call (ok_units_of T) (hr.mono (by decide)) rfl T.m_units_of T.F_units_of.kp T.b_units_of .nil pass0 (pa_cons (pv 6) pa_nil))) (pss_cons (ps_setLc (own := [("weights", 10)]) (g := (gName 10)) (i := 8) rfl sc_consistent_witnesses.nd rfl rfl (sw_true rfl rfl rfl (by decide +kernel)) (pi_list (pe_call (ok_weight_rows T) (hr.mono (by decide)) rfl T.m_weight_rows T.F_weight_rows.kp T.b_weight_rows .nil pass0 (pa_cons (pe_meth0 (pv 0) T.cl_Table T.me_Table_sizes (ok_Table_sizes T) (hr.mono (by decide)) T.b_Table_sizes .nil pass0) (pa_cons (pv 6) pa_nil)))) (blkOk_by (N := N_consistent_witnesses) (sc := defScope s_consistent_witnesses) (by decide +kernel)) (fun _ _ _ _ _ => (pg_name (i := 10) sc_consistent_witnesses.nd rfl (Or.inl rfl))) (fun _ _ _ _ _ => (pts_one (pt_val (pe_call (ok_is_canonical T) (hr.mono (by decide)) rfl T.m_is_canonical T.F_is_canonical.kp T.b_is_canonical .nil pass0 (pa_cons (pv 6) (pa_cons (pv 7) (pa_cons (pv 10) pa_nil))))))) (fun _ _ _ _ _ => (pv 10))) (pss_cons (ps_setLc2 (own := [("weights", 10), ("residue", 11)]) (g := (gName 10)) (g1 := (gName 11)) (vs1 := [11]) (i := 9) rfl sc_consistent_witnesses.nd rfl rfl (sw_true rfl rfl rfl (by decide +kernel)) (pi_list (pv 8)) (blkOk_by (N := N_consistent_witnesses) (sc := defScope s_consistent_witnesses) (by decide +kernel)) (by decide) (fun _ _ _ _ _ => (pg_name (i := 10) sc_consistent_witnesses.nd rfl (Or.inl rfl))) (fun _ _ _ _ _ => pts_nil) (fun _ _ _ _ _ => (pi_range1 rfl T.z_range (pa_cons (pv 6) pa_nil))) (fun _ _ _ _ _ => (pg_name (i := 11) sc_consistent_witnesses.nd rfl (Or.inl rfl))) (fun _ _ _ _ _ => pts_nil) (fun _ _ _ _ _ => (pe_tup (pa_cons (pv 6) (pa_cons (pv 10) (pa_cons (pv 11) pa_nil)))))) (pss_one (ps_expr (pe_bm PySem.F.plainAttrs_list PySem.F.slot_list_extend PySem.F.type_list_extend mt_extend (pv 5) (pa_cons (pe_lc (own := [("witness", 12)]) (g := (gName 12)) rfl sc_consistent_witnesses.nd (pi_list (pv 9)) (blkOk_by (N := N_consistent_witnesses) (sc := defScope s_consistent_witnesses) (by decide +kernel)) (fun _ _ _ _ _ => (pg_name (i := 12) sc_consistent_witnesses.nd rfl (Or.inl rfl))) (fun _ _ _ _ _ => (pts_one (pt_val (pe_call (ok_explains T) (hr.mono (by decide)) rfl T.m_explains T.F_explains.kp T.b_explains .nil pass0 (pa_cons (pv 0) (pa_cons (pv 3) (pa_cons (pv 2) (pa_cons (pv 12) pa_nil)))))))) (fun _ _ _ _ _ => (pv 12))) pa_nil))))))) pss_nil))) (pss_one (ps_ret (pv 5))))))))))), ?_⟩
    have l4 := ok.le
    refine ⟨_, rfl, a, ns, rfl, tab, ?_⟩
    refine ⟨_, rfl, _, rfl, a, _, ns, _, rfl, tab, l4, TupA.ints hs (by have := skp.len; omega), isSeat_ok skp, fun H1 e1 => ?_⟩
    refine ⟨_, rfl, _, rfl, a, q, ns, ms, rfl, tab.mono e1, l4, hq.mono e1, cl, fun H2 e2 => ?_⟩
    have E2 := ext e1 e2
    refine ⟨_, rfl, a, ns, rfl, tab.mono E2, ok, pr, ?_⟩
    refine ⟨_, rfl, _, rfl, _, rfl, a, s, q, ns, p, ms, rfl, tab.mono E2, ok, E2 _ _ hs, skp, hq.mono E2, by omega, cl, fun v H3 e3 nv rv => ?_⟩
    have E3 := ext E2 e3
    obtain ⟨dx, t, h1, h2⟩ := id (tab.mono E3)
    dsimp only [gName]
    refine ⟨_, rfl, a, dx, _, rfl, h1, rfl, a, dx, t, rfl, h1, t, ns, rfl, h2, ok, pr, ?_⟩
    dsimp only [gName]
    refine ⟨slen rfl, ?_⟩
    (intro fl nfl; generalize hGfl : upd _ fl _ = H4; have eH4 := exG hGfl nfl; have hfl := atG hGfl; clear hGfl)
    have E4 := ext E3 eH4
    have nfl0 : H fl = none := Evl.fresh_back E3 nfl
    have X := expo_ok ok.one
    have x1 := X.one
    have x3 : expoL ns ≤ 300 := Int.le_trans (Int.le_of_dvd (by have := prodL_pos ok.one; omega) X.dvd) pr
    generalize hx : expoL ns = e at x1 x3
    refine ⟨_, rfl, _, _, rfl, rfl, 3, e + 1, 2, _, rfl, rgc_odd (by omega) x3, ?_⟩
    let G : Nat → List W3 := fun i => ((oddsTo i).filter fun m => decide (e % m = 0)).flatMap (witsM ns p ms)
    have G_succ : ∀ i, G (i + 1) = G i ++ if e % (3 + (i : Int) * 2) = 0 then witsM ns p ms (3 + (i : Int) * 2) else [] := fun i => by
      show ((oddsTo (i + 1)).filter _).flatMap _ = ((oddsTo i).filter _).flatMap _ ++ _
      unfold oddsTo
      rw [List.range_succ, List.map_append, List.filter_append, List.flatMap_append]
      by_cases c : e % (3 + (i : Int) * 2) = 0
      · rw [if_pos c, List.map_singleton, List.filter_cons_of_pos (by simpa using c), List.filter_nil]
        simp
      · rw [if_neg c, List.map_singleton, List.filter_cons_of_neg (by simpa using c), List.filter_nil]
        simp
    have G_len : ∀ i, i ≤ 150 → (G i).length ≤ 150 * 90000 := fun i hi => by
      refine Nat.le_trans (flat_le (c := 90000) fun m hm => ?_) (Nat.mul_le_mul_right _ ?_)
      · obtain ⟨h1, h2⟩ := List.mem_filter.mp hm
        obtain ⟨j, hj, rfl⟩ := List.mem_map.mp h1
        have := List.mem_range.mp hj
        exact wits_len ok.one pr (by omega) (by have := Int.le_of_dvd (by omega) (Int.dvd_of_emod_eq_zero (of_decide_eq_true h2)); omega)
      · refine Nat.le_trans (List.length_filter_le _ _) ?_
        unfold oddsTo
        rw [List.length_map, List.length_range]
        exact hi
    refine for_it walk_rangeC (fun i σ Hx => (∃ y6 y7 y8 y9 y10 y11 y12 : Option V, σ = [some (.ref a), some (.ref s), some (.ref q.2), some (.ref v), some (.int e), some (.ref fl), y6, y7, y8, y9, y10, y11, y12]) ∧ Ex H3 Hx ∧ WsAt Hx fl (G i)) ⟨⟨_, _, _, _, _, _, _, rfl⟩, eH4, [], hfl, .nil⟩ (fun _ _ _ _ _ => True.intro) ?_ ?_
    · rintro i x σ _ Hx hi ⟨⟨y6, y7, y8, y9, y10, y11, y12, rfl⟩, ex, W⟩ ⟨rfl, rfl⟩
      have hi' : i < ((e - 1) / 2).toNat := hi
      have gs := G_succ i
      have gl := G_len i (by omega)
      generalize G i = L0 at W gs gl
      have m1 : 3 ≤ 3 + (i : Int) * 2 := by omega
      have m2 : 3 + (i : Int) * 2 ≤ 300 := by omega
      dsimp only [gName]
      generalize hm : 3 + (i : Int) * 2 = m at m1 m2 gs
      refine ⟨_, rfl, _, rfl, _, _, rfl, rfl, by omega, rfl, _, rfl, ?_⟩
      by_cases c : e % m = 0
      rotate_left
      · refine itf (by rw [dec_int]; simpa using c) ⟨⟨_, _, _, _, _, _, _, rfl⟩, ex, ?_⟩
        rw [gs, if_neg c, List.append_nil]
        exact W
      rw [if_pos c] at gs
      refine itt (by rw [dec_int]; simpa using c) ?_
      refine ⟨_, rfl, m, rfl, by omega, m2, fun u H5 e5 hu => ?_⟩
      dsimp only [gName]
      have ex5 := ext ex e5
      have E5 := ext E3 ex5
      have h15 := ex5 _ _ h1
      have h25 := ex5 _ _ h2
      have tab5 := tab.mono E5
      refine ⟨_, rfl, a, dx, _, rfl, h15, rfl, a, dx, t, rfl, h15, _, rfl, t, ns, m, rfl, h25, ok, pr, by omega, m2, fun rw H6 e6 nrw ⟨xs, hxs, rr⟩ => ?_⟩
      have lxs := rr.len
      have lrw := rowsW_len (m := m) (by omega) ns ok.one
      refine ⟨rw, rfl, ⟨_, SqL.of hxs⟩, fun D hD => ?_⟩
      refine lc_filt (walk_list (xs := xs)) (xs.zip (rowsW ns m)) (fun z => canonB m z.2) (fun z => z.1) (by rw [List.length_zip]; omega) (by omega) hD (fun _ ea => SqL.of (ea _ _ hxs)) ?_ ?_
      · rintro j x z Ha Hb R S hz ea ⟨e0, hx⟩ kR kS
        subst e0
        obtain ⟨hz1, hz2⟩ := List.getElem?_zip_eq_some.mp hz
        obtain ⟨ws, r, hw, rfl, hr2⟩ := rr.get hx
        have ez : z = (V.ref r, ws) := by
          rw [hx] at hz1
          rw [hw] at hz2
          exact Prod.ext (Option.some.inj hz1).symm (Option.some.inj hz2).symm
        subst ez
        have F := rows_fit (List.mem_of_getElem? hw)
        refine ⟨rfl, _, rfl, _, rfl, _, rfl, m, u, r, ws, rfl, by omega, m2, ea _ _ (e6 _ _ hu), ea _ _ hr2, by rw [F.len]; exact l4, F.w0, fun H7 e7 => ?_⟩
        cases hc : canonB m ws with
        | true => exact ⟨_, rfl, ⟨_, rfl, kR _ _ e7 hc rfl⟩⟩
        | false => exact ⟨_, rfl, kS _ e7 hc⟩
      intro H7 e7 hD7
      have rcan : RowsR H7 (((xs.zip (rowsW ns m)).filter fun z => canonB m z.2).map fun z => z.1) ((rowsW ns m).filter (canonB m)) := (RowsR.filt (canonB m) rr).mono e7
      generalize ((xs.zip (rowsW ns m)).filter fun z => canonB m z.2).map (fun z => z.1) = cv at hD7 rcan
      have fcan : ∀ ws ∈ (rowsW ns m).filter (canonB m), FitW ns m ws := fun ws hw => rows_fit (List.mem_filter.mp hw).1
      have lcan : ((rowsW ns m).filter (canonB m)).length ≤ 300 := by
        have : ((rowsW ns m).filter (canonB m)).length ≤ (rowsW ns m).length := List.length_filter_le _ _
        omega
      have ew : witsM ns p ms m = (((rowsW ns m).filter (canonB m)).flatMap (resL m)).filter (explB ns p ms) := rfl
      generalize (rowsW ns m).filter (canonB m) = cr at rcan fcan lcan ew
      have lcv := rcan.len
      have ex7 := ext ex5 (ext e6 e7)
      have W7 := W.mono (ext e5 (ext e6 e7))
      dsimp only [gName]
      refine ⟨_, rfl, D, rfl, ⟨_, SqL.of hD7⟩, fun D2 hD2 => ?_⟩
      refine lc2_it (walk_list (xs := cv)) (fun j Hy => Ex H7 Hy ∧ WsAt Hy D2 ((cr.take j).flatMap (resL m))) ⟨exn hD2, _, upd_same, .nil⟩ (fun j Hy _ q => SqL.of (q.1 _ _ hD7)) ?_ ?_
      · rintro j x _ H8 hj ⟨e8, wb⟩ ⟨rfl, hx⟩
        obtain ⟨ws, r, hws, rfl, hr4⟩ := rcan.get hx
        refine ⟨rfl, ?_⟩
        refine ⟨_, rfl, m, rfl, by omega, by omega, ?_⟩
        refine in_it walk_range (fun l Hy => Ex H7 Hy ∧ WsAt Hy D2 ((cr.take j).flatMap (resL m) ++ (List.range l).map fun (r : Nat) => (m, ws, (r : Int)))) ⟨e8, ?_⟩ (fun _ _ _ _ => True.intro) ?_ ?_
        · rw [List.range_zero, List.map_nil, List.append_nil]
          exact wb
        · rintro l x _ H9 hl ⟨e9, wc⟩ ⟨rfl, rfl⟩
          refine ⟨rfl, ?_⟩
          refine ⟨_, rfl, _, rfl, _, rfl, slen rfl, ?_⟩
          (intro tw ntw; generalize hGtw : upd _ tw _ = Ha; have eHa := exG hGtw ntw; have htw := atG hGtw; clear hGtw)
          have hr4a := eHa _ _ (e9 _ _ hr4)
          obtain ⟨acc, b1, b2, b3⟩ := wits_push (w3 := (m, ws, (l : Int))) (wc.mono eHa) ⟨tw, rfl, r, by rw [htw]; show some (HO.tup [V.int m, V.ref r, V.int ((0 : Int) + (l : Int))]) = some (HO.tup [V.int m, V.ref r, V.int (l : Int)]); rw [Int.zero_add], hr4a⟩
          have hl' : l < m.toNat := hl
          refine ⟨acc, b1, ?_, ex_upd (ext e9 eHa) hD2, ?_⟩
          · rw [b2, List.length_append, flat_res_len, List.length_map, List.length_range, List.length_take]
            have : min j cr.length * m.toNat ≤ 300 * 300 := Nat.mul_le_mul (by omega) (by omega)
            exact Nat.lt_of_le_of_lt (show _ ≤ 90300 by omega) (by decide)
          · rw [List.range_succ, List.map_append, ← List.append_assoc]
            exact b3
        · rintro Hz ⟨ez, rz⟩
          refine ⟨ez, ?_⟩
          rw [take_more hws, List.flatMap_append, List.flatMap_singleton]
          exact rz
      rintro H8 ⟨e8, wb⟩
      rw [List.take_of_length_le (by omega)] at wb
      obtain ⟨zs, hz, pz⟩ := wb
      have lz := Paired.length pz
      have lfl : (cr.flatMap (resL m)).length ≤ 90000 := by
        rw [flat_res_len]
        exact Nat.mul_le_mul (show _ ≤ 300 by omega) (show _ ≤ 300 by omega)
      have okw : ∀ w3 ∈ cr.flatMap (resL m), w3.1 = m ∧ FitW ns m w3.2.1 := fun w3 hw => by
        obtain ⟨ws, h1, h2⟩ := List.mem_flatMap.mp hw
        obtain ⟨r, _, rfl⟩ := List.mem_map.mp h2
        exact ⟨rfl, fcan ws h1⟩
      generalize cr.flatMap (resL m) = L1 at pz lz lfl okw ew
      have ex8 := ext ex7 e8
      have W8 := W7.mono e8
      have E8 := ext E3 ex8
      dsimp only [gName]
      obtain ⟨z0, hfl8, pz0⟩ := W8
      refine ⟨_, rfl, .inl ⟨rfl, _, SqL.of hfl8⟩, _, rfl, D2, rfl, ⟨_, SqL.of hz⟩, fun D3 hD3 => ?_⟩
      refine lc_filt (walk_list (xs := zs)) (zs.zip L1) (fun z => explB ns p ms z.2) (fun z => z.1) (by rw [List.length_zip]; omega) (by omega) hD3 (fun _ ea => SqL.of (ea _ _ hz)) ?_ ?_
      · rintro j x z Ha Hb R S hz2 ea ⟨e0, hx⟩ kR kS
        subst e0
        obtain ⟨hz1, hz3⟩ := List.getElem?_zip_eq_some.mp hz2
        obtain ⟨w3, hw, tw, rfl, hwit⟩ := paired_get pz hx
        have ez : z = (V.ref tw, w3) := by
          rw [hx] at hz1
          rw [hw] at hz3
          exact Prod.ext (Option.some.inj hz1).symm (Option.some.inj hz3).symm
        subst ez
        obtain ⟨wm, wf⟩ := okw w3 (List.mem_of_getElem? hw)
        obtain ⟨wa, w1, w2⟩ := hwit
        have Ea := ext E8 ea
        refine ⟨rfl, _, rfl, _, rfl, _, rfl, _, rfl, a, v, tw, q, ns, p, ms, w3, rfl, tab.mono Ea, ok, pr, rv.mono (ext ex8 ea), skp, hq.mono Ea, lms, cl, ⟨wa, ea _ _ w1, ea _ _ w2⟩, by omega, by omega, by rw [wm]; exact wf, fun H9 e9 => ?_⟩
        cases hc : explB ns p ms w3 with
        | true => exact ⟨_, rfl, ⟨_, rfl, kR _ _ e9 hc rfl⟩⟩
        | false => exact ⟨_, rfl, kS _ e9 hc⟩
      intro H9 e9 hD9
      have pf := paired_mono (fun _ _ q => pdw_ex e9 q) (paired_filt (explB ns p ms) pz)
      generalize ((zs.zip L1).filter fun z => explB ns p ms z.2).map (fun z => z.1) = fv at hD9 pf
      rw [← ew] at pf
      have hf9 := e9 _ _ hfl8
      have lf : fv.length ≤ 90000 := by
        rw [Paired.length pf]
        exact wits_len ok.one pr (by omega) m2
      refine ⟨fl, D3, _, _, rfl, rfl, hf9, hD9, ?_, ?_⟩
      · rw [Paired.length pz0]
        have : sizeLine = 16777216 := by decide
        omega
      have tp : ∀ c ys, H9 c = some (.tup ys) → upd H9 fl (.lst (z0 ++ fv)) c = some (.tup ys) := fun c ys z => by
        rw [upd_ne (ne_of z hf9 (by intro z; cases z))]
        exact z
      refine ⟨⟨_, _, _, _, _, _, _, rfl⟩, ex_upd (ext ex8 e9) nfl, _, upd_same, ?_⟩
      rw [gs]
      exact paired_join (paired_mono (fun _ _ q => pdw_mono _ _ _ _ tp (pdw_ex e9 q)) pz0) (paired_mono (fun _ _ q => pdw_mono _ _ _ _ tp q) pf)
    rintro σ Hx ⟨⟨y6, y7, y8, y9, y10, y11, y12, rfl⟩, ex, zs, hz, pz⟩
    refine ⟨_, rfl, k fl zs Hx (ext E3 ex) nfl0 hz ?_⟩
    unfold consL
    rw [hx]
    exact pz
end

section
variable {P : Program} {w : World} {K : PySem.W.Frag} {mg : Str → Option Value} {base : Heap}
def sp_law_value : Sp := fun vs H Q _ => ∃ (m : Int) (a b : Addr) (ws ps : List Int), vs = [.int m, .ref a, .ref b] ∧ 0 < m ∧ H a = some (.tup (ws.map V.int)) ∧ H b = some (.tup (ps.map V.int)) ∧ ws.length = ps.length ∧ ps.length ≤ 4 ∧ (∀ w ∈ ws, w.natAbs < 2 ^ 5000) ∧ (∀ p ∈ ps, p.natAbs < 2 ^ 5000) ∧ ∀ H2, Ex H H2 → Q (.int (wsum ws ps % m)) H2
theorem ok_law_value (T : TX K mg) : FnOk P w K mg base CX0 1 T.f_law_value T.fd_law_value ["_law_modulus", "_law_weights", "_law_spot"] sp_law_value := by
  refine T.F_law_value.ok sc_law_value (fun vs H Q E h => ?_) (fun cdv A outer s H vs Q E hr h => ?_)
  · obtain ⟨m, a, b, ws, ps, rfl, _⟩ := h
    rfl
  · obtain ⟨m, wa, b, ws, ps, rfl, m0, hwa, hb, l, l4, bw, bp, k⟩ := h
    refine ⟨_, (pss_one (ps_ret (pe_op op_mod (pe_callB (cr_sum rfl) (by rfl) T.z_sum (by decide +kernel) (pa_cons (pe_lc (own := [("_law_weight", 3), ("_law_place", 4)]) (g := (gTup K 2 (gCons (gName 3) (gCons (gName 4) gNil)))) rfl sc_law_value.nd (CZ.pi_z2 (fl := [true, true]) rfl (by rfl) T.z_zip (pa_cons (pv 1) (pa_cons (pv 2) pa_nil))) (blkOk_by (N := N_law_value) (sc := defScope s_law_value) (by decide +kernel)) (fun _ _ _ _ _ => (pg_tup rfl (pgs_cons (pg_name (i := 3) sc_law_value.nd rfl (Or.inl rfl)) (pgs_cons (pg_name (i := 4) sc_law_value.nd rfl (Or.inl rfl)) pgs_nil)))) (fun _ _ _ _ _ => pts_nil) (fun _ _ _ _ _ => (pe_op op_mulI (pv 3) (pv 4)))) pa_nil)) (pv 0)))), ?_⟩
    refine ⟨_, rfl, _, rfl, [wa, b], rfl, rfl, all2 (sqT hwa) (sqT hb), fun D hD => ?_⟩
    refine lc_vals (CZ.walk_rows (xss := [ws.map V.int, ps.map V.int]) (n := ps.length) (lens2 (by rw [List.length_map, l]) (by rw [List.length_map]))) ((List.zipWith (fun w x => w * x) ws ps).map V.int) (by rw [List.length_map, List.length_zipWith, l, Nat.min_self]) (by omega) hD (fun H3 e => .cons (sqT (e _ _ hwa)) (.cons (sqT (e _ _ hb)) .nil)) ?_ (gmono_tup (gmono_cons gmono_name (gmono_cons gmono_name gmono_nil))) ?_
    · intro j y H6 H7 R hj e yy kk
      obtain ⟨Tb, p, d, rfl, hTb, rfl, hp, hdd⟩ := yints2 yy
      refine ⟨Tb, _, rfl, SqT.of upd_same, rfl, _, _, rfl, _, _, rfl, rfl, ?_⟩
      refine ⟨rfl, _, rfl, _, rfl, _, _, rfl, rfl, (wide_mul (bw p (List.mem_of_getElem? hp)) (bp d (List.mem_of_getElem? hdd)) (by decide) (by decide) (by decide)).ok, ?_⟩
      refine kk _ _ (exn hTb) ?_
      rw [List.getElem?_map, List.getElem?_zipWith, hp, hdd]
      rfl
    · intro H3 e3 hD3
      exact ⟨D, _, rfl, SqL.of hD3, _, rfl, _, _, rfl, rfl, m0, k _ e3⟩
end

section
variable {P : Program} {w : World} {K : PySem.W.Frag} {mg : Str → Option Value} {base : Heap}
def sp_law_divisor : Sp := fun vs H Q _ => ∃ a b : Int, vs = [.int a, .int b] ∧ 0 ≤ a ∧ 0 ≤ b ∧ Q (.int (gcdI a b)) H
theorem ok_law_divisor (T : TX K mg) : FnOk P w K mg base CX0 1 T.f_law_divisor T.fd_law_divisor ["_law_first", "_law_second"] sp_law_divisor := by
  refine T.F_law_divisor.ok sc_law_divisor (fun vs H Q E h => ?_) (fun cdv A outer s H vs Q E hr h => ?_)
  · obtain ⟨a, b, rfl, _⟩ := h
    rfl
  · obtain ⟨a0, b0, rfl, h1, h2, k⟩ := h
    refine ⟨_, (pss_cons (ps_while PassesOwn.never (pt_cmpR op_ne (pv 1) pe_int (nomark _)) (pss_one (ps_par (i := 0) (j := 1) rfl sc_law_divisor.nd rfl rfl (by decide) rfl rfl (pa_cons (pv 1) (pa_cons (pe_op op_mod (pv 0) (pv 1)) pa_nil)) (by rfl)))) (pss_one (ps_ret (pe_callB call_abs (by rfl) T.z_abs (by decide +kernel) (pa_cons (pv 0) pa_nil))))), ?_⟩
    refine ⟨fun m σ H2 => ∃ a b : Int, σ = [some (.int a), some (.int b)] ∧ H2 = H ∧ 0 ≤ a ∧ 0 ≤ b ∧ Int.gcd a b = Int.gcd a0 b0 ∧ m = b.toNat, ⟨_, a0, b0, rfl, rfl, h1, h2, rfl, rfl⟩, ?_⟩
    rintro m σ _ ⟨a, b, rfl, rfl, ha, hb, hg, rfl⟩
    refine ⟨_, rfl, rfl, _, rfl, ?_⟩
    by_cases hz : b = 0
    · subst hz
      refine itf (by simp) ⟨_, rfl, a, rfl, ?_⟩
      rw [if_neg (by omega)]
      have e : (Int.gcd a 0 : Nat) = a.natAbs := by simp
      have e2 : gcdI a0 b0 = a := by
        show ((Int.gcd a0 b0 : Nat) : Int) = a
        rw [← hg, e]
        omega
      rw [e2] at k
      exact k
    · refine itt (by rw [dec_int]; simp [hz]) ⟨_, fun _ _ h => h, ?_⟩
      have q1 := Int.emod_lt_of_pos a (show 0 < b by omega)
      have q2 := Int.emod_nonneg a hz
      exact ⟨_, rfl, _, rfl, _, rfl, _, _, rfl, rfl, (by show 0 < b; omega), _, _, rfl, _, (by show (a % b).toNat < b.toNat; omega), _, _, rfl, rfl, hb, q2, by rw [gcd_turn hz, hg], rfl⟩
end

section
variable {P : Program} {w : World} {K : PySem.W.Frag} {mg : Str → Option Value} {base : Heap}
def sp_law_all : Sp := fun vs H Q _ => ∃ (l : Addr) (ns : List Int), vs = [.ref l] ∧ H l = some (.tup (ns.map V.int)) ∧ SzOk ns ∧ prodL ns ≤ 300 ∧ ∀ q H2, Ex H H2 → H q = none → RowsAt H2 q (allS ns) → Q (.ref q) H2
theorem ok_law_all (T : TX K mg) : FnOk P w K mg base CX0 1 T.f_law_all T.fd_law_all ["_law_rings_here"] sp_law_all := by
  refine T.F_law_all.ok sc_law_all (fun vs H Q E h => ?_) (fun cdv A outer s H vs Q E hr h => ?_)
  · obtain ⟨l, ns, rfl, _⟩ := h
    rfl
  · obtain ⟨l, ns, rfl, hl, ok, pr, k⟩ := h
    have l4 := ok.le
    refine ⟨_, (pss_cons (ps_set (i := 1) sc_law_all.nd rfl (Or.inl rfl) (pe_lst (pa_cons (pe_tup pa_nil) pa_nil))) (pss_cons (ps_for PassesOwn.never rfl (pi_tup (pv 0)) (pg_name (i := 2) sc_law_all.nd rfl (Or.inl rfl)) (pss_cons (ps_set (i := 3) sc_law_all.nd rfl (Or.inl rfl) (pe_lst pa_nil)) (pss_cons (ps_for PassesOwn.never rfl (pi_list (pv 1)) (pg_name (i := 4) sc_law_all.nd rfl (Or.inr rfl)) (pss_one (ps_expr (pe_bm PySem.F.plainAttrs_list PySem.F.slot_list_extend PySem.F.type_list_extend mt_extend (pv 3) (pa_cons (pe_lc (own := [("_law_place", 5)]) (g := (gName 5)) rfl sc_law_all.nd (pi_range1 rfl T.z_range (pa_cons (pv 2) pa_nil)) (blkOk_by (N := N_law_all) (sc := defScope s_law_all) (by decide +kernel)) (fun _ _ _ _ _ => (pg_name (i := 5) sc_law_all.nd rfl (Or.inl rfl))) (fun _ _ _ _ _ => pts_nil) (fun _ _ _ _ _ => (pe_op (r := rCatA K) op_catA (pv 4) (pe_tup (pa_cons (pv 5) pa_nil))))) pa_nil))))) (pss_one (ps_set (i := 1) sc_law_all.nd rfl (Or.inl rfl) (pv 3)))))) (pss_one (ps_ret (pv 1))))), ?_⟩
    refine ⟨by show 0 ≤ sizeLine; decide, fun u hu => ⟨by show 1 ≤ sizeLine; decide, fun f hf => ?_⟩⟩
    have e2 : Ex H (upd (upd H u (.tup [])) f (.lst [.ref u])) := ext (exn hu) (exn hf)
    have f0 : H f = none := Evl.fresh_back (exn hu) hf
    refine ⟨_, rfl, l, rfl, ⟨_, SqT.of (e2 _ _ hl)⟩, ?_⟩
    refine for_it (walk_tup (xs := ns.map V.int)) (fun i σ H2 => ∃ (f : Addr) (y2 y3 y4 y5 : Option V), σ = [some (.ref l), some (.ref f), y2, y3, y4, y5] ∧ Ex H H2 ∧ H f = none ∧ RowsAt H2 f (allS (ns.take i))) ⟨_, _, _, _, _, rfl, e2, f0, _, upd_same, .cons ⟨u, rfl, by rw [upd_ne (ne_of_none upd_same hf)]; exact upd_same⟩ .nil⟩ (fun i σ H2 _ ⟨_, _, _, _, _, _, e, _⟩ => SqT.of (e _ _ hl)) ?_ ?_
    · rintro i x σ _ H2 hi ⟨f, y2, y3, y4, y5, rfl, e3, f0, ra⟩ ⟨rfl, hx⟩
      obtain ⟨n, hn, rfl⟩ := map_get hx
      have n1 := ok.one n (List.mem_of_getElem? hn)
      have nb := mul_le_prod ok.one hn
      have ezs := take_more hn
      have o1 : ∀ m ∈ ns.take i, 1 ≤ m := fun m hm => ok.one m (List.mem_of_mem_take hm)
      have len : ((allS (ns.take i)).length : Int) ≤ 300 := by
        rw [allS_len o1]
        exact Int.le_trans (prodL_take i ok.one) pr
      have rows : ∀ hs ∈ allS (ns.take i), hs.length ≤ 4 := fun hs hh => by
        rw [rows_allS hs hh, List.length_take]
        omega
      refine ⟨by show 0 ≤ sizeLine; decide, fun L hL => ?_⟩
      obtain ⟨xs, ra5, rr⟩ := id ra
      generalize hh : allS (ns.take i) = hss at rr len rows
      have e4 := exn (o := .lst []) hL
      refine ⟨_, rfl, f, rfl, ⟨_, SqL.of (e4 _ _ ra5)⟩, ?_⟩
      refine for_it (walk_list (xs := xs)) (fun j σ H3 => ∃ y4 y5 : Option V, σ = [some (.ref l), some (.ref f), some (.int n), some (.ref L), y4, y5] ∧ Ex H2 H3 ∧ RowsAt H3 L (crossS (hss.take j) n)) ⟨_, _, rfl, e4, _, upd_same, .nil⟩ (fun j σ H3 _ ⟨_, _, _, e, _⟩ => SqL.of (e _ _ ra5)) ?_ ?_
      · rintro j x σ _ H3 hj ⟨y4, y5, rfl, e5, rb⟩ ⟨rfl, hx⟩
        obtain ⟨hs, r, hhs, rfl, hr4⟩ := rr.get hx
        obtain ⟨ys, hy1, hy2⟩ := id rb
        have hsl := rows hs (List.mem_of_getElem? hhs)
        refine ⟨_, rfl, .inl ⟨rfl, _, SqL.of hy1⟩, _, rfl, n, rfl, by omega, by omega, fun D hD => ?_⟩
        refine lc_rows walk_range hs ((List.range n.toNat).map fun (i : Nat) => (i : Int)) (by simp) (by omega) hD (fun _ _ => True.intro) ?_ gmono_name ?_
        · rintro m x _ H5 R hm e6 ⟨rfl, hx⟩ kk
          obtain rfl : x = .int (m : Int) := hx.trans (congrArg V.int (Int.zero_add _))
          refine ⟨rfl, _, rfl, _, rfl, by show 1 ≤ sizeLine; decide, fun v hv => ?_⟩
          have hm2 : m < n.toNat := hm
          refine cat_row (exn hv _ _ (e6 _ _ (e5 _ _ hr4))) upd_same (by omega) fun z H6 e7 hz => kk _ z H6 (ext (exn hv) e7) ?_ hz
          rw [List.getElem?_map, List.getElem?_range hm2]
          rfl
        · intro H4 e6 rc
          have neL : L ≠ D := ne_of_none hy1 hD
          obtain ⟨as, bs, g1, g2, g3, g4, g5⟩ := rows_ext (rb.mono e6) rc neL
          refine ⟨L, D, as, bs, rfl, rfl, g1, g2, ?_, ?_⟩
          · simp only [g3, g4, crossS_len, List.length_map, List.length_range, List.length_take]
            have : min j hss.length * n.toNat ≤ 300 * 300 := Nat.mul_le_mul (by omega) (by omega)
            exact Nat.le_trans (show _ ≤ 90300 by omega) (by decide)
          · refine ⟨_, _, rfl, ex_upd (ext e5 e6) hL, ?_⟩
            rw [take_more hhs, crossS_snoc]
            rw [List.map_map] at g5
            exact g5
      · rintro σ H3 ⟨y4, y5, rfl, e5, rb⟩
        rw [rr.len, List.take_length] at rb
        rw [ezs, allS_snoc, hh]
        exact ⟨_, rfl, L, _, _, _, _, rfl, ext e3 e5, Evl.fresh_back e3 hL, rb⟩
    · rintro σ H2 ⟨f, y2, y3, y4, y5, rfl, e3, f0, ra⟩
      rw [List.length_map, List.take_length] at ra
      exact ⟨_, rfl, k f _ e3 f0 ra⟩
end

theorem ltT_is (a b : List Int) : PySem.W.dataLt (iT a) (iT b) = decide (a < b) := by
  show PySem.W.dataLt (.tuple (a.map .int)) (.tuple (b.map .int)) = _
  rw [PySem.W.dataLt_tuple]
  exact PySem.W.dataLt_ints a b
theorem leT_is (a b : List Int) : leT a b = decide (a ≤ b) := by
  show (!PySem.W.dataLt (iT b) (iT a)) = _
  rw [ltT_is]
  by_cases h : b < a
  · have h' : ¬ a ≤ b := fun r => List.not_lt.mpr r h
    simp [h, h']
  · have h' : a ≤ b := List.not_lt.mp h
    simp [h, h']
theorem leT_trans (a b c : List Int) (h1 : leT a b = true) (h2 : leT b c = true) : leT a c = true := by
  rw [leT_is] at *
  exact decide_eq_true (List.le_trans (of_decide_eq_true h1) (of_decide_eq_true h2))
theorem leT_total (a b : List Int) : (leT a b || leT b a) = true := by
  rw [leT_is, leT_is, Bool.or_eq_true, decide_eq_true_iff, decide_eq_true_iff]
  exact List.le_total a b
theorem leT_anti {a b : List Int} (h1 : leT a b = true) (h2 : leT b a = true) : a = b := by
  rw [leT_is] at *
  exact List.le_antisymm (of_decide_eq_true h1) (of_decide_eq_true h2)

-- minmax
/-! ### min(l), a list of witnesses (int, tuple of ints, int) -/
section
def encW (w3 : W3) : PyData := .tuple [.int w3.1, iT w3.2.1, .int w3.2.2]
/-- a before b -/
def LtW (a b : W3) : Prop := a.1 < b.1 ∨ (a.1 = b.1 ∧ (a.2.1 < b.2.1 ∨ (a.2.1 = b.2.1 ∧ a.2.2 < b.2.2)))
instance (a b : W3) : Decidable (LtW a b) := by unfold LtW; infer_instance
theorem alike_encW (a b : W3) : PySem.W.alike (encW a) (encW b) = true := by
  unfold encW
  rw [PySem.W.alike, PySem.W.alikeAll, PySem.W.alikeAll, alike_iT]
  simp [PySem.W.alike, PySem.W.alikeAll]
theorem ltW_is (a b : W3) : PySem.W.dataLt (encW a) (encW b) = decide (LtW a b) := by
  unfold encW LtW
  have e : PyProof.Rows.lexLt itemOrd (PySem.W.keyToksAll []) (PySem.W.keyToksAll []) = false := lex_irrefl _
  rw [PySem.W.dataLt_tuple, PySem.W.dataLt_cons (by simp [PySem.W.alike]), PySem.W.dataLt_cons (alike_iT _ _), PySem.W.dataLt_cons (by simp [PySem.W.alike]), PySem.W.dataLt_int, PySem.W.dataLt_int, ltT_is, eqv_ints, e]
  simp only [PyData.eqv, beq_iff_eq, decide_eq_true_eq]
  by_cases h1 : a.1 = b.1
  · rw [if_pos h1]
    by_cases h2 : a.2.1 = b.2.1
    · rw [if_pos h2]
      have n2 : ¬ a.2.1 < b.2.1 := by rw [h2]; exact List.lt_irrefl _
      by_cases h3 : a.2.2 = b.2.2
      · rw [if_pos h3]
        simp [h1, h2, h3, List.lt_irrefl]
      · rw [if_neg h3]
        simp [h1, h2, List.lt_irrefl]
    · rw [if_neg h2]
      simp [h1, h2]
  · rw [if_neg h1]
    simp [h1]
theorem ltW_trans {a b c : W3} (h1 : LtW a b) (h2 : LtW b c) : LtW a c := by
  unfold LtW at *
  rcases h1 with h1 | ⟨e1, h1⟩
  · rcases h2 with h2 | ⟨e2, _⟩
    · exact .inl (by omega)
    · exact .inl (by omega)
  · rcases h2 with h2 | ⟨e2, h2⟩
    · exact .inl (by omega)
    · refine .inr ⟨by omega, ?_⟩
      rcases h1 with h1 | ⟨f1, h1⟩
      · rcases h2 with h2 | ⟨f2, _⟩
        · exact .inl (List.lt_trans h1 h2)
        · exact .inl (f2 ▸ h1)
      · rcases h2 with h2 | ⟨f2, h2⟩
        · exact .inl (f1 ▸ h2)
        · exact .inr ⟨f1.trans f2, by omega⟩
theorem ltW_irrefl (a : W3) : ¬ LtW a a := by
  unfold LtW
  rintro (h | ⟨_, h | ⟨_, h⟩⟩)
  · omega
  · exact List.lt_irrefl _ h
  · omega
def minW (t : W3) (ts : List W3) : W3 := ts.foldl (fun a y => if LtW y a then y else a) t
theorem minD_wits : ∀ (ts : List W3) (t : W3), PySem.W.minD (encW t) (ts.map encW) = encW (minW t ts)
  | [], _ => rfl
  | y :: ts, t => by
    have ih := minD_wits ts
    unfold PySem.W.minD minW at ih ⊢
    rw [List.map_cons, List.foldl_cons, List.foldl_cons, ltW_is]
    by_cases h : LtW y t
    · rw [if_pos (decide_eq_true h), if_pos h]
      exact ih y
    · rw [if_neg (by simpa using h), if_neg h]
      exact ih t
theorem minW_le : ∀ (ts : List W3) (t : W3), (∀ y ∈ t :: ts, ¬ LtW y (minW t ts)) ∧ ∀ z, LtW z (minW t ts) → LtW z t
  | [], t => ⟨fun y h => by
    rw [List.mem_singleton.mp h]
    exact ltW_irrefl _, fun z h => h⟩
  | x :: ts, t => by
    have e : minW t (x :: ts) = minW (if LtW x t then x else t) ts := rfl
    rw [e]
    by_cases c : LtW x t
    · rw [if_pos c]
      obtain ⟨h1, h2⟩ := minW_le ts x
      refine ⟨fun y hy => ?_, fun z hz => ltW_trans (h2 z hz) c⟩
      rcases List.mem_cons.mp hy with rfl | hy
      · exact fun z => ltW_irrefl _ (ltW_trans (h2 _ z) c)
      · exact h1 y hy
    · rw [if_neg c]
      obtain ⟨h1, h2⟩ := minW_le ts t
      refine ⟨fun y hy => ?_, h2⟩
      rcases List.mem_cons.mp hy with rfl | hy
      · exact h1 _ List.mem_cons_self
      · rcases List.mem_cons.mp hy with rfl | hy
        · exact fun z => c (h2 _ z)
        · exact h1 y (List.mem_cons_of_mem _ hy)
theorem encW_inj {a b : W3} (h : encW a = encW b) : a = b := by
  obtain ⟨a1, a2, a3⟩ := a
  obtain ⟨b1, b2, b3⟩ := b
  unfold encW iT at h
  injection h with h
  injection h with h1 h
  injection h with h2 h
  injection h with h3 _
  injection h1 with h1
  injection h3 with h3
  injection h2 with h2
  have h2 : a2 = b2 := List.map_inj_right (fun x y e => by injection e) |>.mp h2
  dsimp only at h1 h3
  rw [h1, h2, h3]
theorem depth_encW (w3 : W3) : (encW w3).depth ≤ 2 := by
  have key : ∀ l : List Int, PyData.depthAll (l.map .int) = 0 := fun l => by
    induction l with
    | nil => rfl
    | cons m l ih =>
      rw [List.map_cons]
      simp only [PyData.depthAll, PyData.depth, ih]
      rfl
  unfold encW iT
  simp only [PyData.depth, PyData.depthAll, key]
  omega
theorem depth_encWs : ∀ ts : List W3, PyData.depthAll (ts.map encW) ≤ 2
  | [] => by simp [PyData.depthAll]
  | t :: ts => by
    have h1 := depth_encW t
    have h2 := depth_encWs ts
    rw [List.map_cons]
    simp only [PyData.depthAll]
    omega
theorem dp_wits {K : PySem.W.Frag} {H : Hp} : ∀ {xs : List V} {L : List W3}, Paired (PdW H) xs L → DpAll K H xs (L.map encW)
  | _, _, .nil => .nil
  | _, _, .cons ⟨t, e, wa, h1, h2⟩ tl => by
    subst e
    exact .cons (.tup (SqT.of h1) (.cons (.int _) (.cons (dp_ints h2) (.cons (.int _) .nil)))) (dp_wits tl)
def rMinW (K : PySem.W.Frag) : List V → Hp → VK → Prop := fun vs H Q => ∃ (a : Addr) (xs : List V) (L : List W3), vs = [V.ref a] ∧ H a = some (.lst xs) ∧ Paired (PdW H) xs L ∧ L ≠ [] ∧
  ∀ (r : Addr) (w3 : W3), w3 ∈ L → WitAt H r w3.1 w3.2.1 w3.2.2 → (∀ y ∈ L, ¬ LtW y w3) → Q (.ref r) H
theorem cr_minW {X : Cx} (hc : X.calm = true) (hu : X.A.units + 65 < cLine) : CallR X (.builtin "min") (rMinW X.K) := by
  intro pins s σ H vs us Q I r h
  obtain ⟨a, xs, L, rfl, hs, rr, hne, q⟩ := h
  obtain ⟨its, rv, hl, hz⟩ := I.list (SqL.of hs)
  rw [Vals.ref1 r]
  cases L with
  | nil => exact absurd rfl hne
  | cons t ts =>
    obtain ⟨as, hr⟩ := Dp.readsAll I _ _ _ (dp_wits rr) rv
    refine PySem.W.min_list_data (x := encW t) (xs := ts.map encW) (I.ok.hd hc) hl.isList hr ⟨fun x hx y hy => ?_, fun x hx => ?_⟩ ?_ fun i v h' tk bs hi rd hk => ?_
    · obtain ⟨x', _, rfl⟩ := List.mem_map.mp (show x ∈ (t :: ts).map encW from hx)
      obtain ⟨y', _, rfl⟩ := List.mem_map.mp (show y ∈ (t :: ts).map encW from hy)
      exact alike_encW _ _
    · obtain ⟨x', _, rfl⟩ := List.mem_map.mp (show x ∈ (t :: ts).map encW from hx)
      intro z
      cases z
    · have := depth_encWs (t :: ts)
      rw [List.map_cons] at this
      omega
    · rw [minD_wits] at rd
      have li : i < xs.length := by
        have := rv.length
        have := (Array.getElem?_eq_some_iff.mp hi).1
        simp at this
        omega
      obtain ⟨x0, hx0⟩ : ∃ x0, xs[i]? = some x0 := ⟨_, List.getElem?_eq_getElem li⟩
      obtain ⟨u, hu1, ru⟩ := rv.get hx0
      have hi2 : its[i]? = some v := by simpa using hi
      obtain rfl : u = v := Option.some.inj (hu1.symm.trans hi2)
      obtain ⟨w0, hw0, r0, rfl, wit⟩ := paired_get rr hx0
      obtain ⟨wa, w1, w2⟩ := id wit
      obtain ⟨as0, rd0⟩ := Dp.reads I (encW w0) (.ref r0) u (.tup (SqT.of w1) (.cons (.int _) (.cons (dp_ints w2) (.cons (.int _) .nil)))) ru
      have e1 := (reads_det (fun b o g _ => hk b o g) rd0 rd).1
      have e2 := encW_inj e1
      cases ru
      exact ⟨.ref _, H, I.kept hk, rfl, q _ w0 (List.mem_of_getElem? hw0) wit fun y hy => by rw [← e2]; exact (minW_le ts t).1 y hy⟩
end

theorem unitsL_one {m : Int} (m2 : 2 ≤ m) : unitsL 1 m = 1 :: unitsL 2 m := by
  obtain ⟨k, rfl⟩ : ∃ k : Nat, m = (k : Int) + 2 := ⟨(m - 2).toNat, by omega⟩
  unfold unitsL
  rw [show ((k : Int) + 2 - 1).toNat = k + 1 by omega, show ((k : Int) + 2 - 2).toNat = k by omega, List.range_succ_eq_map, List.map_cons, List.map_map, List.filter_cons_of_pos]
  · congr 1
    have : ((fun (i : Nat) => (1 : Int) + (i : Int)) ∘ Nat.succ) = fun (i : Nat) => (2 : Int) + (i : Int) := by
      funext i
      show (1 : Int) + ((i + 1 : Nat) : Int) = 2 + (i : Int)
      omega
    rw [this]
  · show decide (gcdI (1 + ((0 : Nat) : Int)) _ = 1) = true
    refine decide_eq_true ?_
    show (((Int.gcd 1 _ : Nat)) : Int) = 1
    rw [Int.one_gcd]
    rfl
theorem mulM_one {m : Int} {ws : List Int} (h : ∀ x ∈ ws, 0 ≤ x ∧ x < m) : mulM 1 m ws = ws := by
  unfold mulM
  refine (List.map_congr_left fun x hx => ?_).trans (List.map_id' ws)
  rw [Int.one_mul, Int.emod_eq_of_lt (h x hx).1 (h x hx).2]
/-- the least of the multiples is the row itself -/
theorem least_row {m : Int} {ws t : List Int} (m2 : 2 ≤ m) (h : ∀ x ∈ ws, 0 ≤ x ∧ x < m) (ht : t ∈ (unitsL 1 m).map fun u => mulM u m ws) (hl : ∀ y ∈ (unitsL 1 m).map (fun u => mulM u m ws), t ≤ y) : decide (t = ws) = (unitsL 2 m).all fun u => decide (ws ≤ mulM u m ws) := by
  rw [unitsL_one m2, List.map_cons, mulM_one h] at ht hl
  rw [Bool.eq_iff_iff, decide_eq_true_iff, List.all_eq_true]
  constructor
  · intro e u hu
    rw [e] at hl
    exact decide_eq_true (hl _ (List.mem_cons_of_mem _ (List.mem_map_of_mem hu)))
  · intro a
    refine List.le_antisymm (hl ws List.mem_cons_self) ?_
    rcases List.mem_cons.mp ht with e | e
    · rw [e]
      exact List.le_refl _
    · obtain ⟨u, hu, rfl⟩ := List.mem_map.mp e
      exact of_decide_eq_true (a u hu)

theorem emodd (a m : Int) : m ∣ a % m - a := ⟨-(a / m), by
  have := Int.mul_ediv_add_emod a m
  grind⟩
theorem wsum_mulmod {p c : Int} : ∀ {ws xs : List Int}, p ∣ wsum (ws.map fun w => c * w % p) xs - c * wsum ws xs
  | [], _ => by
    show p ∣ wsum [] _ - c * wsum [] _
    simp [wsum]
  | _ :: _, [] => by simp [wsum]
  | w :: ws, x :: xs => by
    rw [List.map_cons, wsum_cons, wsum_cons]
    have ih := wsum_mulmod (p := p) (c := c) (ws := ws) (xs := xs)
    have d := emodd (c * w) p
    have d2 : p ∣ (c * w % p - c * w) * x := Int.dvd_mul_of_dvd_left d
    refine (congrArg (p ∣ ·) ?_).mp (Int.dvd_add d2 ih)
    grind
theorem emod_of_dvd {a b p : Int} (h : p ∣ a - b) : a % p = b % p := Int.emod_eq_emod_iff_emod_sub_eq_zero.mpr (Int.emod_eq_zero_of_dvd h)
/-! ### the canonical form of a witness: plain -/
theorem gcdW_m : ∀ (ws : List Int) (m : Int), gcdW m ws ∣ m
  | [], m => Int.dvd_refl m
  | w :: ws, m => Int.dvd_trans (gcdW_m ws (gcdI m w)) (Int.gcd_dvd_left ..)
theorem gcdW_w : ∀ (ws : List Int) (m : Int), ∀ w ∈ ws, gcdW m ws ∣ w
  | x :: ws, m, w, h => by
    rcases List.mem_cons.mp h with rfl | h
    · exact Int.dvd_trans (gcdW_m ws (gcdI m w)) (Int.gcd_dvd_right ..)
    · exact gcdW_w ws (gcdI m x) w h
theorem dvd_gcdW {d : Int} : ∀ (ws : List Int) (m : Int), d ∣ m → (∀ w ∈ ws, d ∣ w) → d ∣ gcdW m ws
  | [], m, h, _ => h
  | w :: ws, m, h, hw => dvd_gcdW ws (gcdI m w) (Int.dvd_coe_gcd h (hw w List.mem_cons_self)) fun x hx => hw x (List.mem_cons_of_mem _ hx)
theorem rows_mem {m : Int} : ∀ (ns ws : List Int) (hss : List (List Int)) (hs : List Int), hs ∈ hss → ws.length = ns.length → (∀ (i : Nat) (w n : Int), ws[i]? = some w → ns[i]? = some n → w ∈ wsC m n) → hs ++ ws ∈ ns.foldl (fun hss n => crossW hss (wsC m n)) hss
  | [], [], hss, hs, h, _, _ => by
    rw [List.append_nil]
    exact h
  | n :: ns, w :: ws, hss, hs, h, l, f => by
    rw [List.foldl_cons, show hs ++ w :: ws = (hs ++ [w]) ++ ws by simp]
    refine rows_mem ns ws _ _ ?_ (Nat.succ.inj l) fun i x k hx hk => f (i + 1) x k (by simpa using hx) (by simpa using hk)
    exact List.mem_flatMap.mpr ⟨hs, h, List.mem_map.mpr ⟨w, f 0 w n rfl rfl, rfl⟩⟩
theorem fit_rows {ns ws : List Int} {m : Int} (F : FitW ns m ws) : ws ∈ rowsW ns m := by
  have := rows_mem (m := m) ns ws [[]] [] List.mem_cons_self F.len fun i w n hw hn => mem_wsC.mpr ⟨(F.w0 w (List.mem_of_getElem? hw)).1, (F.w0 w (List.mem_of_getElem? hw)).2, F.fit i w n hw hn⟩
  rw [List.nil_append] at this
  exact this
theorem mem_cons {ns p : List Int} {ms : List (List Int × Bool)} {m r : Int} {ws : List Int} (one : ∀ n ∈ ns, 1 ≤ n) (m3 : 3 ≤ m) (mo : m % 2 = 1) (F : FitW ns m ws) (hc : canonB m ws = true) (r0 : 0 ≤ r) (r1 : r < m) (he : explB ns p ms (m, ws, r) = true) : (m, ws, r) ∈ consL ns p ms := by
  have E := expo_ok one
  have hr := fit_rows F
  have g1 : gcdW m ws = 1 := by
    unfold canonB at hc
    rw [Bool.and_eq_true, decide_eq_true_iff] at hc
    exact hc.1
  have em := canon_dvd one E (by omega) mo hr g1
  have e1 := E.one
  have ml := Int.le_of_dvd (by omega) (Int.dvd_of_emod_eq_zero em)
  unfold consL
  refine List.mem_flatMap.mpr ⟨m, List.mem_filter.mpr ⟨?_, decide_eq_true em⟩, ?_⟩
  · unfold oddsTo
    exact List.mem_map.mpr ⟨((m - 3) / 2).toNat, List.mem_range.mpr (by omega), by omega⟩
  · unfold witsM
    refine List.mem_filter.mpr ⟨List.mem_flatMap.mpr ⟨ws, List.mem_filter.mpr ⟨hr, hc⟩, ?_⟩, he⟩
    exact List.mem_map.mpr ⟨r.toNat, List.mem_range.mpr (by omega), by rw [Int.toNat_of_nonneg r0]⟩
theorem cons_mem {ns p : List Int} {ms : List (List Int × Bool)} {w3 : W3} (h : w3 ∈ consL ns p ms) : 3 ≤ w3.1 ∧ w3.1 % 2 = 1 ∧ FitW ns w3.1 w3.2.1 ∧ canonB w3.1 w3.2.1 = true ∧ 0 ≤ w3.2.2 ∧ w3.2.2 < w3.1 ∧ explB ns p ms w3 = true := by
  obtain ⟨m, hm, hw⟩ := List.mem_flatMap.mp h
  obtain ⟨i, hi, rfl⟩ := List.mem_map.mp (List.mem_filter.mp hm).1
  obtain ⟨h1, h2⟩ := List.mem_filter.mp hw
  obtain ⟨ws, h3, h4⟩ := List.mem_flatMap.mp h1
  obtain ⟨r, hr, rfl⟩ := List.mem_map.mp h4
  obtain ⟨h5, h6⟩ := List.mem_filter.mp h3
  have := List.mem_range.mp hr
  exact ⟨by dsimp only; omega, by dsimp only; omega, rows_fit h5, h6, by dsimp only; omega, by dsimp only; omega, h2⟩
/-- explaining asks only which seats have the residue -/
theorem explM_congr {ns : List Int} {m r m2 r2 : Int} {ws ws2 : List Int} (h : ∀ x : List Int, (wsum ws x % m = r ↔ wsum ws2 x % m2 = r2)) : ∀ (ms : List (List Int × Bool)) (p : List Int), explM ns m r ws p ms = explM ns m2 r2 ws2 p ms
  | [], _ => rfl
  | c :: ms, p => by
    unfold explM
    rw [explM_congr h ms, decide_eq_decide.mpr (h (shiftL ns p c.1 1))]
theorem explB_congr {ns p : List Int} {m r m2 r2 : Int} {ws ws2 : List Int} (h : ∀ x : List Int, (wsum ws x % m = r ↔ wsum ws2 x % m2 = r2)) (ms : List (List Int × Bool)) : explB ns p ms (m, ws, r) = explB ns p ms (m2, ws2, r2) := by
  unfold explB
  dsimp only
  rw [explM_congr h ms p, decide_eq_decide.mpr (not_congr (h p))]
/-- the multiples of a witness, divided by what it shares -/
def canL (M : Int) (W : List Int) (R : Int) : List W3 :=
  (unitsL 1 (M / gcdW M W)).map fun u => (M / gcdW M W, mulM u (M / gcdW M W) (W.map fun w => w / gcdW M W), u * (R / gcdW M W) % (M / gcdW M W))
theorem mem_units {lo m u : Int} : u ∈ unitsL lo m ↔ lo ≤ u ∧ u < m ∧ gcdI u m = 1 := by
  unfold unitsL
  simp only [List.mem_filter, List.mem_map, List.mem_range, decide_eq_true_eq]
  constructor
  · rintro ⟨⟨i, hi, rfl⟩, h⟩
    exact ⟨by omega, by omega, h⟩
  · rintro ⟨h1, h2, h3⟩
    exact ⟨⟨(u - lo).toNat, by omega, by omega⟩, h3⟩
theorem can_mem {ns p W : List Int} {M R : Int} {ms : List (List Int × Bool)} (one : ∀ n ∈ ns, 1 ≤ n) (M3 : 3 ≤ M) (Mo : M % 2 = 1) (F : FitW ns M W) (R0 : 0 ≤ R) (R1 : R < M) (hR : ∃ t : List Int, wsum W t % M = R) (hp : wsum W p % M ≠ R) (he : explB ns p ms (M, W, R) = true) :
    3 ≤ M / gcdW M W ∧ canL M W R ≠ [] ∧ ∀ w3 ∈ canL M W R, (∀ y ∈ canL M W R, ¬ LtW y w3) → w3 ∈ consL ns p ms := by
  have S0 := gcdW_nn W M (by omega)
  have Sm := gcdW_m W M
  have Sw := gcdW_w W M
  have Sd : ∀ d, d ∣ M → (∀ w ∈ W, d ∣ w) → d ∣ gcdW M W := fun d => dvd_gcdW W M
  unfold canL
  generalize gcdW M W = S at *
  have S1 : 1 ≤ S := by
    refine Classical.byContradiction fun no => ?_
    obtain rfl : S = 0 := by omega
    have := Int.zero_dvd.mp Sm
    omega
  have eM : M = S * (M / S) := (Int.mul_ediv_cancel' Sm).symm
  have eW : W = (W.map fun w => w / S).map fun v => S * v := by
    rw [List.map_map]
    refine ((List.map_congr_left fun w hw => ?_).trans (List.map_id' W)).symm
    exact Int.mul_ediv_cancel' (Sw w hw)
  have sW : ∀ x, wsum W x = S * wsum (W.map fun w => w / S) x := fun x => wsum_scale eW
  have SR : S ∣ R := by
    obtain ⟨t, ht⟩ := hR
    rw [← ht, sW t]
    have d1 : S ∣ S * wsum (W.map fun w => w / S) t % M - S * wsum (W.map fun w => w / S) t := Int.dvd_trans Sm (emodd _ _)
    have d2 : S ∣ S * wsum (W.map fun w => w / S) t := Int.dvd_mul_right _ _
    have := Int.dvd_add d1 d2
    rwa [Int.sub_add_cancel] at this
  have eR : R = S * (R / S) := (Int.mul_ediv_cancel' SR).symm
  have lW : (W.map fun w => w / S).length = ns.length := by rw [List.length_map, F.len]
  have fW : ∀ (i : Nat) (x n : Int), (W.map fun w => w / S)[i]? = some x → ns[i]? = some n → x * n % (M / S) = 0 := fun i x n hx hn => by
    rw [List.getElem?_map] at hx
    obtain ⟨w, hw, rfl⟩ := Option.map_eq_some_iff.mp hx
    have f := Int.dvd_of_emod_eq_zero (F.fit i w n hw hn)
    have ew : w = S * (w / S) := (Int.mul_ediv_cancel' (Sw w (List.mem_of_getElem? hw))).symm
    rw [ew, Int.mul_assoc, eM] at f
    exact Int.emod_eq_zero_of_dvd (Int.dvd_of_mul_dvd_mul_left (by omega) f)
  generalize hV : (W.map fun w => w / S) = V at *
  generalize hm : M / S = m at *
  generalize hr : R / S = r at *
  have m1 : 1 ≤ m := by
    refine Classical.byContradiction fun no => ?_
    have : S * m ≤ S * 0 := Int.mul_le_mul_of_nonneg_left (by omega) (by omega)
    omega
  have eqv : ∀ x, wsum W x % M = R ↔ m ∣ wsum V x - r := fun x => by
    rw [sW x]
    constructor
    · intro e
      have d : M ∣ S * wsum V x - R := by
        rw [← e]
        have := emodd (S * wsum V x) M
        have h2 := Int.dvd_neg.mpr this
        rwa [Int.neg_sub] at h2
      rw [eM, eR, ← Int.mul_sub] at d
      exact Int.dvd_of_mul_dvd_mul_left (by omega) d
    · intro d
      have d2 : M ∣ S * wsum V x - R := by
        rw [eM, eR, ← Int.mul_sub]
        exact Int.mul_dvd_mul (Int.dvd_refl _) d
      rw [emod_of_dvd d2, Int.emod_eq_of_lt R0 R1]
  have mne : m ≠ 1 := fun z => hp ((eqv p).mpr (by rw [z]; exact Int.one_dvd _))
  have mo : m % 2 = 1 := odd_of_dvd ⟨S, by rw [Int.mul_comm]; exact eM⟩ Mo
  have m3 : 3 ≤ m := by omega
  refine ⟨m3, ?_, ?_⟩
  · rw [unitsL_one (show 2 ≤ m by omega)]
    simp
  intro w3 hw3 hmin
  obtain ⟨u, hu, rfl⟩ := List.mem_map.mp hw3
  obtain ⟨u1, u2, ug⟩ := mem_units.mp hu
  have co : ∀ {a : Int}, m ∣ u * a → m ∣ a := fun {a} h => by
    have ug' : Int.gcd m u = 1 := by
      rw [Int.gcd_comm]
      have : ((Int.gcd u m : Nat) : Int) = 1 := ug
      omega
    rw [Int.mul_comm] at h
    exact dvd_co h ug'
  have F2 : FitW ns m (mulM u m V) := by
    refine ⟨by unfold mulM; rw [List.length_map, lW], fun x hx => ?_, fun i x n hx hn => ?_⟩
    · unfold mulM at hx
      obtain ⟨v, _, rfl⟩ := List.mem_map.mp hx
      exact ⟨Int.emod_nonneg _ (by omega), Int.emod_lt_of_pos _ (by omega)⟩
    · unfold mulM at hx
      rw [List.getElem?_map] at hx
      obtain ⟨v, hv, rfl⟩ := Option.map_eq_some_iff.mp hx
      have d1 := Int.dvd_of_emod_eq_zero (fW i v n hv hn)
      have d2 : m ∣ (u * v % m - u * v) * n := Int.dvd_mul_of_dvd_left (emodd _ _)
      have d3 : m ∣ u * (v * n) := Int.dvd_mul_of_dvd_right d1
      refine Int.emod_eq_zero_of_dvd ((congrArg (m ∣ ·) ?_).mp (Int.dvd_add d2 d3))
      grind
  have g1 : gcdW m (mulM u m V) = 1 := by
    have d0 := gcdW_nn (mulM u m V) m (by omega)
    have dm := gcdW_m (mulM u m V) m
    have dw := gcdW_w (mulM u m V) m
    generalize gcdW m (mulM u m V) = d at *
    have dv : ∀ v ∈ V, d ∣ v := fun v hv => by
      have h1 := dw (u * v % m) (List.mem_map_of_mem hv)
      have h2 : d ∣ u * v % m - u * v := Int.dvd_trans dm (emodd _ _)
      have h3 := Int.dvd_sub h1 h2
      rw [show u * v % m - (u * v % m - u * v) = v * u by grind] at h3
      have cd : Int.gcd d u = 1 := by
        have e1 : ((Int.gcd u m : Nat) : Int) = 1 := ug
        have k1 : ((Int.gcd d u : Nat) : Int) ∣ ((Int.gcd u m : Nat) : Int) := Int.dvd_coe_gcd (Int.gcd_dvd_right ..) (Int.dvd_trans (Int.gcd_dvd_left ..) dm)
        rw [e1] at k1
        have := Int.le_of_dvd (by decide) k1
        have pos : 0 < Int.gcd d u := Int.gcd_pos_of_ne_zero_right _ (by omega)
        omega
      exact dvd_co h3 cd
    have k1 : S * d ∣ S := Sd (S * d) (by rw [eM]; exact Int.mul_dvd_mul (Int.dvd_refl _) dm) fun w hw => by
      have ew : w = S * (w / S) := (Int.mul_ediv_cancel' (Sw w hw)).symm
      rw [ew]
      exact Int.mul_dvd_mul (Int.dvd_refl _) (dv _ (by rw [← hV]; exact List.mem_map_of_mem hw))
    have k2 : d ∣ 1 := Int.dvd_of_mul_dvd_mul_left (show S ≠ 0 by omega) (by rw [Int.mul_one]; exact k1)
    have := Int.le_of_dvd (by decide) k2
    have : d ≠ 0 := fun z => by
      rw [z] at k2
      have := Int.zero_dvd.mp k2
      omega
    omega
  have r0 : 0 ≤ u * r % m := Int.emod_nonneg _ (by omega)
  have r1 : u * r % m < m := Int.emod_lt_of_pos _ (by omega)
  have zero : ∀ x, wsum W x % M = R ↔ wsum (mulM u m V) x % m = u * r % m := fun x => by
    rw [eqv x]
    have a1 : wsum (mulM u m V) x % m = u * wsum V x % m := emod_of_dvd (wsum_mulmod (p := m) (c := u) (ws := V) (xs := x))
    rw [a1]
    constructor
    · intro d
      refine emod_of_dvd ?_
      rw [← Int.mul_sub]
      exact Int.dvd_mul_of_dvd_right d
    · intro e
      have d := Int.dvd_of_emod_eq_zero (Int.emod_eq_emod_iff_emod_sub_eq_zero.mp e)
      rw [← Int.mul_sub] at d
      exact co d
  refine mem_cons one m3 mo F2 ?_ r0 r1 (by rw [← explB_congr zero ms]; exact he)
  unfold canonB
  rw [g1, decide_eq_true rfl, Bool.true_and, List.all_eq_true]
  intro u' hu'
  obtain ⟨v1, v2, vg⟩ := mem_units.mp hu'
  refine decide_eq_true ?_
  have pg : gcdI (u' * u % m) m = 1 := by
    have e1 : Int.gcd u m = 1 := by
      have : ((Int.gcd u m : Nat) : Int) = 1 := ug
      omega
    have e2 : Int.gcd u' m = 1 := by
      have : ((Int.gcd u' m : Nat) : Int) = 1 := vg
      omega
    have e3 : Int.gcd (u' * u) m = 1 := by
      show Nat.gcd (u' * u).natAbs m.natAbs = 1
      rw [Int.natAbs_mul]
      exact Nat.Coprime.mul_left (show Nat.Coprime u'.natAbs m.natAbs from e2) (show Nat.Coprime u.natAbs m.natAbs from e1)
    show (((Int.gcd (u' * u % m) m : Nat)) : Int) = 1
    rw [Int.gcd_comm, gcd_turn (by omega), e3]
    rfl
  have p0 := Int.emod_nonneg (u' * u) (show m ≠ 0 by omega)
  have p1 := Int.emod_lt_of_pos (u' * u) (show 0 < m by omega)
  have pne : u' * u % m ≠ 0 := fun z => by
    rw [z] at pg
    have : ((Int.gcd 0 m : Nat) : Int) = 1 := pg
    rw [Int.gcd_zero_left] at this
    omega
  have erow : mulM (u' * u % m) m V = mulM u' m (mulM u m V) := by
    unfold mulM
    rw [List.map_map]
    refine List.map_congr_left fun v _ => ?_
    show u' * u % m * v % m = u' * (u * v % m) % m
    rw [Int.mul_emod, Int.emod_emod, ← Int.mul_emod, Int.mul_emod u', Int.emod_emod, ← Int.mul_emod, Int.mul_assoc]
  have := hmin _ (List.mem_map_of_mem (f := fun u => (m, mulM u m V, u * r % m)) (mem_units.mpr ⟨by omega, p1, pg⟩))
  rw [← erow]
  refine List.not_lt.mp fun lt => this ?_
  exact .inr ⟨rfl, .inl lt⟩

theorem off_step {ns ws ps cs : List Int} {m r : Int} (m3 : 3 ≤ m) (mo : m % 2 = 1) (F : FitW ns m ws) (r0 : 0 ≤ r) (r1 : r < m) (l1 : ps.length = ns.length) (l2 : cs.length = ns.length) (h : wsum ws ps % m ≠ r) : wsum ws (shiftL ns ps cs (sgD (decide (wsum ws (shiftL ns ps cs 1) % m = r)))) % m ≠ r := by
  by_cases c : wsum ws (shiftL ns ps cs 1) % m = r
  · rw [decide_eq_true c]
    show wsum ws (shiftL ns ps cs (-1)) % m ≠ r
    intro c2
    have d1 := wsum_shiftL (f := 1) F.len l1 l2 F.fit
    have d2 := wsum_shiftL (f := -1) F.len l1 l2 F.fit
    have e1 : m ∣ wsum ws (shiftL ns ps cs 1) - r := by
      have := emodd (wsum ws (shiftL ns ps cs 1)) m
      rw [c] at this
      have := Int.dvd_neg.mpr this
      rwa [Int.neg_sub] at this
    have e2 : m ∣ wsum ws (shiftL ns ps cs (-1)) - r := by
      have := emodd (wsum ws (shiftL ns ps cs (-1))) m
      rw [c2] at this
      have := Int.dvd_neg.mpr this
      rwa [Int.neg_sub] at this
    have s1 := Int.dvd_add (Int.dvd_sub e1 d1) (Int.dvd_sub e2 d2)
    have s2 : m ∣ 2 ^ 1 * (wsum ws ps - r) := (congrArg (m ∣ ·) (by grind)).mp s1
    have s3 := odd_pow2 mo 1 s2
    exact h (by rw [emod_of_dvd s3, Int.emod_eq_of_lt r0 r1])
  · rw [decide_eq_false c]
    exact c
theorem explM_off {ns ws : List Int} {m r : Int} (one : ∀ n ∈ ns, 1 ≤ n) (m3 : 3 ≤ m) (mo : m % 2 = 1) (F : FitW ns m ws) (r0 : 0 ≤ r) (r1 : r < m) : ∀ (ms : List (List Int × Bool)) (p : List Int), p.length = ns.length → (∀ c ∈ ms, c.1.length = ns.length) → wsum ws p % m ≠ r → explM ns m r ws p ms = true → ∀ i, i ≤ ms.length → wsum ws (posL ns p (ms.take i)) % m ≠ r
  | [], p, _, _, h, _, i, hi => by
    rw [Nat.le_zero.mp hi]
    exact h
  | c :: ms, p, lp, lc, h, he, 0, _ => h
  | c :: ms, p, lp, lc, h, he, i + 1, hi => by
    unfold explM at he
    rw [Bool.and_eq_true, beq_iff_eq] at he
    have l2 := lc c List.mem_cons_self
    have st := off_step m3 mo F r0 r1 lp l2 h
    rw [he.1] at st
    have ls : (shiftL ns p c.1 (sgD c.2)).length = ns.length := (shift_seat one lp l2).len
    exact explM_off one m3 mo F r0 r1 ms _ ls (fun d hd => lc d (List.mem_cons_of_mem _ hd)) st he.2 i (Nat.le_of_succ_le_succ hi)
theorem explB_off {ns p ws : List Int} {m r : Int} {ms : List (List Int × Bool)} (one : ∀ n ∈ ns, 1 ≤ n) (m3 : 3 ≤ m) (mo : m % 2 = 1) (F : FitW ns m ws) (r0 : 0 ≤ r) (r1 : r < m) (lp : p.length = ns.length) (lc : ∀ c ∈ ms, c.1.length = ns.length) (he : explB ns p ms (m, ws, r) = true) : ∀ q ∈ walkL ns p ms, wsum ws q % m ≠ r := fun q hq => by
  unfold explB at he
  rw [Bool.and_eq_true, decide_eq_true_iff] at he
  unfold walkL at hq
  obtain ⟨i, hi, rfl⟩ := List.mem_map.mp hq
  have := List.mem_range.mp hi
  exact explM_off one m3 mo F r0 r1 ms p lp lc he.1 he.2 i (by omega)
theorem explM_app {ns ws : List Int} {m r : Int} : ∀ (ms ls : List (List Int × Bool)) (p : List Int), explM ns m r ws p (ms ++ ls) = (explM ns m r ws p ms && explM ns m r ws (posL ns p ms) ls)
  | [], _, _ => by simp [explM, posL]
  | c :: ms, ls, p => by
    have ih := explM_app (ns := ns) (m := m) (r := r) (ws := ws) ms ls (shiftL ns p c.1 (sgD c.2))
    show ((decide (wsum ws (shiftL ns p c.1 1) % m = r) == c.2) && explM ns m r ws (shiftL ns p c.1 (sgD c.2)) (ms ++ ls)) = (((decide (wsum ws (shiftL ns p c.1 1) % m = r) == c.2) && explM ns m r ws (shiftL ns p c.1 (sgD c.2)) ms) && explM ns m r ws (posL ns (shiftL ns p c.1 (sgD c.2)) ms) ls)
    rw [ih, Bool.and_assoc]
theorem explM_at {ns ws : List Int} {m r : Int} {ms : List (List Int × Bool)} {p : List Int} (h : explM ns m r ws p ms = true) {i : Nat} {c : List Int × Bool} (hc : ms[i]? = some c) : decide (wsum ws (shiftL ns (posL ns p (ms.take i)) c.1 1) % m = r) = c.2 := by
  have il : i < ms.length := (List.getElem?_eq_some_iff.mp hc).1
  have ed : ms.drop i = c :: ms.drop (i + 1) := by
    rw [List.drop_eq_getElem_cons il]
    congr 1
    have := List.getElem?_eq_getElem il
    rw [hc] at this
    exact (Option.some.inj this).symm
  rw [← List.take_append_drop i ms, explM_app, ed, Bool.and_eq_true] at h
  have h2 := h.2
  unfold explM at h2
  rw [Bool.and_eq_true, beq_iff_eq] at h2
  exact h2.1
theorem explB_take {ns p : List Int} {w3 : W3} {ms : List (List Int × Bool)} (k : Nat) (h : explB ns p ms w3 = true) : explB ns p (ms.take k) w3 = true := by
  unfold explB at *
  rw [Bool.and_eq_true] at *
  refine ⟨h.1, ?_⟩
  have h2 := h.2
  rw [← List.take_append_drop k ms, explM_app, Bool.and_eq_true] at h2
  exact h2.1
/-- a part of the game has the same witnesses, and more -/
theorem flat_filt {α β : Type} {f : α → List β} {c : β → Bool} : ∀ l : List α, l.flatMap (fun a => (f a).filter c) = (l.flatMap f).filter c
  | [] => rfl
  | a :: l => by rw [List.flatMap_cons, List.flatMap_cons, List.filter_append, flat_filt l]
theorem cons_filt (ns p : List Int) (ms : List (List Int × Bool)) : ∃ base : List W3, ∀ ms, consL ns p ms = base.filter (explB ns p ms) :=
  ⟨((oddsTo ((expoL ns - 1) / 2).toNat).filter fun m => decide (expoL ns % m = 0)).flatMap fun m => ((rowsW ns m).filter (canonB m)).flatMap (resL m), fun ms => by
    unfold consL
    rw [← flat_filt]
    rfl⟩
theorem cons_early (ns p : List Int) (ms : List (List Int × Bool)) (k : Nat) : (consL ns p (ms.take k)).filter (fun w => decide (w ∈ consL ns p ms)) = consL ns p ms := by
  obtain ⟨base, hb⟩ := cons_filt ns p ms
  rw [hb (ms.take k), hb ms, List.filter_filter]
  refine List.filter_congr fun w hw => ?_
  rw [Bool.eq_iff_iff, Bool.and_eq_true, decide_eq_true_iff, List.mem_filter]
  exact ⟨fun h => h.1.2, fun h => ⟨⟨hw, h⟩, explB_take k h⟩⟩
/-- every residue is some seat's -/
theorem gcdW_lin : ∀ (ws : List Int) (g : Int), 0 ≤ g → ∃ (c : Int) (a : List Int), a.length = ws.length ∧ gcdW g ws = g * c + wsum ws a
  | [], g, _ => ⟨1, [], rfl, by show g = g * 1 + 0; omega⟩
  | w :: ws, g, g0 => by
    obtain ⟨c, a, la, e⟩ := gcdW_lin ws (gcdI g w) (by show (0 : Int) ≤ ((Int.gcd g w : Nat) : Int); omega)
    obtain ⟨x, y, hxy⟩ := bez w.natAbs g.natAbs
    have eg : (g.natAbs : Int) = g := by omega
    have hg : gcdI g w = g * x + (w.natAbs : Int) * y := by
      show ((Int.gcd g w : Nat) : Int) = _
      rw [show Int.gcd g w = Nat.gcd g.natAbs w.natAbs from rfl, ← hxy, eg]
    obtain ⟨y', hy'⟩ : ∃ y', (w.natAbs : Int) * y = w * y' := by
      rcases Int.natAbs_eq w with z | z
      · exact ⟨y, by rw [← z]⟩
      · refine ⟨-y, ?_⟩
        have : (w.natAbs : Int) = -w := by omega
        rw [this]
        grind
    refine ⟨x * c, (y' * c) :: a, by simp [la], ?_⟩
    show gcdW (gcdI g w) ws = _
    rw [e, hg, hy', wsum_cons]
    grind
theorem wsum_zeros : ∀ ws : List Int, wsum ws (List.replicate ws.length 0) = 0
  | [] => rfl
  | w :: ws => by
    rw [List.length_cons, List.replicate_succ, wsum_cons, wsum_zeros ws, Int.mul_zero]
    rfl
theorem seat_res {ns ws : List Int} {m r : Int} (one : ∀ n ∈ ns, 1 ≤ n) (m3 : 3 ≤ m) (F : FitW ns m ws) (g : gcdW m ws = 1) (r0 : 0 ≤ r) (r1 : r < m) : ∃ x, SeatOk ns x ∧ wsum ws x % m = r := by
  obtain ⟨c, a, la, e⟩ := gcdW_lin ws m (by omega)
  rw [g] at e
  have lz : (List.replicate ns.length (0 : Int)).length = ns.length := List.length_replicate
  have la2 : a.length = ns.length := by rw [la, F.len]
  refine ⟨shiftL ns (List.replicate ns.length 0) a r, shift_seat one lz la2, ?_⟩
  have d := wsum_shiftL (f := r) F.len lz la2 F.fit
  have z : wsum ws (List.replicate ns.length 0) = 0 := by
    rw [← F.len]
    exact wsum_zeros ws
  rw [z, Int.zero_add] at d
  have d2 : m ∣ r * wsum ws a - r := ⟨-(r * c), by
    have : wsum ws a = 1 - m * c := by omega
    rw [this]
    grind⟩
  have d3 := Int.dvd_add d d2
  rw [show wsum ws (shiftL ns (List.replicate ns.length 0) a r) - r * wsum ws a + (r * wsum ws a - r) = wsum ws (shiftL ns (List.replicate ns.length 0) a r) - r by omega] at d3
  rw [emod_of_dvd d3, Int.emod_eq_of_lt r0 r1]
theorem minW_mem : ∀ (ts : List W3) (t : W3), minW t ts ∈ t :: ts
  | [], t => List.mem_cons_self
  | x :: ts, t => by
    have e : minW t (x :: ts) = minW (if LtW x t then x else t) ts := rfl
    rw [e]
    by_cases c : LtW x t
    · rw [if_pos c]
      exact List.mem_cons_of_mem _ (minW_mem ts x)
    · rw [if_neg c]
      rcases List.mem_cons.mp (minW_mem ts t) with h | h
      · rw [h]
        exact List.mem_cons_self
      · exact List.mem_cons_of_mem _ (List.mem_cons_of_mem _ h)
theorem can_small {ns p W : List Int} {M R : Int} {ms : List (List Int × Bool)} (one : ∀ n ∈ ns, 1 ≤ n) (M3 : 3 ≤ M) (Mo : M % 2 = 1) (F : FitW ns M W) (R0 : 0 ≤ R) (R1 : R < M) (hR : ∃ t : List Int, wsum W t % M = R) (hp : wsum W p % M ≠ R) (he : explB ns p ms (M, W, R) = true) : M / gcdW M W ≤ prodL ns := by
  obtain ⟨_, h1, h2⟩ := can_mem one M3 Mo F R0 R1 hR hp he
  have he1 : ∀ y ∈ canL M W R, y.1 = M / gcdW M W := fun y hy => by
    unfold canL at hy
    obtain ⟨u, _, rfl⟩ := List.mem_map.mp hy
    rfl
  cases hc : canL M W R with
  | nil => exact absurd hc h1
  | cons t ts =>
    rw [hc] at h2 he1
    have hm := minW_mem ts t
    obtain ⟨a1, a2, a3, a4, _⟩ := cons_mem (h2 _ hm (minW_le ts t).1)
    rw [he1 _ hm] at a1 a2 a3 a4
    have g : gcdW (M / gcdW M W) (minW t ts).2.1 = 1 := by
      unfold canonB at a4
      rw [Bool.and_eq_true, decide_eq_true_iff] at a4
      exact a4.1
    have E := expo_ok one
    have e1 := E.one
    have em := canon_dvd one E (by omega) a2 (fit_rows a3) g
    have l1 := Int.le_of_dvd (by omega) (Int.dvd_of_emod_eq_zero em)
    have l2 := Int.le_of_dvd (by have := prodL_pos one; omega) E.dvd
    omega

section
variable {P : Program} {w : World} {K : PySem.W.Frag} {mg : Str → Option Value} {base : Heap}
def sp_law_canonical : Sp := fun vs H Q _ => ∃ (t : Addr) (M R : Int) (W : List Int), vs = [.ref t] ∧ WitAt H t M W R ∧ 3 ≤ M ∧ M.natAbs < 2 ^ 5000 ∧ W.length ≤ 4 ∧ (∀ x ∈ W, 0 ≤ x ∧ x < M) ∧ 0 ≤ R ∧ R < M ∧ 2 ≤ M / gcdW M W ∧ M / gcdW M W ≤ 300 ∧ canL M W R ≠ [] ∧
  ∀ (q : Addr) (w3 : W3) H2, Ex H H2 → w3 ∈ canL M W R → WitAt H2 q w3.1 w3.2.1 w3.2.2 → (∀ y ∈ canL M W R, ¬ LtW y w3) → Q (.ref q) H2
theorem ok_law_canonical (T : TX K mg) : FnOk P w K mg base CX0 2 T.f_law_canonical T.fd_law_canonical ["_law_told"] sp_law_canonical := by
  refine T.F_law_canonical.ok sc_law_canonical (fun vs H Q E h => ?_) (fun cdv A outer s H vs Q E hr h => ?_)
  · obtain ⟨t, M, R, W, rfl, _⟩ := h
    rfl
  · obtain ⟨t, M, R, W, rfl, ⟨wa, ht, hwa⟩, M3, Mb, l4, wb, R0, R1, m2, m3, cne, k⟩ := h
    refine ⟨_, (pss_cons (ps_asg (pv 0) (pg_tup rfl (pgs_cons (pg_name (i := 1) sc_law_canonical.nd rfl (Or.inr rfl)) (pgs_cons (pg_name (i := 2) sc_law_canonical.nd rfl (Or.inl rfl)) (pgs_cons (pg_name (i := 3) sc_law_canonical.nd rfl (Or.inl rfl)) pgs_nil))))) (pss_cons (ps_set (i := 4) sc_law_canonical.nd rfl (Or.inr rfl) (pv 1)) (pss_cons (ps_for PassesOwn.never rfl (pi_seq (pv 2)) (pg_name (i := 5) sc_law_canonical.nd rfl (Or.inl rfl)) (pss_one (ps_set (i := 4) sc_law_canonical.nd rfl (Or.inr rfl) (pe_call (ok_law_divisor T) hr rfl T.m_law_divisor T.F_law_divisor.kp T.b_law_divisor .nil pass0 (pa_cons (pv 4) (pa_cons (pv 5) pa_nil)))))) (pss_cons (ps_asg (pe_tup (pa_cons (pe_op op_fdivW (pv 1) (pv 4)) (pa_cons (pe_lc (own := [("_law_weight", 5)]) (g := (gName 5)) rfl sc_law_canonical.nd (pi_seq (pv 2)) (blkOk_by (N := N_law_canonical) (sc := defScope s_law_canonical) (by decide +kernel)) (fun _ _ _ _ _ => (pg_name (i := 5) sc_law_canonical.nd rfl (Or.inl rfl))) (fun _ _ _ _ _ => pts_nil) (fun _ _ _ _ _ => (pe_op op_fdivW (pv 5) (pv 4)))) pa_nil))) (pg_tup rfl (pgs_cons (pg_name (i := 1) sc_law_canonical.nd rfl (Or.inr rfl)) (pgs_cons (pg_name (i := 2) sc_law_canonical.nd rfl (Or.inl rfl)) pgs_nil)))) (pss_cons (ps_set (i := 6) sc_law_canonical.nd rfl (Or.inl rfl) (pe_lst pa_nil)) (pss_cons (ps_for PassesOwn.never rfl (pi_range2 rfl T.z_range (pa_cons pe_int (pa_cons (pv 1) pa_nil))) (pg_name (i := 7) sc_law_canonical.nd rfl (Or.inr rfl)) (pss_one (ps_if (pt_cmpR op_eq (pe_call (ok_law_divisor T) hr rfl T.m_law_divisor T.F_law_divisor.kp T.b_law_divisor .nil pass0 (pa_cons (pv 7) (pa_cons (pv 1) pa_nil))) pe_int (nomark _)) (pss_cons (ps_set (i := 8) sc_law_canonical.nd rfl (Or.inl rfl) (pe_callTy call_tuple_of (by rfl) T.z_tuple (by decide +kernel) (pa_cons (pe_lc (own := [("_law_weight", 5)]) (g := (gName 5)) rfl sc_law_canonical.nd (pi_seq (pv 2)) (blkOk_by (N := N_law_canonical) (sc := defScope s_law_canonical) (by decide +kernel)) (fun _ _ _ _ _ => (pg_name (i := 5) sc_law_canonical.nd rfl (Or.inl rfl))) (fun _ _ _ _ _ => pts_nil) (fun _ _ _ _ _ => (pe_op op_mod (pe_op op_mulI (pv 7) (pv 5)) (pv 1)))) pa_nil))) (pss_one (ps_expr (pe_bm PySem.F.plainAttrs_list PySem.F.slot_list_append PySem.F.type_list_append mt_append (pv 6) (pa_cons (pe_tup (pa_cons (pv 1) (pa_cons (pv 8) (pa_cons (pe_op op_mod (pe_op op_mulI (pv 7) (pe_op op_fdivW (pv 3) (pv 4))) (pv 1)) pa_nil)))) pa_nil))))) pss_nil))) (pss_one (ps_ret (pe_callB (cr_minW rfl (u65 hr)) (by rfl) T.z_min (by decide +kernel) (pa_cons (pv 6) pa_nil)))))))))), ?_⟩
    refine ⟨_, rfl, t, _, rfl, SqT.of ht, rfl, _, _, rfl, _, _, rfl, _, _, rfl, rfl, ?_⟩
    have S0 := gcdW_nn W M (by omega)
    have Sm := gcdW_m W M
    have Sw := gcdW_w W M
    have S1 : 1 ≤ gcdW M W := by
      refine Classical.byContradiction fun no => ?_
      have z : gcdW M W = 0 := by omega
      rw [z] at Sm
      have := Int.zero_dvd.mp Sm
      omega
    have Sl := Int.le_of_dvd (by omega) Sm
    have Sb : (gcdW M W).natAbs < 2 ^ 5000 := Nat.lt_of_le_of_lt (by omega) Mb
    have hwq : SqH H (true, wa) (W.map V.int) := hwa
    have ecan : canL M W R = (unitsL 1 (M / gcdW M W)).map fun u => (M / gcdW M W, mulM u (M / gcdW M W) (W.map fun w => w / gcdW M W), u * (R / gcdW M W) % (M / gcdW M W)) := rfl
    dsimp only
    refine ⟨_, rfl, _, rfl, (true, wa), rfl, ⟨_, hwq.sq⟩, ?_⟩
    refine for_it (walk_seq (p := (true, wa)) (xs := W.map V.int)) (fun i σ Hx => (∃ y5 y6 y7 y8 : Option V, σ = [some (.ref t), some (.int M), some (.ref wa), some (.int R), some (.int (gcdW M (W.take i))), y5, y6, y7, y8]) ∧ Hx = H) ⟨⟨_, _, _, _, rfl⟩, rfl⟩ (fun i σ Hx _ q => by rw [q.2]; exact hwq.sq) ?_ ?_
    · rintro i x σ _ Hx hi ⟨⟨y5, y6, y7, y8, rfl⟩, rfl⟩ ⟨rfl, hx⟩
      obtain ⟨n, hn, rfl⟩ := map_get hx
      have g0 := gcdW_nn (W.take i) M (by omega)
      have n0 := (wb n (List.mem_of_getElem? hn)).1
      have st : gcdW M (W.take (i + 1)) = gcdI (gcdW M (W.take i)) n := by
        rw [take_more hn]
        unfold gcdW
        rw [List.foldl_append]
        rfl
      dsimp only [gName]
      exact ⟨_, rfl, _, rfl, _, _, rfl, g0, n0, ⟨_, _, _, _, by rw [st]; rfl⟩, rfl⟩
    rintro σ Hx ⟨⟨y5, y6, y7, y8, rfl⟩, rfl⟩
    rw [show W.take (W.map V.int).length = W by rw [List.length_map, List.take_length]]
    generalize gcdW M W = S at *
    dsimp only
    refine ⟨_, rfl, _, rfl, _, _, rfl, rfl, wide_div (by omega) Sb (by decide) (by decide), _, rfl, (true, wa), rfl, ⟨_, hwq.sq⟩, fun D hD => ?_⟩
    refine lc_vals (walk_seq (p := (true, wa)) (xs := W.map V.int)) ((W.map fun w => w / S).map V.int) (by simp) (by rw [List.length_map]; omega) hD (fun Ha ea => (SqH.mono (p := (true, wa)) ea hwq).sq) ?_ gmono_name ?_
    · rintro j x Ha Hb R2 hj ea ⟨e0, hx⟩ kk
      subst e0
      obtain ⟨v, hv, rfl⟩ := map_get hx
      refine ⟨rfl, _, rfl, _, rfl, _, _, rfl, rfl, wide_div (by omega) Sb (by decide) (by decide), kk _ _ exr ?_⟩
      rw [List.getElem?_map, List.getElem?_map, hv]
      rfl
    intro H2 e2 hD2
    refine ⟨slen rfl, ?_⟩
    (intro tq ntq; generalize hGtq : upd _ tq _ = H3; have eH3 := exG hGtq ntq; have htq := atG hGtq; clear hGtq)
    refine ⟨tq, _, rfl, SqT.of htq, rfl, _, _, rfl, _, _, rfl, rfl, ?_⟩
    have E3 := ext e2 eH3
    have hD3 := eH3 _ _ hD2
    have vb : ∀ v ∈ W.map (fun w => w / S), 0 ≤ v ∧ v < M / S := fun v hv => by
      obtain ⟨x, hx, rfl⟩ := List.mem_map.mp hv
      obtain ⟨b0, b1⟩ := wb x hx
      have ew : S * (x / S) = x := Int.mul_ediv_cancel' (Sw x hx)
      have eM : S * (M / S) = M := Int.mul_ediv_cancel' Sm
      refine ⟨Int.ediv_nonneg b0 (by omega), ?_⟩
      refine Int.lt_of_mul_lt_mul_left (a := S) ?_ (by omega)
      rw [ew, eM]
      exact b1
    have rb : 0 ≤ R / S ∧ R / S ≤ R := ⟨Int.ediv_nonneg R0 (by omega), Int.ediv_le_self _ R0⟩
    dsimp only [gName]
    generalize hm : M / S = m at *
    generalize hV : (W.map fun w => w / S) = Vv at *
    refine ⟨slen rfl, ?_⟩
    (intro fl nfl; generalize hGfl : upd _ fl _ = H4; have eH4 := exG hGfl nfl; have hfl := atG hGfl; clear hGfl)
    dsimp only [gName]
    let g : Int → W3 := fun u => (m, mulM u m Vv, u * (R / S) % m)
    have eall : canL M W R = ((((List.range (m - 1).toNat).map fun (i : Nat) => (1 : Int) + (i : Int)).filter fun u => decide (gcdI u m = 1))).map g := ecan
    refine ⟨_, rfl, 1, m, rfl, by omega, ?_⟩
    refine for_it walk_range (fun i σ Hx => (∃ y5 y7 y8 : Option V, σ = [some (.ref t), some (.int m), some (.ref D), some (.int R), some (.int S), y5, some (.ref fl), y7, y8]) ∧ Ex H3 Hx ∧ WsAt Hx fl ((((List.range i).map fun (i : Nat) => (1 : Int) + (i : Int)).filter fun u => decide (gcdI u m = 1)).map g)) ⟨⟨_, _, _, rfl⟩, eH4, [], hfl, .nil⟩ (fun _ _ _ _ _ => True.intro) ?_ ?_
    · rintro i x σ _ Hy hi ⟨⟨y5, y7, y8, rfl⟩, ey, Wy⟩ ⟨rfl, rfl⟩
      have hi' : i < (m - 1).toNat := hi
      have fs : (((List.range (i + 1)).map fun (i : Nat) => (1 : Int) + (i : Int)).filter fun u => decide (gcdI u m = 1)).map g = (((List.range i).map fun (i : Nat) => (1 : Int) + (i : Int)).filter fun u => decide (gcdI u m = 1)).map g ++ if gcdI (1 + (i : Int)) m = 1 then [g (1 + (i : Int))] else [] := by
        rw [List.range_succ, List.map_append, List.filter_append, List.map_append, List.map_singleton]
        by_cases c : gcdI (1 + (i : Int)) m = 1
        · rw [if_pos c, List.filter_cons_of_pos (by simpa using c), List.filter_nil, List.map_singleton]
        · rw [if_neg c, List.filter_cons_of_neg (by simpa using c), List.filter_nil, List.map_nil]
      have ll : ((((List.range i).map fun (i : Nat) => (1 : Int) + (i : Int)).filter fun u => decide (gcdI u m = 1)).map g).length ≤ 300 := by
        rw [List.length_map]
        refine Nat.le_trans (List.length_filter_le _ _) ?_
        rw [List.length_map, List.length_range]
        omega
      generalize (((List.range i).map fun (i : Nat) => (1 : Int) + (i : Int)).filter fun u => decide (gcdI u m = 1)).map g = L0 at fs ll Wy
      dsimp only [gName]
      refine ⟨_, rfl, _, rfl, _, _, rfl, by omega, by omega, rfl, _, rfl, ?_⟩
      by_cases c : gcdI (1 + (i : Int)) m = 1
      rotate_left
      · refine itf (decide_eq_false fun z => c (V.int.inj z)) ⟨⟨_, _, _, rfl⟩, ey, ?_⟩
        rw [fs, if_neg c, List.append_nil]
        exact Wy
      rw [if_pos c] at fs
      refine itt (decide_eq_true (congrArg V.int c)) ?_
      have hDy := ey _ _ hD3
      have hDq : SqH Hy (false, D) (Vv.map V.int) := hDy
      have lV : Vv.length ≤ 4 := by rw [← hV, List.length_map]; exact l4
      refine ⟨_, rfl, (false, D), rfl, ⟨_, hDq.sq⟩, fun D2 hD2 => ?_⟩
      refine lc_vals (walk_seq (p := (false, D)) (xs := Vv.map V.int)) ((mulM (1 + (i : Int)) m Vv).map V.int) (by unfold mulM; simp) (by rw [List.length_map]; omega) hD2 (fun Ha ea => (SqH.mono (p := (false, D)) ea hDq).sq) ?_ gmono_name ?_
      · rintro j y Hc Hd R2 hj ec2 ⟨e1, hy⟩ kk2
        subst e1
        obtain ⟨v, hv, rfl⟩ := map_get hy
        have hvb := vb v (List.mem_of_getElem? hv)
        refine ⟨rfl, ?_⟩
        refine ⟨_, rfl, _, rfl, _, _, rfl, rfl, ?_, _, rfl, _, _, rfl, rfl, by omega, kk2 _ _ exr ?_⟩
        · exact (wide_mul (a := 40) (b := 40) (show ((1 : Int) + (i : Int)).natAbs < 2 ^ 40 by show _ < 1099511627776; omega) (show v.natAbs < 2 ^ 40 by show _ < 1099511627776; omega) (by decide) (by decide) (by decide)).ok
        unfold mulM
        rw [List.getElem?_map, List.getElem?_map, hv]
        rfl
      intro H5 e5 hD5
      refine ⟨D2, _, rfl, .inl ⟨SqL.of hD5, ?_⟩⟩
      (intro t2 nt2; generalize hGt2 : upd _ t2 _ = H6; have eH6 := exG hGt2 nt2; have ht2 := atG hGt2; clear hGt2)
      have ey6 := ext ey (ext e5 eH6)
      have W6 := Wy.mono (ext e5 eH6)
      obtain ⟨acc0, hf6, _⟩ := id W6
      dsimp only [gName]
      refine ⟨_, rfl, .inl ⟨rfl, _, SqL.of hf6⟩, _, rfl, _, rfl, _, rfl, _, rfl, _, rfl, _, _, rfl, rfl, wide_div (by omega) Sb (by decide) (by decide), _, _, rfl, rfl, ?_, _, rfl, _, _, rfl, rfl, by omega, slen rfl, ?_⟩
      · exact (wide_mul (a := 40) (b := 5000) (show ((1 : Int) + (i : Int)).natAbs < 2 ^ 40 by show _ < 1099511627776; omega) (show (R / S).natAbs < 2 ^ 5000 from Nat.lt_of_le_of_lt (by omega) Mb) (by decide) (by decide) (by decide)).ok
      (intro tw ntw; generalize hGtw : upd _ tw _ = H7; have eH7 := exG hGtw ntw; have htw := atG hGtw; clear hGtw)
      have W7 := W6.mono eH7
      obtain ⟨acc, b1, b2, b3⟩ := wits_push (w3 := g (1 + (i : Int))) W7 ⟨tw, rfl, t2, htw, eH7 _ _ ht2⟩
      refine ⟨fl, _, _, rfl, rfl, b1, ?_, ⟨_, _, _, rfl⟩, ex_upd (ext ey6 eH7) nfl, ?_⟩
      · rw [b2]
        exact Nat.lt_of_le_of_lt ll (by decide)
      rw [fs]
      exact b3
    rintro σ Hy ⟨⟨y5, y7, y8, rfl⟩, ey, xs, hxs, pxs⟩
    rw [← eall] at pxs
    refine ⟨_, rfl, fl, xs, canL M W R, rfl, hxs, pxs, cne, fun q w3 hw wit hle => ?_⟩
    exact k q w3 Hy (ext E3 ey) hw wit hle
end

theorem XB.xi {p CR dx : Addr} {fs : List (Str × V)} {H H2 : Hp} (hp : H p = some (.ins CR dx fs)) (xb : XB p H H2) : XI H H2 := fun c o n z => xb c o (ne_of z hp (n _ _ _)) z
theorem tab_xbs {C s a : Addr} {H H2 : Hp} {ns : List Int} (src : Src H s) (xb : XB s H H2) (h : TabAt C H a ns) : TabAt C H2 a ns := by
  obtain ⟨dx, t, h1, h2⟩ := h
  obtain ⟨u, v, w, hs⟩ := src
  exact ⟨dx, t, xb _ _ (ne_of h1 hs (by intro z; cases z)) h1, xb _ _ (ne_of h2 hs (by intro z; cases z)) h2⟩
theorem rows_xb {s q : Addr} {H H2 : Hp} {tss : List (List Int)} (src : Src H s) (n : q ≠ s) (xb : XB s H H2) (h : RowsAt H q tss) : RowsAt H2 q tss := by
  obtain ⟨xs, h1, h2⟩ := h
  exact ⟨xs, xb _ _ n h1, h2.monoT fun _ _ z => tup_xb src z xb⟩
theorem words_src {H : Hp} {h s : Addr} {bs : List Bool} (ne : bs ≠ []) (hh : H h = some (.lst (wordsV bs))) (src : Src H s) : h ≠ s := fun z => by
  obtain ⟨a, b, c, h3⟩ := src
  cases bs with
  | nil => exact ne rfl
  | cons q t =>
    rw [z, h3] at hh
    cases hh
theorem RespU.src {CC C p s : Addr} {H H2 : Hp} {ns : List Int} {tss : List (List Int)} {rs : RS} {u : Nat} (src : Src H s) (xb : XB s H H2) (ok : rs.Ok ns tss) (h : RespU CC C H p ns tss rs u) : RespU CC C H2 p ns tss rs u := by
  obtain ⟨dx, a, g, st, dv, gs, h1, h2, h3, h4, h5, h6⟩ := h
  obtain ⟨x, y, z, hs⟩ := id src
  refine ⟨dx, a, g, st, dv, gs, xb _ _ (ne_of h1 hs (by intro z; cases z)) h1, tab_xbs src xb h2, tup_xb src h3 xb, h4.monoT (fun _ _ z => tup_xb src z xb), ?_, ?_⟩
  · cases rs with
    | words bs =>
      obtain ⟨l, e, h⟩ := h5
      exact ⟨l, e, xb _ _ (words_src ok.1 h src) h⟩
    | wit m ws r =>
      obtain ⟨l, e, wa, q1, q2⟩ := h5
      exact ⟨l, e, wa, tup_xb src q1 xb, tup_xb src q2 xb⟩
    | lay fs => exact h5
  · cases rs with
    | words bs => exact h6
    | wit m ws r => exact h6
    | lay fs =>
      obtain ⟨d, e, q⟩ := h6
      exact ⟨d, e, xb _ _ (ne_of q hs (by intro z; cases z)) q⟩
theorem RespU.xl {CC C p D : Addr} {H H2 : Hp} {ns W : List Int} {tss : List (List Int)} {M R : Int} {u : Nat} {ys : List V} (hD : H D = some (.lst ys)) (xb : XB D H H2) (h : RespU CC C H p ns tss (.wit M W R) u) : RespU CC C H2 p ns tss (.wit M W R) u := by
  obtain ⟨dx, a, g, st, dv, gs, h1, ⟨dt, t0, t1, t2⟩, h3, h4, ⟨l, e, wa, q1, q2⟩, h6⟩ := h
  have tp : ∀ c xs, H c = some (.tup xs) → H2 c = some (.tup xs) := fun c xs z => xb _ _ (ne_of z hD (by intro q; cases q)) z
  exact ⟨dx, a, g, st, dv, gs, xb _ _ (ne_of h1 hD (by intro q; cases q)) h1, ⟨dt, t0, xb _ _ (ne_of t1 hD (by intro q; cases q)) t1, tp _ _ t2⟩, tp _ _ h3, h4.monoT (fun _ _ z => tp _ _ z), ⟨l, e, wa, tp _ _ q1, tp _ _ q2⟩, h6⟩

theorem sh_encW (x : W3) : Sh 59 (encW x) := by
  refine sh_tuple (n := 58) fun d hd => ?_
  simp only [List.mem_cons, List.not_mem_nil, or_false] at hd
  rcases hd with rfl | rfl | rfl
  · exact sh_int _
  · exact sh_ints (n := 57) _
  · exact sh_int _
theorem sh_wits (L : List W3) : Sh 60 (.list (L.map encW)) := sh_list (n := 59) fun e he => by
  obtain ⟨x, _, rfl⟩ := List.mem_map.mp he
  exact sh_encW x
theorem ne_wits {K : PySem.W.Frag} {H : Hp} {f g : Addr} {zs ys : List V} {L : List W3} {Q : VK} (hf : H f = some (.lst zs)) (rf : Paired (PdW H) zs L) (hg : H g = some (.lst ys)) (rg : Paired (PdW H) ys L) (k : Q (.bl false) H) : rNeD K (.ref f) (.ref g) H Q :=
  ⟨.list (L.map encW), .list (L.map encW), .lst (SqL.of hf) (dp_wits rf), .lst (SqL.of hg) (dp_wits rg), (sh_wits L).ok, (sh_wits L).ok, by
    rw [eqv_refl _ (sh_wits L).1]
    exact k⟩
theorem dp_wit {K : PySem.W.Frag} {H : Hp} {t : Addr} {w3 : W3} (h : WitAt H t w3.1 w3.2.1 w3.2.2) : Dp K H (.ref t) (encW w3) := by
  obtain ⟨wa, h1, h2⟩ := h
  exact .tup (SqT.of h1) (.cons (.int _) (.cons (dp_ints h2) (.cons (.int _) .nil)))
theorem eqv_encW (a b : W3) : PyData.eqv (encW a) (encW b) = decide (a = b) := by
  obtain ⟨a1, a2, a3⟩ := a
  obtain ⟨b1, b2, b3⟩ := b
  show PyData.eqv (.tuple [.int a1, iT a2, .int a3]) (.tuple [.int b1, iT b2, .int b3]) = _
  simp only [PyData.eqv, PyData.eqvAll]
  rw [eqvAll_ints]
  rw [Bool.eq_iff_iff]
  simp
theorem any_wits (L : List W3) (x : W3) : ((L.map encW).any fun z => PyData.eqv z (encW x)) = decide (x ∈ L) := by
  rw [List.any_map, Bool.eq_iff_iff, List.any_eq_true, decide_eq_true_eq]
  constructor
  · rintro ⟨y, hy, h⟩
    have h2 : PyData.eqv (encW y) (encW x) = true := h
    rw [eqv_encW] at h2
    rw [← of_decide_eq_true h2]
    exact hy
  · intro h
    refine ⟨x, h, ?_⟩
    show PyData.eqv (encW x) (encW x) = true
    rw [eqv_encW]
    exact decide_eq_true rfl
theorem cons_len {ns p : List Int} {ms : List (List Int × Bool)} (one : ∀ n ∈ ns, 1 ≤ n) (pr : prodL ns ≤ 120) : (consL ns p ms).length ≤ 60 * 90000 := by
  have e := Int.le_of_dvd (by have := prodL_pos one; omega) (expo_ok one).dvd
  unfold consL
  refine Nat.le_trans (flat_le (c := 90000) fun m hm => ?_) (Nat.mul_le_mul_right _ ?_)
  · have hm1 := (List.mem_filter.mp hm).1
    obtain ⟨j, hj, rfl⟩ := List.mem_map.mp hm1
    have := List.mem_range.mp hj
    exact wits_len one (by omega) (by omega) (by omega)
  · refine Nat.le_trans (List.length_filter_le _ _) ?_
    unfold oddsTo
    rw [List.length_map, List.length_range]
    omega
theorem hit_none {hss tss : List (List Int)} (h : ∀ q ∈ hss, q ∉ tss) : hitV hss tss = .non := by
  unfold hitV
  have : hitsL hss tss = [] := by
    unfold hitsL
    rw [List.filter_eq_nil_iff]
    rintro ⟨q, i⟩ hz
    have := h q (List.mem_zipIdx' hz |>.2 ▸ List.getElem_mem _)
    simpa using this
  rw [this]
  rfl
theorem cons_m {ns p : List Int} {ms : List (List Int × Bool)} {w3 : W3} (one : ∀ n ∈ ns, 1 ≤ n) (pr : prodL ns ≤ 120) (h : w3 ∈ consL ns p ms) : w3.1 ≤ 120 := by
  have e := Int.le_of_dvd (by have := prodL_pos one; omega) (expo_ok one).dvd
  unfold consL at h
  obtain ⟨m, hm, hw⟩ := List.mem_flatMap.mp h
  have hm1 := (List.mem_filter.mp hm).1
  obtain ⟨j, hj, rfl⟩ := List.mem_map.mp hm1
  have := List.mem_range.mp hj
  unfold witsM at hw
  obtain ⟨ws, _, hr⟩ := List.mem_flatMap.mp (List.mem_filter.mp hw).1
  unfold resL at hr
  obtain ⟨r, _, rfl⟩ := List.mem_map.mp hr
  show 3 + (j : Int) * 2 ≤ 120
  omega
theorem seat_b : ∀ {ns q : List Int}, SeatOk ns q → (∀ n ∈ ns, n ≤ 300) → ∀ x ∈ q, 0 ≤ x ∧ x < 300
  | [], [], _, _ => fun _ h => nomatch h
  | n :: ns, x :: xs, ⟨⟨a, b⟩, c⟩, h => fun y hy => by
    rcases List.mem_cons.mp hy with rfl | hy
    · have := h n List.mem_cons_self
      omega
    · exact seat_b c (fun m hm => h m (List.mem_cons_of_mem _ hm)) y hy
theorem walk_mem {ns p q : List Int} {ms : List (List Int × Bool)} (one : ∀ n ∈ ns, 1 ≤ n) (sk : SeatOk ns p) (cl : ∀ c ∈ ms, c.1.length = ns.length) (h : q ∈ walkL ns p ms) : SeatOk ns q := by
  unfold walkL at h
  obtain ⟨i, _, rfl⟩ := List.mem_map.mp h
  exact pos_ok one sk fun m hm => cl m (List.mem_of_mem_take hm)
theorem in_ints (x : Int) (l : List Int) : inV (V.int x) (l.map V.int) = decide (x ∈ l) := by
  rw [Bool.eq_iff_iff, decide_eq_true_eq]
  unfold inV
  rw [List.any_map, List.any_eq_true]
  constructor
  · rintro ⟨y, hy, h⟩
    have h2 : y = x := by simpa [eqV] using h
    rw [← h2]
    exact hy
  · intro h
    exact ⟨x, h, by simp [eqV]⟩
theorem flat_ints (l : List Int) : (l.map V.int).all flatV = true := by
  rw [List.all_map, List.all_eq_true]
  exact fun x _ => rfl
theorem MovR.take {H : Hp} : ∀ {xs : List V} {ms : List (List Int × Bool)} (k : Nat), MovR H xs ms → MovR H (xs.take k) (ms.take k)
  | _, _, 0, _ => .nil
  | _, _, _ + 1, .nil => .nil
  | _, _, k + 1, .cons q t => .cons q (MovR.take k t)
theorem paired_take {α β : Type} {R : α → β → Prop} : ∀ {xs : List α} {as : List β} (n : Nat), Paired R xs as → Paired R (xs.take n) (as.take n)
  | _, _, 0, _ => .nil
  | _, _, _ + 1, .nil => .nil
  | _, _, k + 1, .cons q t => .cons q (paired_take k t)
/-- the first seat with a residue -/
def sameT (ns : List Int) (w3 : W3) : List (List Int) := ((allS ns).filter fun q => decide (wsum w3.2.1 q % w3.1 = w3.2.2)).take 1
theorem same_ok {ns : List Int} {w3 : W3} (one : ∀ n ∈ ns, 1 ≤ n) (m3 : 3 ≤ w3.1) (F : FitW ns w3.1 w3.2.1) (g : gcdW w3.1 w3.2.1 = 1) (r0 : 0 ≤ w3.2.2) (r1 : w3.2.2 < w3.1) :
    sameT ns w3 ≠ [] ∧ (sameT ns w3).length ≤ 1 ∧ (∀ t ∈ sameT ns w3, SeatOk ns t) ∧ (sameT ns w3).Nodup ∧ ∀ t ∈ sameT ns w3, wsum w3.2.1 t % w3.1 = w3.2.2 := by
  obtain ⟨x, sx, hx⟩ := seat_res one m3 F g r0 r1
  have mx : x ∈ (allS ns).filter fun q => decide (wsum w3.2.1 q % w3.1 = w3.2.2) := List.mem_filter.mpr ⟨mem_allS.mpr sx, decide_eq_true hx⟩
  unfold sameT
  have mem : ∀ t ∈ ((allS ns).filter fun q => decide (wsum w3.2.1 q % w3.1 = w3.2.2)).take 1, SeatOk ns t ∧ wsum w3.2.1 t % w3.1 = w3.2.2 := fun t ht => by
    obtain ⟨h1, h2⟩ := List.mem_filter.mp (List.mem_of_mem_take ht)
    exact ⟨mem_allS.mp h1, of_decide_eq_true h2⟩
  generalize (allS ns).filter (fun q => decide (wsum w3.2.1 q % w3.1 = w3.2.2)) = L at mx mem
  cases L with
  | nil => exact absurd mx (by simp)
  | cons a t => exact ⟨by simp, by simp, fun u hu => (mem u hu).1, by simp, fun u hu => (mem u hu).2⟩

section
variable {P : Program} {w : World} {K : PySem.W.Frag} {mg : Str → Option Value} {base : Heap}
def sp_law_right : Sp := fun vs H Q _ => ∃ (s l g st t : Addr) (ns p W : List Int) (tss : List (List Int)) (M R : Int), vs = [.ref s, .ref l, .ref g, .ref st, .ref t] ∧ Src H s ∧ H l = some (.tup (ns.map V.int)) ∧ SzOk ns ∧ prodL ns ≤ 120 ∧ RowsAt H g tss ∧ g ≠ s ∧ tss ≠ [] ∧ tss.length ≤ 100 ∧ (∀ t ∈ tss, SeatOk ns t) ∧ tss.Nodup ∧
  H st = some (.tup (p.map V.int)) ∧ SeatOk ns p ∧ WitAt H t M W R ∧ WitOk ns M W R ∧ M.natAbs < 2 ^ 5000 ∧ (∀ t ∈ tss, wsum W t % M = R) ∧ wsum W p % M ≠ R ∧ ∀ H2, XB s H H2 → Src H2 s → Q (.bl true) H2
theorem ok_law_right (T : TX K mg) : FnOk P w K mg base CX0 10 T.f_law_right T.fd_law_right ["_law_source_here", "_law_rings_here", "_law_goals", "_law_start", "_law_told"] (sp_law_right) := by
  refine T.F_law_right.ok sc_law_right (fun vs H Q E h => ?_) (fun cdv A outer s H vs Q E hr h => ?_)
  · obtain ⟨s, l, g, st, t, ns, p, W, tss, M, R, rfl, _⟩ := h
    rfl
  · obtain ⟨s, l, g, st, t, ns, p, W, tss, M, R, rfl, hs, hl, ok, pr, hg, ngs, ne, lt, sks, nod, hst, sk, ht, wok, Mb, hT, hp, k⟩ := h
    have pr300 : prodL ns ≤ 300 := by omega
    refine ⟨_, (pss_cons (ps_set (i := 5) sc_law_right.nd rfl (Or.inl rfl) (pe_make T.M_Table (ok_Table_init T) (hr.mono (by decide)) rfl T.m_Table T.b_Table_init .nil pass0 (pa_cons (pv 1) pa_nil))) (pss_cons (ps_set (i := 6) sc_law_right.nd rfl (Or.inl rfl) (pe_make T.M_Responder (ok_Responder_init T) (hr.mono (by decide)) rfl T.m_Responder T.b_Responder_init .nil pass0 (pa_cons (pv 5) (pa_cons (pv 2) (pa_cons (pv 4) pa_nil))))) (pss_cons (ps_set (i := 7) sc_law_right.nd rfl (Or.inl rfl) (pe_lst pa_nil)) (pss_cons (ps_set (i := 8) sc_law_right.nd rfl (Or.inl rfl) (pe_lst (pa_cons (pv 3) pa_nil))) (pss_cons (ps_for PassesOwn.never rfl (pi_range1 rfl T.z_range (pa_cons (pe_call (ok_law_take T) (hr.mono (by decide)) rfl T.m_law_take T.F_law_take.kp T.b_law_take .nil pass0 (pa_cons (pv 0) (pa_cons pe_int pa_nil))) pa_nil)) (pg_name (i := 9) sc_law_right.nd rfl (Or.inl rfl)) (pss_cons (ps_set (i := 10) sc_law_right.nd rfl (Or.inl rfl) (pe_call (ok_law_call T) (hr.mono (by decide)) rfl T.m_law_call T.F_law_call.kp T.b_law_call .nil pass0 (pa_cons (pv 0) (pa_cons (pv 1) pa_nil)))) (pss_cons (ps_expr (pe_bm PySem.F.plainAttrs_list PySem.F.slot_list_append PySem.F.type_list_append mt_append (pv 7) (pa_cons (pe_tup (pa_cons (pv 10) (pa_cons (pe_meth (pv 6) T.cl_Responder T.me_Responder_answer (ok_Responder_answer T) (hr.mono (by decide)) T.b_Responder_answer .nil pass0 (pa_cons (pe_ix ix_list (pv 8) (pe_un un_neg pe_int) (fun _ _ => rfl)) (pa_cons (pv 10) pa_nil))) pa_nil))) pa_nil))) (pss_one (ps_set (i := 8) sc_law_right.nd rfl (Or.inl rfl) (pe_call (ok_law_walk T) (hr.mono (by decide)) rfl T.m_law_walk T.F_law_walk.kp T.b_law_walk .nil pass0 (pa_cons (pv 1) (pa_cons (pv 3) (pa_cons (pv 7) pa_nil))))))))) (pss_cons (ps_set (i := 11) sc_law_right.nd rfl (Or.inr rfl) (pe_call (ok_consistent_witnesses T) (hr.mono (by decide)) rfl T.m_consistent_witnesses T.F_consistent_witnesses.kp T.b_consistent_witnesses .nil pass0 (pa_cons (pv 5) (pa_cons (pv 3) (pa_cons (pv 7) pa_nil))))) (pss_cons (ps_if (PW.pt (pw_or (pt_cmpR (r := rNotInD K) (op_notInD (u65 hr)) (pe_call (ok_law_canonical T) (hr.mono (by decide)) rfl T.m_law_canonical T.F_law_canonical.kp T.b_law_canonical .nil pass0 (pa_cons (pv 4) pa_nil)) (pv 11) rfl) (pw_or1 (pt_cmpR op_notN (pe_meth0 (pe_make T.M_Record (ok_Record_init T) hr rfl T.m_Record T.b_Record_init .nil pass0 (pa_cons (pv 5) (pa_cons (pv 2) (pa_cons (pv 3) (pa_cons (pv 7) pa_nil))))) T.cl_Record T.me_Record_calls_to_target (ok_Record_calls_to_target T) (hr.mono (by decide)) T.b_Record_calls_to_target .nil pass0) pe_non (nomark _))))) (pss_one (ps_ret pe_bl)) pss_nil) (pss_cons (ps_for PassesOwn.never rfl (pi_list (pv 11)) (pg_tup rfl (pgs_cons (pg_name (i := 12) sc_law_right.nd rfl (Or.inr rfl)) (pgs_cons (pg_name (i := 13) sc_law_right.nd rfl (Or.inr rfl)) (pgs_cons (pg_name (i := 14) sc_law_right.nd rfl (Or.inr rfl)) pgs_nil)))) (pss_one (ps_if (pt_cmpR op_in_seq (pv 14) (pe_lc (own := [("_law_spot", 18)]) (g := (gName 18)) rfl sc_law_right.nd (pi_list (pv 8)) (blkOk_by (N := N_law_right) (sc := defScope s_law_right) (by decide +kernel)) (fun _ _ _ _ _ => (pg_name (i := 18) sc_law_right.nd rfl (Or.inl rfl))) (fun _ _ _ _ _ => pts_nil) (fun _ _ _ _ _ => (pe_call (ok_law_value T) (hr.mono (by decide)) rfl T.m_law_value T.F_law_value.kp T.b_law_value .nil pass0 (pa_cons (pv 12) (pa_cons (pv 13) (pa_cons (pv 18) pa_nil)))))) rfl) (pss_one (ps_ret pe_bl)) pss_nil))) (pss_cons (ps_set (i := 15) sc_law_right.nd rfl (Or.inl rfl) (pe_call (ok_consistent_witnesses T) (hr.mono (by decide)) rfl T.m_consistent_witnesses T.F_consistent_witnesses.kp T.b_consistent_witnesses .nil pass0 (pa_cons (pv 5) (pa_cons (pv 3) (pa_cons (pe_slice sl_list (pv 7) po_none (po_some (pe_call (ok_law_take T) (hr.mono (by decide)) rfl T.m_law_take T.F_law_take.kp T.b_law_take .nil pass0 (pa_cons (pv 0) (pa_cons (pe_op op_add (pe_callB call_len_seq (by rfl) T.z_len (by decide +kernel) (pa_cons (pv 7) pa_nil)) pe_int) pa_nil))))) pa_nil))))) (pss_cons (ps_if (pt_cmpR (r := rNeD K) (op_neD hr.units) (pe_lc (own := [("_law_one_here", 19)]) (g := (gName 19)) rfl sc_law_right.nd (pi_list (pv 15)) (blkOk_by (N := N_law_right) (sc := defScope s_law_right) (by decide +kernel)) (fun _ _ _ _ _ => (pg_name (i := 19) sc_law_right.nd rfl (Or.inl rfl))) (fun _ _ _ _ _ => (pts_one (pt_cmpR (r := rInD K) (op_inD (u65 hr)) (pv 19) (pv 11) rfl))) (fun _ _ _ _ _ => (pv 19))) (pv 11) (nomark _)) (pss_one (ps_ret pe_bl)) pss_nil) (pss_cons (ps_asg (pe_call (ok_law_one T) (hr.mono (by decide)) rfl T.m_law_one T.F_law_one.kp T.b_law_one .nil pass0 (pa_cons (pv 0) (pa_cons (pv 11) pa_nil))) (pg_tup rfl (pgs_cons (pg_name (i := 12) sc_law_right.nd rfl (Or.inr rfl)) (pgs_cons (pg_name (i := 13) sc_law_right.nd rfl (Or.inr rfl)) (pgs_cons (pg_name (i := 14) sc_law_right.nd rfl (Or.inr rfl)) pgs_nil))))) (pss_cons (ps_set (i := 16) sc_law_right.nd rfl (Or.inl rfl) (pe_slice sl_list (pe_lc (own := [("_law_spot", 18)]) (g := (gName 18)) rfl sc_law_right.nd (pi_list (pe_call (ok_law_all T) (hr.mono (by decide)) rfl T.m_law_all T.F_law_all.kp T.b_law_all .nil pass0 (pa_cons (pv 1) pa_nil))) (blkOk_by (N := N_law_right) (sc := defScope s_law_right) (by decide +kernel)) (fun _ _ _ _ _ => (pg_name (i := 18) sc_law_right.nd rfl (Or.inl rfl))) (fun _ _ _ _ _ => (pts_one (pt_cmpR op_eq (pe_call (ok_law_value T) (hr.mono (by decide)) rfl T.m_law_value T.F_law_value.kp T.b_law_value .nil pass0 (pa_cons (pv 12) (pa_cons (pv 13) (pa_cons (pv 18) pa_nil)))) (pv 14) (nomark _)))) (fun _ _ _ _ _ => (pv 18))) po_none (po_some pe_int))) (pss_cons (ps_set (i := 17) sc_law_right.nd rfl (Or.inr rfl) (pe_make T.M_Responder (ok_Responder_init T) (hr.mono (by decide)) rfl T.m_Responder T.b_Responder_init .nil pass0 (pa_cons (pv 5) (pa_cons (pv 16) (pa_cons (pe_tup (pa_cons (pv 12) (pa_cons (pv 13) (pa_cons (pv 14) pa_nil)))) pa_nil))))) (pss_one (ps_ret (pe_cmpR (r := rEqD K) (op_eqD hr.units) (pe_lc (own := [("_law_spot", 18), ("_law_move", 20)]) (g := (gTup K 2 (gCons (gName 18) (gCons (gName 20) gNil)))) rfl sc_law_right.nd (CZ.pi_z2m (b1 := false) (b2 := false) (by rfl) T.z_zip (pa_cons (pv 8) (pa_cons (pv 7) pa_nil))) (blkOk_by (N := N_law_right) (sc := defScope s_law_right) (by decide +kernel)) (fun _ _ _ _ _ => (pg_tup rfl (pgs_cons (pg_name (i := 18) sc_law_right.nd rfl (Or.inl rfl)) (pgs_cons (pg_name (i := 20) sc_law_right.nd rfl (Or.inl rfl)) pgs_nil)))) (fun _ _ _ _ _ => pts_nil) (fun _ _ _ _ _ => (pe_meth (pv 17) T.cl_Responder T.me_Responder_answer (ok_Responder_answer T) (hr.mono (by decide)) T.b_Responder_answer .nil pass0 (pa_cons (pv 18) (pa_cons (pe_ix (r := rIxT K) ix_tup (pv 20) pe_int (fun _ _ => rfl)) pa_nil))))) (pe_lc (own := [("_law_move", 20)]) (g := (gName 20)) rfl sc_law_right.nd (pi_list (pv 7)) (blkOk_by (N := N_law_right) (sc := defScope s_law_right) (by decide +kernel)) (fun _ _ _ _ _ => (pg_name (i := 20) sc_law_right.nd rfl (Or.inl rfl))) (fun _ _ _ _ _ => pts_nil) (fun _ _ _ _ _ => (pe_ix (r := rIxT K) ix_tup (pv 20) pe_int (fun _ _ => rfl)))) (nomark _))))))))))))))))), ?_⟩
    refine ⟨_, rfl, ?_⟩
    refine mk_tab (b := true) (ns := ns) (show SqH H (true, l) _ from hl) ok fun bd H1 e1 nbd tab1 => ?_
    have l4 := ok.le
    have n300 : ∀ n ∈ ns, n ≤ 300 := fun n hn => Int.le_trans (mul_le_of_mem ok.one hn) pr300
    have b30 : ∀ n ∈ ns, n ≤ 10 ^ 30 := fun n hn => Int.le_trans (n300 n hn) (by decide)
    have bn : ∀ n ∈ ns, n.natAbs < 2 ^ 5000 := fun n hn => by
      have h1 := n300 n hn
      have h2 := ok.one n hn
      exact Nat.lt_of_le_of_lt (show n.natAbs ≤ 300 by omega) (by decide +kernel)
    dsimp only [gName]
    refine ⟨_, rfl, _, rfl, _, rfl, mk_resp (bq := false) (rs := .wit M W R) tab1 ok (hg.mono e1).q ne (by omega) sks nod bn ⟨t, rfl, ht.mono e1⟩ ⟨wok, Mb, hT⟩ fun gd H2 e2 ngd _ rp2 => ?_⟩
    dsimp only [gName]
    refine ⟨slen rfl, ?_⟩
    (intro pl npl; generalize hGpl : upd _ pl _ = H3; have eH3 := exG hGpl npl; have hpl := atG hGpl; clear hGpl)
    dsimp only [gName]
    refine ⟨_, rfl, slen rfl, ?_⟩
    (intro wk nwk; generalize hGwk : upd _ wk _ = H4; have eH4 := exG hGwk nwk; have hwk := atG hGwk; clear hGwk)
    dsimp only [gName]
    have E2 := ext e1 e2
    have E4 := ext E2 (ext eH3 eH4)
    have F : FitW ns M W := ⟨wok.len, wok.w0, wok.fit⟩
    have src4 := hs.mono E4
    have npls : pl ≠ s := (hs.mono E2).ne npl
    have ngdH : H gd = none := (XB.of e1).back ((hs.mono e1).ne ngd) ngd
    have nplH : H pl = none := (XB.of E2).back npls npl
    have nwks : wk ≠ s := (hs.mono (ext E2 eH3)).ne nwk
    refine ⟨_, rfl, s, 13, rfl, src4, by decide, by decide +kernel, fun r H5 r0 r1 xb5 src5 => ?_⟩
    refine ⟨r, rfl, by omega, by omega, ?_⟩
    have XB5 : XB s H H5 := (XB.of E4).trans xb5
    have rp5 : RespU T.C_Responder T.C_Table H5 gd ns tss (.wit M W R) 0 := (rp2.mono (ext eH3 eH4)).src src4 xb5 ⟨wok, Mb, hT⟩
    have w5 : RowsAt H5 wk (walkL ns p []) := ⟨_, xb5 _ _ nwks hwk, .cons ⟨st, rfl, xb5 _ _ (E4 _ _ hst |> fun z q => by obtain ⟨a1, a2, a3, hz⟩ := src4; rw [q, hz] at z; cases z) (E4 _ _ hst)⟩ .nil⟩
    refine for_it walk_range (fun i σ Hx => ∃ (y9 y10 y11 y12 y13 y14 y15 y16 y17 y18 y19 y20 : Option V) (wk : Addr) (xs : List V) (ms : List (List Int × Bool)), σ = [some (.ref s), some (.ref l), some (.ref g), some (.ref st), some (.ref t), some (.ref bd), some (.ref gd), some (.ref pl), some (.ref wk), y9, y10, y11, y12, y13, y14, y15, y16, y17, y18, y19, y20] ∧ XB s H Hx ∧ Src Hx s ∧ Hx pl = some (.lst xs) ∧ MovR Hx xs ms ∧ ms.length = i ∧ (∀ c ∈ ms, c.1.length = ns.length) ∧ explM ns M R W p ms = true ∧ RowsAt Hx wk (walkL ns p ms) ∧ wk ≠ s ∧ TabAt T.C_Table Hx bd ns ∧ RespU T.C_Responder T.C_Table Hx gd ns tss (.wit M W R) i) ⟨_, _, _, _, _, _, _, _, _, _, _, _, wk, [], [], rfl, XB5, src5, xb5 _ _ npls (eH4 _ _ hpl), .nil, rfl, fun _ h => (nomatch h), rfl, w5, nwks, tab_xbs src4 xb5 (tab1.mono (ext e2 (ext eH3 eH4))), rp5⟩ (fun _ _ _ _ _ => True.intro) ?_ ?_
    · rintro i x σ _ Hx hi ⟨y9, y10, y11, y12, y13, y14, y15, y16, y17, y18, y19, y20, wk, xs, ms, rfl, xb, src, hpx, rm, lm, cl, he, hw, nws, tabx, rpx⟩ ⟨rfl, hx⟩
      have hi' : i < r.toNat := hi
      dsimp only [gName]
      refine ⟨_, rfl, _, rfl, s, l, ns, rfl, src, tup_xb hs hl xb, ok, b30, fun dq cs Ha na ha lc xba srca => ?_⟩
      dsimp only [gName]
      have xba2 := xb.trans xba
      have npx : pl ≠ s := npls
      have hpa := xba _ _ npx hpx
      have hwa := rows_xb src nws xba hw
      have rma : MovR Ha xs ms := rm.xb src xba
      have rpa : RespU T.C_Responder T.C_Table Ha gd ns tss (.wit M W R) i := rpx.src src xba ⟨wok, Mb, hT⟩
      have taba := tab_xbs src xba tabx
      obtain ⟨hss, eh⟩ := walk_last ns p ms
      obtain ⟨zs, hz1, hz2⟩ := id hwa
      rw [eh] at hz2
      obtain ⟨ys, u, rfl, hu⟩ := hz2.last
      have skq := pos_ok ok.one sk (ms := ms) cl
      have off := explM_off ok.one wok.m3 wok.odd F wok.r0 wok.r1 ms p sk.len cl hp he ms.length (Nat.le_refl _)
      rw [List.take_length] at off
      obtain ⟨dx, aa, gg, stv, dv, gs, g1, _⟩ := id rpa
      refine ⟨_, rfl, .inl ⟨rfl, _, SqL.of hpa⟩, _, rfl, _, rfl, gd, dx, _, rfl, g1, rfl, ?_⟩
      refine ⟨_, rfl, _, rfl, wk, _, _, _, rfl, rfl, SqL.of hz1, L2.atI_last _ _, _, rfl, gd, u, dq, ns, posL ns p ms, cs, tss, .wit M W R, i, rfl, rpa, ok, bn, ⟨wok, Mb, hT⟩, ne, hu, skq, ha, lc, decide_eq_false off, fun Hb xbb _ rpb => ⟨slen rfl, ?_⟩⟩
      (intro tp ntp; generalize hGtp : upd _ tp _ = Hc; have eHc := exG hGtp ntp; have htp := atG hGtp; clear hGtp)
      have tpb : ∀ c vs, Ha c = some (.tup vs) → Hc c = some (.tup vs) := fun c vs z => eHc _ _ (xbb _ _ (ne_of z g1 (by intro q; cases q)) z)
      have hpc := eHc _ _ (xbb _ _ (ne_of hpa g1 (by intro q; cases q)) hpa)
      obtain ⟨a1, a2, a3, hsa⟩ := id srca
      have hsc := eHc _ _ (xbb _ _ (ne_of hsa g1 (by intro q; cases q)) hsa)
      have tabc : TabAt T.C_Table Hc bd ns := by
        obtain ⟨dt, tt, z1, z2⟩ := taba
        refine ⟨dt, tt, eHc _ _ (xbb _ _ (ne_of z1 g1 fun z => ?_) z1), tpb _ _ z2⟩
        injection z with y1 y2 y3
        exact absurd (congrArg List.length y3) (by simp)
      have rmc : MovR Hc xs ms := rma.monoT tpb
      have lx := rm.len
      refine ⟨pl, _, _, rfl, rfl, hpc, Nat.lt_of_le_of_lt (show xs.length ≤ 13 by omega) (by decide), ?_⟩
      have rmn : MovR Hc (xs ++ [.ref tp]) (ms ++ [(cs, dirAt ns (posL ns p ms) cs i (.wit M W R))]) := MovR.snoc htp (tpb _ _ ha) rmc
      have hen : explM ns M R W p (ms ++ [(cs, dirAt ns (posL ns p ms) cs i (.wit M W R))]) = true := by
        rw [explM_app, he]
        show (true && ((dirAt ns (posL ns p ms) cs i (.wit M W R) == dirAt ns (posL ns p ms) cs i (.wit M W R)) && true)) = true
        simp
      generalize dirAt ns (posL ns p ms) cs i (.wit M W R) = bw at rmn hen
      have rmd := rmn.upd hpc (zs := xs ++ [.ref tp])
      have tabd : TabAt T.C_Table (upd Hc pl (.lst (xs ++ [.ref tp]))) bd ns := tabc.push hpc
      have rpd := (rpb.mono eHc).xl (H2 := upd Hc pl (.lst (xs ++ [.ref tp]))) hpc (fun c o n z => by rw [upd_ne n]; exact z)
      have xbd : XB s H (upd Hc pl (.lst (xs ++ [.ref tp]))) := fun c o n z => by
        rw [upd_ne (ne_of_none z nplH)]
        exact eHc _ _ (xbb _ _ (ne_of_none z ngdH) (xba2 _ _ n z))
      have srcd : Src (upd Hc pl (.lst (xs ++ [.ref tp]))) s := ⟨a1, a2, a3, by rw [upd_ne npls.symm]; exact hsc⟩
      have hpd : upd Hc pl (.lst (xs ++ [.ref tp])) pl = some (.lst (xs ++ [.ref tp])) := upd_same
      generalize upd Hc pl (.lst (xs ++ [.ref tp])) = Hd at rmd tabd rpd xbd srcd hpd
      have cln : ∀ c ∈ ms ++ [(cs, bw)], c.1.length = ns.length := fun c hc => by
        rcases List.mem_append.mp hc with h | h
        · exact cl c h
        · rw [List.mem_singleton.mp h]
          exact lc
      have lmn : (ms ++ [(cs, bw)]).length = i + 1 := by rw [List.length_append, lm]; rfl
      refine ⟨_, rfl, _, rfl, _, rfl, l, st, pl, ns, p, _, _, rfl, tup_xb hs hl xbd, ok, tup_xb hs hst xbd, sk, hpd, rmd, by omega, cln, fun wk2 He ee nwk2 hwk2 => ?_⟩
      exact ⟨_, _, _, _, _, _, _, _, _, _, _, _, wk2, _, _, rfl, xbd.trans (XB.of ee), srcd.mono ee, ee _ _ hpd, rmd.mono ee, lmn, cln, hen, hwk2, srcd.ne nwk2, tabd.mono ee, rpd.mono ee⟩
    rintro σ Hx ⟨y9, y10, y11, y12, y13, y14, y15, y16, y17, y18, y19, y20, wk, xs, ms, rfl, xb, src, hpx, rm, lm, cl, he, hw, nws, tabx, rpx⟩
    have lm : ms.length = r.toNat := lm
    have lx := rm.len
    have htx := ht.xb hs xb
    dsimp only
    refine ⟨_, rfl, _, rfl, _, rfl, bd, st, (false, pl), ns, p, ms, rfl, tabx, ok, pr300, tup_xb hs hst xb, sk, ⟨xs, hpx, rm⟩, by omega, cl, fun f fz Ha ea nf hf pf => ?_⟩
    dsimp only [gName]
    have heB : explB ns p ms (M, W, R) = true := by
      unfold explB
      rw [he, Bool.and_true]
      exact decide_eq_true hp
    have hR : ∃ t : List Int, wsum W t % M = R := by
      cases tss with
      | nil => exact absurd rfl ne
      | cons t0 ts => exact ⟨t0, hT t0 List.mem_cons_self⟩
    obtain ⟨c3, cne, cmem⟩ := can_mem ok.one wok.m3 wok.odd F wok.r0 wok.r1 hR hp heB
    have csm := can_small ok.one wok.m3 wok.odd F wok.r0 wok.r1 hR hp heB
    have clen := cons_len (p := p) (ms := ms) ok.one pr
    have lw : W.length ≤ 4 := by rw [wok.len]; exact l4
    have xba := xb.trans (XB.of ea)
    have srca := src.mono ea
    refine ⟨_, rfl, t, M, R, W, rfl, htx.mono ea, wok.m3, Mb, lw, wok.w0, wok.r0, wok.r1, by omega, by omega, cne, fun q w3 Hb eb hw3 wit hle => ?_⟩
    have memq := cmem w3 hw3 hle
    refine ⟨_, rfl, ?_⟩
    have pb := paired_mono (fun _ _ z => pdw_ex eb z) pf
    refine ⟨encW w3, (consL ns p ms).map encW, dp_wit wit, .lst (SqL.of (eb _ _ hf)) (dp_wits pb), ((sh_encW w3).up (by decide)).ok, (sh_wits _).ok, _, rfl, ?_⟩
    rw [any_wits, decide_eq_true memq]
    refine itf rfl ?_
    have Eb := ext ea eb
    have xbb := xb.trans (XB.of Eb)
    have srcb := src.mono Eb
    have visM := explB_off ok.one wok.m3 wok.odd F wok.r0 wok.r1 sk.len cl heB
    have hit0 : hitV (walkL ns p ms) tss = .non := hit_none fun q hq hm => visM q hq (hT q hm)
    refine ⟨_, rfl, _, rfl, _, rfl, _, rfl, mk_rec (bq := false) (bm := false) (tabx.mono Eb) ok (rows_xb hs ngs xbb hg).q ne (by omega) sks nod (tup_xb hs hst xbb) sk ⟨xs, Eb _ _ hpx, rm.mono Eb⟩ (by omega) cl fun rc Hc ec nrc rec => ?_⟩
    obtain ⟨dr, tb, g9, pl9, v9, gs9, ps9, vs9, r1c, _⟩ := id rec
    refine ⟨rc, dr, _, rfl, r1c, rfl, rc, ns, p, tss, ms, rfl, rec, by omega, fun Hd ed => ⟨rfl, _, rfl, ?_⟩⟩
    rw [hit0]
    refine itf rfl ?_
    dsimp only [tNext]
    have Ed := ext Eb (ext ec ed)
    have e_ad := ext eb (ext ec ed)
    have xbd := xb.trans (XB.of Ed)
    have srcd := src.mono Ed
    have pd := paired_mono (fun _ _ z => pdw_ex e_ad z) pf
    have hfd := e_ad _ _ hf
    have hwd := hw.mono Ed
    have seatQ : ∀ q ∈ walkL ns p ms, SeatOk ns q := fun q hq => walk_mem ok.one sk cl hq
    have valB : ∀ w3 ∈ consL ns p ms, 0 < w3.1 ∧ w3.2.1.length = ns.length ∧ ∀ x ∈ w3.2.1, x.natAbs < 2 ^ 5000 := fun w3 h => by
      obtain ⟨q1, q2, q3, _⟩ := cons_mem h
      have q4 := cons_m ok.one pr h
      refine ⟨by omega, q3.len, fun x hx => ?_⟩
      have := q3.w0 x hx
      exact Nat.lt_of_le_of_lt (show x.natAbs ≤ 120 by omega) (by decide +kernel)
    have seatB : ∀ q, SeatOk ns q → q.length ≤ 4 ∧ ∀ x ∈ q, x.natAbs < 2 ^ 5000 := fun q hq => by
      refine ⟨by rw [hq.len]; exact l4, fun x hx => ?_⟩
      have := seat_b hq n300 x hx
      exact Nat.lt_of_le_of_lt (show x.natAbs ≤ 300 by omega) (by decide +kernel)
    obtain ⟨zw, hzw, rzw⟩ := id hwd
    have lzw := rzw.len
    rw [walk_len] at lzw
    refine ⟨_, rfl, f, rfl, ⟨_, SqL.of hfd⟩, ?_⟩
    refine for_it (walk_list (xs := fz)) (fun i σ Hz => (∃ (z9 z10 z12 z13 z14 z15 z16 z17 z18 z19 z20 : Option V), σ = [some (.ref s), some (.ref l), some (.ref g), some (.ref st), some (.ref t), some (.ref bd), some (.ref gd), some (.ref pl), some (.ref wk), z9, z10, some (.ref f), z12, z13, z14, z15, z16, z17, z18, z19, z20]) ∧ Ex Hd Hz) ⟨⟨_, _, _, _, _, _, _, _, _, _, _, rfl⟩, exr⟩ (fun i σ Hz _ z => SqL.of (z.2 _ _ hfd)) ?_ ?_
    · rintro i x σ _ Hz hi ⟨⟨z9, z10, z12, z13, z14, z15, z16, z17, z18, z19, z20, rfl⟩, ez⟩ ⟨rfl, hx⟩
      obtain ⟨w4, hw4, t4, rfl, wa4, h41, h42⟩ := paired_get pd hx
      have mem4 := List.mem_of_getElem? hw4
      obtain ⟨m3, modd, F4, c4, r40, r41, ex4⟩ := cons_mem mem4
      have vis4 := explB_off ok.one m3 modd F4 r40 r41 sk.len cl ex4
      obtain ⟨v1, v2, v3⟩ := valB w4 mem4
      refine ⟨t4, _, rfl, SqT.of (ez _ _ h41), rfl, _, _, rfl, _, _, rfl, _, _, rfl, rfl, ?_⟩
      dsimp only [gName]
      refine ⟨_, rfl, _, rfl, wk, rfl, ⟨_, SqL.of (ez _ _ hzw)⟩, fun D hD => ?_⟩
      refine lc_vals (walk_list (xs := zw)) (((walkL ns p ms).map fun q => wsum w4.2.1 q % w4.1).map V.int) (by rw [List.length_map, List.length_map, rzw.len]) (by omega) hD (fun Ha ea => SqL.of (ea _ _ (ez _ _ hzw))) ?_ gmono_name ?_
      · rintro j y Ha Hb R2 hj ea ⟨e0, hy⟩ kk
        subst e0
        obtain ⟨q, hq, r, rfl, hr0⟩ := paired_get rzw hy
        have skq := seatQ q (List.mem_of_getElem? hq)
        obtain ⟨b1, b2⟩ := seatB q skq
        have E9 := ext ez ea
        refine ⟨rfl, _, rfl, _, rfl, _, rfl, w4.1, wa4, r, w4.2.1, q, rfl, v1, E9 _ _ h42, E9 _ _ hr0, by rw [v2, skq.len], b1, v3, b2, fun H5 e5 => kk _ _ e5 ?_⟩
        rw [List.getElem?_map, List.getElem?_map, hq]
        rfl
      intro H6 e6 hD6
      refine ⟨D, _, rfl, .inl (SqL.of hD6), rfl, flat_ints _, _, rfl, itf ?_ ⟨⟨_, _, _, _, _, _, _, _, _, _, _, rfl⟩, ext ez e6⟩⟩
      show inV _ _ = false
      rw [in_ints]
      refine decide_eq_false fun hm => ?_
      obtain ⟨q, hq, hv⟩ := List.mem_map.mp hm
      exact vis4 q hq hv
    rintro σ Hz ⟨⟨z9, z10, z12, z13, z14, z15, z16, z17, z18, z19, z20, rfl⟩, ez⟩
    dsimp only
    have xbz := xbd.trans (XB.of ez)
    have srcz := srcd.mono ez
    have Ez := ext Ed ez
    refine ⟨_, rfl, _, rfl, ?_⟩
    have hpz := Ez _ _ hpx
    refine ⟨_, rfl, _, rfl, _, rfl, pl, _, rfl, .inl (SqL.of hpz), ?_⟩
    refine ⟨_, _, rfl, rfl, s, _, rfl, srcz, by omega, ?_, fun k He k0 k1 xbe srce => ?_⟩
    · exact Nat.lt_of_le_of_lt (show ((xs.length : Int) + 1).natAbs ≤ 1000 by omega) (by decide +kernel)
    obtain ⟨kn, rfl⟩ : ∃ n : Nat, k = (n : Int) := ⟨k.toNat, by omega⟩
    have hpe := xbe _ _ npls hpz
    refine ⟨_, rfl, pl, _, rfl, SqL.of hpe, fun d hd => ?_⟩
    have ef := exn (o := .lst (cutV xs none (some (kn : Int)))) hd
    have tabe := tab_xbs srcz xbe (tabx.mono Ez)
    have xb_e := xbz.trans xbe
    have hfe := xbe _ _ (src.ne nf) (ez _ _ hfd)
    have pe : Paired (PdW He) fz (consL ns p ms) := paired_mono (fun _ _ z => pdw_mono _ _ _ _ (fun _ _ q => tup_xb srcz q xbe) (pdw_ex ez z)) pd
    have rme : MovR He xs ms := (rm.mono Ez).xb srcz xbe
    rw [cut_to] at ef ⊢
    refine ⟨bd, st, (false, d), ns, p, ms.take kn, rfl, tabe.mono ef, ok, pr300, tup_xb hs hst (xb_e.trans (XB.of ef)), sk, ⟨_, upd_same, (rme.take kn).mono ef⟩, by rw [List.length_take]; omega, fun c hc => cl c (List.mem_of_mem_take hc), fun fe ze Hg eg nfe hfe2 pfe => ?_⟩
    dsimp only [gName]
    have E_eg := ext ef eg
    have pg : Paired (PdW Hg) fz (consL ns p ms) := paired_mono (fun _ _ z => pdw_ex E_eg z) pe
    have hfg := E_eg _ _ hfe
    refine ⟨_, rfl, fe, rfl, ⟨_, SqL.of hfe2⟩, fun D hD => ?_⟩
    have cl2 := cons_len (p := p) (ms := ms.take kn) ok.one pr
    refine lc_newF PdW pdw_mono (walk_list (xs := ze)) (consL ns p (ms.take kn)) (fun w => decide (w ∈ consL ns p ms)) (Paired.length pfe).symm (by rw [Paired.length pfe]; omega) hD (fun Ha ea => SqL.of (ea _ _ hfe2)) ?_ ?_
    · rintro j y w5 Hj Hk RR S hw5 ej ⟨e0, hy⟩ kR kS
      subst e0
      obtain ⟨w6, hw6, t5, rfl, wit5⟩ := paired_get pfe hy
      obtain rfl : w6 = w5 := Option.some.inj (hw6.symm.trans hw5)
      have wit5 := wit5.mono ej
      refine ⟨rfl, _, rfl, _, rfl, encW w6, (consL ns p ms).map encW, dp_wit wit5, .lst (SqL.of (ej _ _ hfg)) (dp_wits (paired_mono (fun _ _ z => pdw_ex ej z) pg)), ((sh_encW w6).up (by decide)).ok, (sh_wits _).ok, _, rfl, ?_⟩
      rw [any_wits]
      refine ite2 (fun hc => ?_) (fun hc => ?_)
      · exact ⟨_, rfl, kR _ _ exr hc ⟨t5, rfl, wit5⟩⟩
      · exact kS _ exr (by simpa using hc)
    intro Hh hv eh hDh pF
    rw [cons_early] at pF
    refine ⟨_, rfl, ne_wits hDh pF (eh _ _ hfg) (paired_mono (fun _ _ z => pdw_ex eh z) pg) ⟨_, rfl, itf rfl ?_⟩⟩
    dsimp only [tNext]
    have E_eh := ext eg eh
    have srch := srce.mono (ext ef E_eh)
    have xb_h := xb_e.trans (XB.of (ext ef E_eh))
    have hfh := eh _ _ hfg
    have ph := paired_mono (fun _ _ z => pdw_ex eh z) pg
    have fne : fz ≠ [] := fun z => by
      have h1 := Paired.length pf
      rw [z] at h1
      exact List.ne_nil_of_mem memq (List.length_eq_zero_iff.mp h1.symm)
    refine ⟨_, rfl, _, rfl, s, f, fz, rfl, srch, hfh, src.ne nf, fne, by rw [Paired.length pf]; omega, fun v Hi hv7 xbi srci => ?_⟩
    obtain ⟨j7, hj7⟩ := List.getElem?_of_mem hv7
    obtain ⟨w7, hw7, t7, rfl, wit7⟩ := paired_get ph hj7
    have mem7 := List.mem_of_getElem? hw7
    have wit7i := wit7.xb srch xbi
    obtain ⟨wa7, h71, h72⟩ := id wit7i
    obtain ⟨m73, m7odd, F7, c7, r70, r71, ex7⟩ := cons_mem mem7
    have vis7 := explB_off ok.one m73 m7odd F7 r70 r71 sk.len cl ex7
    obtain ⟨v71, v72, v73⟩ := valB w7 mem7
    have g7 : gcdW w7.1 w7.2.1 = 1 := by
      unfold canonB at c7
      exact of_decide_eq_true (Bool.and_eq_true_iff.mp c7).1
    obtain ⟨tne, tlen, tsk, tnod, tval⟩ := same_ok ok.one m73 F7 g7 r70 r71
    have xb_i := xb_h.trans xbi
    have hwi : RowsAt Hi wk (walkL ns p ms) := rows_xb srch nws xbi (hwd.mono ez |> fun z => (rows_xb srcz nws xbe z).mono (ext ef E_eh))
    have hpi := xbi _ _ npls (ext ef E_eh _ _ hpe)
    have rmi : MovR Hi xs ms := (rme.mono (ext ef E_eh)).xb srch xbi
    have tabi := tab_xbs srch xbi (tabe.mono (ext ef E_eh))
    refine ⟨t7, _, rfl, SqT.of h71, rfl, _, _, rfl, _, _, rfl, _, _, rfl, rfl, ?_⟩
    dsimp only [gName]
    refine ⟨_, rfl, l, ns, rfl, tup_xb hs hl xb_i, ok, pr300, fun ql Hj ej nql hql => ?_⟩
    obtain ⟨zq, hzq, rzq⟩ := id hql
    refine ⟨ql, rfl, ⟨_, SqL.of hzq⟩, fun D1 hD1 => ?_⟩
    have lall : (allS ns).length ≤ 300 := by
      have := allS_len ok.one
      omega
    refine lc_newF PdRow pdrow_mono (walk_list (xs := zq)) (allS ns) (fun q => decide (wsum w7.2.1 q % w7.1 = w7.2.2)) rzq.len.symm (by rw [rzq.len]; omega) hD1 (fun Ha ea => SqL.of (ea _ _ hzq)) ?_ ?_
    · rintro j y q Hk Hl RR S hq ek ⟨e0, hy⟩ kR kS
      subst e0
      obtain ⟨q2, hq2, r2, rfl, hr2⟩ := paired_get rzq hy
      obtain rfl : q2 = q := Option.some.inj (hq2.symm.trans hq)
      have skq := mem_allS.mp (List.mem_of_getElem? hq)
      obtain ⟨b1, b2⟩ := seatB q2 skq
      have ejk := ext ej ek
      refine ⟨rfl, _, rfl, _, rfl, _, rfl, w7.1, wa7, r2, w7.2.1, q2, rfl, v71, ejk _ _ h72, ek _ _ hr2, by rw [v72, skq.len], b1, v73, b2, fun H5 e5 => ?_⟩
      refine ⟨_, rfl, rfl, _, rfl, ?_⟩
      refine ite2 (fun hc => ?_) (fun hc => ?_)
      · exact ⟨_, rfl, kR _ _ e5 (decide_eq_true (V.int.inj (of_decide_eq_true hc))) ⟨r2, rfl, e5 _ _ (ek _ _ hr2)⟩⟩
      · exact kS _ e5 (decide_eq_false fun z => hc (decide_eq_true (congrArg V.int z)))
    intro Hk hk ek hDk pk
    have Ek := ext ej ek
    refine ⟨_, rfl, D1, _, rfl, SqL.of hDk, fun d2 hd2 => ?_⟩
    rw [show cutV hk none (some (1 : Int)) = hk.take 1 from cut_to hk 1]
    have el := exn (o := .lst (hk.take 1)) hd2
    have hd2l : upd Hk d2 (.lst (hk.take 1)) d2 = some (.lst (hk.take 1)) := upd_same
    have pt : RowsR Hk (hk.take 1) (sameT ns w7) := paired_take 1 pk
    generalize upd Hk d2 (.lst (hk.take 1)) = Hl at el hd2l
    have El := ext Ek el
    have ptl := pt.mono el
    dsimp only [gName]
    refine ⟨_, rfl, _, rfl, _, rfl, _, rfl, _, rfl, slen rfl, ?_⟩
    (intro tw ntw; generalize hGtw : upd _ tw _ = Hm; have eHm := exG hGtw ntw; have htw := atG hGtw; clear hGtw)
    have Em := ext El eHm
    have Hmw : WitAt Hm tw w7.1 w7.2.1 w7.2.2 := ⟨wa7, htw, Em _ _ h72⟩
    have m7B : w7.1.natAbs < 2 ^ 5000 := by
      have := cons_m ok.one pr mem7
      exact Nat.lt_of_le_of_lt (show w7.1.natAbs ≤ 120 by omega) (by decide +kernel)
    have wok7 : WitOk ns w7.1 w7.2.1 w7.2.2 := ⟨m73, m7odd, r70, r71, F7.len, F7.w0, F7.fit⟩
    have rok7 : (RS.wit w7.1 w7.2.1 w7.2.2).Ok ns (sameT ns w7) := ⟨wok7, m7B, tval⟩
    refine mk_resp (bq := false) (rs := .wit w7.1 w7.2.1 w7.2.2) (tabi.mono Em) ok ⟨_, eHm _ _ hd2l, ptl.mono eHm⟩ tne (by omega) tsk tnod bn ⟨tw, rfl, Hmw⟩ rok7 fun o Hn en no _ rpn => ?_
    dsimp only [gName]
    have En := ext Em en
    obtain ⟨zwn, hzwn, rzwn⟩ := id (hwi.mono En)
    have hpn := En _ _ hpi
    have rmn := rmi.mono En
    refine ⟨_, rfl, _, rfl, wk, pl, rfl, ⟨_, SqL.of hzwn⟩, ⟨_, SqL.of hpn⟩, fun D3 hD3 => ?_⟩
    have lzn := rzwn.len
    rw [walk_len] at lzn
    obtain ⟨dxo, ao, go, so, dvo, gso, ho, _⟩ := id rpn
    have inso : ∀ {c : Addr} {vs : List V}, Hn c = some (.lst vs) → c ≠ o := fun z => ne_of z ho (by intro q; cases q)
    have tupo : ∀ {c : Addr} {vs : List V}, Hn c = some (.tup vs) → c ≠ o := fun z => ne_of z ho (by intro q; cases q)
    have exM7 : explM ns w7.1 w7.2.2 w7.2.1 p ms = true := by
      unfold explB at ex7
      exact (Bool.and_eq_true_iff.mp ex7).2
    refine lc_it (CZ.walk_m (xs := zwn) (ys := xs) (n := ms.length) (by rw [lzn, lx]; omega)) (fun i Hx => Hx D3 = some (.lst (wordsV ((ms.take i).map fun c => c.2))) ∧ XB o Hn Hx ∧ RespU T.C_Responder T.C_Table Hx o ns (sameT ns w7) (.wit w7.1 w7.2.1 w7.2.2) i) ⟨upd_same, XB.of (exn hD3), rpn.mono (exn hD3)⟩ (fun i Hx _ z => .cons (sqL (z.2.1 _ _ (inso hzwn) hzwn)) (.cons (sqL (z.2.1 _ _ (inso hpn) hpn)) .nil)) ?_ ?_
    · rintro i x Hx Hy hi ⟨hDx, xbo, rpx⟩ ⟨Ta, vs, rfl, hT, rfl, pv⟩
      cases pv with
      | cons h1 pv2 =>
        cases pv2 with
        | cons h2 pv3 =>
          cases pv3
          obtain ⟨c, hc, mr, cr, rfl, hmr, hcr⟩ := paired_get rmn h2
          obtain ⟨q, hq, u, rfl, hu⟩ := paired_get rzwn h1
          have memq7 := List.mem_of_getElem? hq
          have skq := seatQ q memq7
          have eq : q = posL ns p (ms.take i) := by
            unfold walkL at hq
            rw [List.getElem?_map] at hq
            obtain ⟨j, hj, e⟩ := Option.map_eq_some_iff.mp hq
            obtain ⟨_, ej⟩ := List.getElem?_eq_some_iff.mp hj
            rw [List.getElem_range] at ej
            rw [← e, ← ej]
          obtain ⟨dx1, a1, g1, s1, dv1, gs1, ho1, _⟩ := id rpx
          have eT := exn (o := .tup [V.ref u, V.ref mr]) hT
          have tpx : ∀ c vs, Hn c = some (.tup vs) → upd Hx Ta (.tup [V.ref u, V.ref mr]) c = some (.tup vs) := fun c vs z => eT _ _ (xbo _ _ (tupo z) z)
          refine ⟨Ta, _, rfl, SqT.of upd_same, rfl, _, _, rfl, _, _, rfl, rfl, rfl, ?_⟩
          refine ⟨_, rfl, o, dx1, _, rfl, eT _ _ ho1, rfl, _, rfl, _, rfl, mr, _, _, _, rfl, rfl, SqT.of (tpx _ _ hmr), L2.atI_nat (j := 0) rfl, ?_⟩
          refine ⟨o, u, cr, ns, q, c.1, sameT ns w7, .wit w7.1 w7.2.1 w7.2.2, i, rfl, rpx.mono eT, ok, bn, rok7, tne, tpx _ _ hu, skq, tpx _ _ hcr, cl c (List.mem_of_getElem? hc), decide_eq_false (vis7 q memq7), fun Hb xbb _ rpb => ?_⟩
          have hDb := xbb _ _ (ne_of hDx ho1 (by intro z; cases z)) (eT _ _ hDx)
          have ed : dirAt ns q c.1 i (.wit w7.1 w7.2.1 w7.2.2) = c.2 := by
            rw [eq]
            exact explM_at exM7 hc
          rw [ed]
          refine ⟨_, hDb, ?_, ?_, fun c2 o2 n2 z2 => ?_, rpb.xl hDb fun c2 o2 n2 z2 => by rw [upd_ne n2]; exact z2⟩
          · rw [List.length_map, List.length_map, List.length_take]
            exact Nat.lt_of_le_of_lt (show _ ≤ 13 by omega) (by decide)
          · rw [upd_same, take_more hc, List.map_append]
            unfold wordsV
            rw [List.map_append]
            rfl
          · rw [upd_ne (ne_of_none z2 hD3)]
            exact xbb _ _ n2 (eT _ _ (xbo _ _ n2 z2))
    rintro Hx ⟨hDx, xbo, rpx⟩
    rw [List.take_length] at hDx
    have hpX := xbo _ _ (inso hpn) hpn
    refine ⟨_, rfl, pl, rfl, ⟨_, SqL.of hpX⟩, fun D4 hD4 => ?_⟩
    refine lc_vals (walk_list (xs := xs)) (wordsV (ms.map fun c => c.2)) (by rw [List.length_map, List.length_map, lx]) (by omega) hD4 (fun Ha ea => SqL.of (ea _ _ hpX)) ?_ gmono_name ?_
    · rintro j y Ha Hb R2 hj ea ⟨e0, hy⟩ kk
      subst e0
      obtain ⟨c, hc, mr, cr, rfl, hmr, hcr⟩ := paired_get rmn hy
      refine ⟨rfl, _, rfl, mr, _, _, _, rfl, rfl, SqT.of (ea _ _ (xbo _ _ (tupo hmr) hmr)), L2.atI_nat (j := 1) rfl, kk _ _ exr ?_⟩
      rw [List.getElem?_map, List.getElem?_map, hc]
      rfl
    intro Hz ez2 hDz
    have osn : o ≠ s := (srci.mono Em).ne no
    have noH : H o = none := (xb_i.trans (XB.of Em)).back osn no
    obtain ⟨q1, q2, q3, hsn⟩ := id (srci.mono En)
    refine ⟨.list (wordsD (ms.map fun c => c.2)), .list (wordsD (ms.map fun c => c.2)), .lst (SqL.of (ez2 _ _ hDx)) (dp_words _), .lst (SqL.of hDz) (dp_words _), (sh_words _).ok, (sh_words _).ok, ?_⟩
    rw [eqv_refl _ (sh_words _).1]
    exact k _ (fun c2 o2 n2 z2 => ez2 _ _ (xbo _ _ (ne_of_none z2 noH) (En _ _ (xb_i _ _ n2 z2)))) ⟨q1, q2, q3, ez2 _ _ (xbo _ _ (inso hsn) hsn)⟩
end

section
variable {P : Program} {w : World} {K : PySem.W.Frag} {mg : Str → Option Value} {base : Heap}
/-- a cut list of ints is one -/
theorem cut_ints (ns : List Int) (lo hi : Option Int) : ∃ ms : List Int, cutV (ns.map V.int ++ [V.int 0]) lo hi = ms.map V.int := by
  refine ⟨((ns ++ [0]).drop (HT.sIx (ns.map V.int ++ [V.int 0]).length 0 lo)).take (HT.sIx (ns.map V.int ++ [V.int 0]).length (ns.map V.int ++ [V.int 0]).length hi - HT.sIx (ns.map V.int ++ [V.int 0]).length 0 lo), ?_⟩
  unfold cutV
  rw [List.map_take, List.map_drop, List.map_append]
  rfl
end
theorem cut_of (ns : List Int) (lo hi : Option Int) : ∃ ms : List Int, cutV (ns.map V.int) lo hi = ms.map V.int ∧ ms.length ≤ ns.length := by
  refine ⟨(ns.drop (HT.sIx (ns.map V.int).length 0 lo)).take (HT.sIx (ns.map V.int).length (ns.map V.int).length hi - HT.sIx (ns.map V.int).length 0 lo), ?_, ?_⟩
  · unfold cutV
    rw [List.map_take, List.map_drop]
  · rw [List.length_take, List.length_drop]
    omega

section
variable {P : Program} {w : World} {K : PySem.W.Frag} {mg : Str → Option Value} {base : Heap}
def sp_law (K : PySem.W.Frag) : Sp := fun vs H Q _ => ∃ (a : Addr) (ns : List Int), vs = [.ref a] ∧ SqL K H a (ns.map V.int) ∧ ns.length ≤ 63 ∧ ∀ H2, Q (.bl true) H2
theorem ok_law (T : TX K mg) : FnOk P w K mg base CX0 11 T.f_law T.fd_law ["_law_script"] (sp_law K) := by
  refine T.F_law.ok sc_law (fun vs H Q E h => ?_) (fun cdv A outer s H vs Q E hr h => ?_)
  · obtain ⟨a, ns, rfl, _⟩ := h
    rfl
  · obtain ⟨a, ns, rfl, hS, hlen, k⟩ := h
    refine ⟨_, (pss_cons (ps_for PassesOwn.never rfl (pi_list (pe_slice sl_list (pe_op (r := rCatR K) op_catR (pv 0) (pe_lst (pa_cons pe_int pa_nil))) po_none (po_some pe_int))) (pg_name (i := 1) sc_law.nd rfl (Or.inl rfl)) (pss_cons (ps_set (i := 2) sc_law.nd rfl (Or.inl rfl) (pe_call (ok_law_source T) (hr.mono (by decide)) rfl T.m_law_source T.F_law_source.kp T.b_law_source .nil pass0 (pa_cons (pv 1) pa_nil))) (pss_cons (ps_set (i := 3) sc_law.nd rfl (Or.inl rfl) (pe_call (ok_law_rings T) (hr.mono (by decide)) rfl T.m_law_rings T.F_law_rings.kp T.b_law_rings .nil pass0 (pa_cons (pv 2) (pa_cons pe_int pa_nil)))) (pss_cons (ps_set (i := 4) sc_law.nd rfl (Or.inl rfl) (pe_call (ok_law_seats T) (hr.mono (by decide)) rfl T.m_law_seats T.F_law_seats.kp T.b_law_seats .nil pass0 (pa_cons (pv 2) (pa_cons (pv 3) (pa_cons pe_int pa_nil))))) (pss_one (ps_for PassesOwn.never rfl (pi_range1 rfl T.z_range (pa_cons pe_int pa_nil)) (pg_name (i := 5) sc_law.nd rfl (Or.inl rfl)) (pss_cons (ps_set (i := 6) sc_law.nd rfl (Or.inl rfl) (pe_call (ok_law_seat T) (hr.mono (by decide)) rfl T.m_law_seat T.F_law_seat.kp T.b_law_seat .nil pass0 (pa_cons (pv 2) (pa_cons (pv 3) pa_nil)))) (pss_cons (ps_set (i := 7) sc_law.nd rfl (Or.inl rfl) (pe_call (ok_reach T) (hr.mono (by decide)) rfl T.m_reach T.F_reach.kp T.b_reach .nil pass0 (pa_cons (pe_make T.M_Table (ok_Table_init T) (hr.mono (by decide)) rfl T.m_Table T.b_Table_init .nil pass0 (pa_cons (pv 3) pa_nil)) (pa_cons (pv 4) (pa_cons (pv 6) pa_nil))))) (pss_one (ps_if (PW.pt (pw_and (pt_cmpR op_eq (pe_ix ix_tup (pv 7) pe_int (fun _ _ => rfl)) pe_str (nomark _)) (pw_and1 (pt_not (pt_val (pe_call (ok_law_right T) hr rfl T.m_law_right T.F_law_right.kp T.b_law_right .nil pass0 (pa_cons (pv 2) (pa_cons (pv 3) (pa_cons (pv 4) (pa_cons (pv 6) (pa_cons (pe_ix ix_tup (pv 7) pe_int (fun _ _ => rfl)) pa_nil))))))))))) (pss_one (ps_ret pe_bl)) pss_nil)))))))))) (pss_one (ps_ret pe_bl))), ?_⟩
    refine ⟨_, rfl, by show 1 ≤ sizeLine; decide, fun b hb => ?_⟩
    have e1 := exn (o := .lst [.int 0]) hb
    refine ⟨a, b, _, _, rfl, rfl, Evl.ex_l e1 hS, SqL.of upd_same, ?_, fun c hc => ?_⟩
    · rw [List.length_map]
      exact Nat.le_trans (Nat.add_le_add_right hlen 1) (by decide)
    refine ⟨_, rfl, c, _, rfl, SqL.of upd_same, fun d hd => ?_⟩
    obtain ⟨ms, em⟩ := cut_ints ns none (some 3)
    have e3 : upd (upd (upd H b (.lst [.int 0])) c (.lst (ns.map V.int ++ [V.int 0]))) d (.lst (cutV (ns.map V.int ++ [V.int 0]) none (some 3))) d = some (.lst (ms.map V.int)) := by rw [upd_same, em]
    refine ⟨d, rfl, ⟨_, SqL.of e3⟩, ?_⟩
    refine for_it (walk_list (xs := ms.map V.int)) (fun i σ H => (∃ y1 y2 y3 y4 y5 y6 y7, σ = [some (.ref a), y1, y2, y3, y4, y5, y6, y7]) ∧ H d = some (.lst (ms.map V.int))) ⟨⟨_, _, _, _, _, _, _, rfl⟩, e3⟩ (fun i σ H _ p => SqL.of p.2) ?_ (fun σ H p => k _)
    rintro i x σ _ H1 hi ⟨⟨y1, y2, y3, y4, y5, y6, y7, rfl⟩, hd1⟩ ⟨rfl, hx⟩
    obtain ⟨n, _, rfl⟩ := map_get hx
    refine ⟨_, rfl, n, rfl, fun H2 s e2 hs src => ?_⟩
    have nds : d ≠ s := ne_of_none hd1 hs
    have hd2 := e2 _ _ hd1
    dsimp only [gName]
    refine ⟨_, rfl, s, 120, rfl, src, by decide, by decide, fun t ns1 H3 nt ht ok b31 pr xb3 src3 => ?_⟩
    dsimp only [gName]
    have pr : prodL ns1 ≤ 120 := pr
    have b30 : ∀ n ∈ ns1, n ≤ 10 ^ 30 := fun n hn => Int.le_trans (b31 n hn) (by decide)
    have b80 : ∀ n ∈ ns1, n ≤ 10 ^ 80 := fun n hn => Int.le_trans (b31 n hn) (by decide)
    refine ⟨_, rfl, _, rfl, s, t, ns1, 3, rfl, src3, ht, ok, b30, by decide, by decide, fun g tss H4 ng hg ne lt sks nod xb4 src4 => ?_⟩
    dsimp only [gName]
    have ngs : g ≠ s := src3.ne ng
    have ht4 := tup_xb src3 ht xb4
    have hd4 := xb4 _ _ nds (xb3 _ _ nds hd2)
    have tg : TgOk ns1 tss := ⟨ok, b80, ne, sks⟩
    have lt3 : tss.length ≤ 3 := lt
    refine ⟨2, rfl, by decide, by decide, ?_⟩
    refine for_it walk_range (fun i σ Hx => (∃ y5 y6 y7, σ = [some (.ref a), some (.int n), some (.ref s), some (.ref t), some (.ref g), y5, y6, y7]) ∧ XB s H4 Hx ∧ Src Hx s) ⟨⟨_, _, _, rfl⟩, XB.of exr, src4⟩ (fun _ _ _ _ _ => True.intro) ?_ ?_
    · rintro j x σ _ Hx hj ⟨⟨y5, y6, y7, rfl⟩, xb, srcx⟩ ⟨rfl, hx⟩
      dsimp only [gName]
      refine ⟨_, rfl, _, rfl, s, t, ns1, rfl, srcx, tup_xb src4 ht4 xb, ok, b30, fun st p H5 nst hst skp xb5 src5 => ?_⟩
      dsimp only [gName]
      have xb45 := xb.trans xb5
      refine ⟨_, rfl, ?_⟩
      refine mk_tab (b := true) (ns := ns1) (show SqH H5 (true, t) _ from tup_xb src4 ht4 xb45) ok fun bd H6 e6 nbd tab6 => ?_
      have xb46 := xb45.trans (XB.of e6)
      have src6 := src5.mono e6
      have hg6 := rows_xb src4 ngs xb46 hg
      refine ⟨_, rfl, _, rfl, ?_⟩
      dsimp only [tNil, List.append_nil]
      refine use_reach (bq := false) tg tab6 hg6.q (by omega) nod (e6 _ _ hst) skp fun r H7 e7 rv => ?_
      have xb47 := xb46.trans (XB.of e7)
      have src7 := src6.mono e7
      dsimp only [gName]
      by_cases hf : freeF 0 (shiftB ns1 tss) (diffL p (tss.headD [])) = true
      · unfold ReachV at rv
        rw [if_pos hf] at rv
        refine ⟨_, rfl, r, _, _, _, rfl, rfl, SqT.of rv, L2.atI_nat (j := 0) rfl, rfl, _, rfl, ?_⟩
        refine itf (by decide +kernel) ?_
        exact itf rfl ⟨⟨_, _, _, rfl⟩, xb47, src7⟩
      obtain ⟨M, R, W, wt, hr7, witA, wok, Mb, hT, hp⟩ := reach_no tg skp rv (by simpa using hf)
      refine ⟨_, rfl, r, _, _, _, rfl, rfl, SqT.of hr7, L2.atI_nat (j := 0) rfl, rfl, _, rfl, ?_⟩
      refine itt (by decide +kernel) ?_
      refine ⟨_, rfl, _, rfl, _, rfl, _, rfl, _, rfl, r, _, _, _, rfl, rfl, SqT.of hr7, L2.atI_nat (j := 1) rfl, s, t, g, st, wt, ns1, p, W, tss, M, R, rfl, src7, tup_xb src4 ht4 xb47, ok, pr, rows_xb src4 ngs xb47 hg, ngs, ne, by omega, sks, nod, e7 _ _ (e6 _ _ hst), skp, witA, wok, Mb, hT, hp, fun H8 xb8 src8 => ?_⟩
      exact ⟨_, rfl, itf rfl ⟨⟨_, _, _, rfl⟩, xb47.trans xb8, src8⟩⟩
    rintro σ Hx ⟨⟨y5, y6, y7, rfl⟩, xb, srcx⟩
    exact ⟨⟨_, _, _, _, _, _, _, rfl⟩, xb _ _ nds hd4⟩
end

/-! ### the head by facts -/
def dd0 : He.DefD := ⟨("_wall", none), "_wall", "_wall", defArgs s_wall, defBody s_wall, defScope s_wall, [], []⟩
def dd1 : He.DefD := ⟨("is_integer", none), "is_integer", "is_integer", defArgs s_is_integer, defBody s_is_integer, defScope s_is_integer, [], []⟩
def dd2 : He.DefD := ⟨("is_at_least", none), "is_at_least", "is_at_least", defArgs s_is_at_least, defBody s_is_at_least, defScope s_is_at_least, [], []⟩
def dd3 : He.DefD := ⟨("is_between", none), "is_between", "is_between", defArgs s_is_between, defBody s_is_between, defScope s_is_between, [], []⟩
def dd4 : He.DefD := ⟨("greatest_common_divisor", none), "greatest_common_divisor", "greatest_common_divisor", defArgs s_greatest_common_divisor, defBody s_greatest_common_divisor, defScope s_greatest_common_divisor, [], []⟩
def dd5 : He.DefD := ⟨("odd_part", none), "odd_part", "odd_part", defArgs s_odd_part, defBody s_odd_part, defScope s_odd_part, [], []⟩
def dd6 : He.DefD := ⟨("Table", some "__init__"), "__init__", "Table.__init__", defArgs s_Table_init, defBody s_Table_init, defScope s_Table_init, [], []⟩
def dd7 : He.DefD := ⟨("Table", some "sizes"), "sizes", "Table.sizes", defArgs s_Table_sizes, defBody s_Table_sizes, defScope s_Table_sizes, [], []⟩
def dd8 : He.DefD := ⟨("Table", some "count"), "count", "Table.count", defArgs s_Table_count, defBody s_Table_count, defScope s_Table_count, [], []⟩
def dd9 : He.DefD := ⟨("Table", some "is_seat"), "is_seat", "Table.is_seat", defArgs s_Table_is_seat, defBody s_Table_is_seat, defScope s_Table_is_seat, [], []⟩
def dd10 : He.DefD := ⟨("Table", some "is_call"), "is_call", "Table.is_call", defArgs s_Table_is_call, defBody s_Table_is_call, defScope s_Table_is_call, [], []⟩
def dd11 : He.DefD := ⟨("Table", some "shifted"), "shifted", "Table.shifted", defArgs s_Table_shifted, defBody s_Table_shifted, defScope s_Table_shifted, [], []⟩
def dd12 : He.DefD := ⟨("Table", some "moves"), "moves", "Table.moves", defArgs s_Table_moves, defBody s_Table_moves, defScope s_Table_moves, [], []⟩
def dd13 : He.DefD := ⟨("Table", some "step"), "step", "Table.step", defArgs s_Table_step, defBody s_Table_step, defScope s_Table_step, [], []⟩
def dd14 : He.DefD := ⟨("Table", some "order"), "order", "Table.order", defArgs s_Table_order, defBody s_Table_order, defScope s_Table_order, [], []⟩
def dd15 : He.DefD := ⟨("Table", some "halves"), "halves", "Table.halves", defArgs s_Table_halves, defBody s_Table_halves, defScope s_Table_halves, [], []⟩
def dd16 : He.DefD := ⟨("is_direction", none), "is_direction", "is_direction", defArgs s_is_direction, defBody s_is_direction, defScope s_is_direction, [], []⟩
def dd17 : He.DefD := ⟨("require_table", none), "require_table", "require_table", defArgs s_require_table, defBody s_require_table, defScope s_require_table, [], []⟩
def dd18 : He.DefD := ⟨("require_seat", none), "require_seat", "require_seat", defArgs s_require_seat, defBody s_require_seat, defScope s_require_seat, [], []⟩
def dd19 : He.DefD := ⟨("require_call", none), "require_call", "require_call", defArgs s_require_call, defBody s_require_call, defScope s_require_call, [], []⟩
def dd20 : He.DefD := ⟨("require_targets", none), "require_targets", "require_targets", defArgs s_require_targets, defBody s_require_targets, defScope s_require_targets, [], []⟩
def dd21 : He.DefD := ⟨("require_small", none), "require_small", "require_small", defArgs s_require_small, defBody s_require_small, defScope s_require_small, [], []⟩
def dd22 : He.DefD := ⟨("all_seats", none), "all_seats", "all_seats", defArgs s_all_seats, defBody s_all_seats, defScope s_all_seats, [], []⟩
def dd23 : He.DefD := ⟨("mirror_seat", none), "mirror_seat", "mirror_seat", defArgs s_mirror_seat, defBody s_mirror_seat, defScope s_mirror_seat, [], []⟩
def dd24 : He.DefD := ⟨("call_counts", none), "call_counts", "call_counts", defArgs s_call_counts, defBody s_call_counts, defScope s_call_counts, [], []⟩
def dd25 : He.DefD := ⟨("combined", none), "combined", "combined", defArgs s_combined, defBody s_combined, defScope s_combined, [], []⟩
def dd26 : He.DefD := ⟨("reduced", none), "reduced", "reduced", defArgs s_reduced, defBody s_reduced, defScope s_reduced, [], []⟩
def dd27 : He.DefD := ⟨("shift_basis", none), "shift_basis", "shift_basis", defArgs s_shift_basis, defBody s_shift_basis, defScope s_shift_basis, [], []⟩
def dd28 : He.DefD := ⟨("diagonal_product", none), "diagonal_product", "diagonal_product", defArgs s_diagonal_product, defBody s_diagonal_product, defScope s_diagonal_product, [], []⟩
def dd29 : He.DefD := ⟨("coordinates", none), "coordinates", "coordinates", defArgs s_coordinates, defBody s_coordinates, defScope s_coordinates, [], []⟩
def dd30 : He.DefD := ⟨("is_free", none), "is_free", "is_free", defArgs s_is_free, defBody s_is_free, defScope s_is_free, [], []⟩
def dd31 : He.DefD := ⟨("separating_witness", none), "separating_witness", "separating_witness", defArgs s_separating_witness, defBody s_separating_witness, defScope s_separating_witness, [], []⟩
def dd32 : He.DefD := ⟨("reach", none), "reach", "reach", defArgs s_reach, defBody s_reach, defScope s_reach, [], []⟩
def dd33 : He.DefD := ⟨("weighted", none), "weighted", "weighted", defArgs s_weighted, defBody s_weighted, defScope s_weighted, [], []⟩
def dd34 : He.DefD := ⟨("is_witness", none), "is_witness", "is_witness", defArgs s_is_witness, defBody s_is_witness, defScope s_is_witness, [], []⟩
def dd35 : He.DefD := ⟨("is_move", none), "is_move", "is_move", defArgs s_is_move, defBody s_is_move, defScope s_is_move, [], []⟩
def dd36 : He.DefD := ⟨("require_moves", none), "require_moves", "require_moves", defArgs s_require_moves, defBody s_require_moves, defScope s_require_moves, [], []⟩
def dd37 : He.DefD := ⟨("visited_seats", none), "visited_seats", "visited_seats", defArgs s_visited_seats, defBody s_visited_seats, defScope s_visited_seats, [], []⟩
def dd38 : He.DefD := ⟨("Record", some "__init__"), "__init__", "Record.__init__", defArgs s_Record_init, defBody s_Record_init, defScope s_Record_init, [], []⟩
def dd39 : He.DefD := ⟨("Record", some "seats"), "seats", "Record.seats", defArgs s_Record_seats, defBody s_Record_seats, defScope s_Record_seats, [], []⟩
def dd40 : He.DefD := ⟨("Record", some "calls_to_target"), "calls_to_target", "Record.calls_to_target", defArgs s_Record_calls_to_target, defBody s_Record_calls_to_target, defScope s_Record_calls_to_target, [], []⟩
def dd41 : He.DefD := ⟨("Record", some "losses"), "losses", "Record.losses", defArgs s_Record_losses, defBody s_Record_losses, defScope s_Record_losses, [], []⟩
def dd42 : He.DefD := ⟨("Record", some "first_mistake"), "first_mistake", "Record.first_mistake", defArgs s_Record_first_mistake, defBody s_Record_first_mistake, defScope s_Record_first_mistake, [], []⟩
def dd43 : He.DefD := ⟨("common_exponent", none), "common_exponent", "common_exponent", defArgs s_common_exponent, defBody s_common_exponent, defScope s_common_exponent, [], []⟩
def dd44 : He.DefD := ⟨("weight_rows", none), "weight_rows", "weight_rows", defArgs s_weight_rows, defBody s_weight_rows, defScope s_weight_rows, [], []⟩
def dd45 : He.DefD := ⟨("units_of", none), "units_of", "units_of", defArgs s_units_of, defBody s_units_of, defScope s_units_of, [], []⟩
def dd46 : He.DefD := ⟨("is_canonical", none), "is_canonical", "is_canonical", defArgs s_is_canonical, defBody s_is_canonical, defScope s_is_canonical, [], []⟩
def dd47 : He.DefD := ⟨("explains", none), "explains", "explains", defArgs s_explains, defBody s_explains, defScope s_explains, [], []⟩
def dd48 : He.DefD := ⟨("consistent_witnesses", none), "consistent_witnesses", "consistent_witnesses", defArgs s_consistent_witnesses, defBody s_consistent_witnesses, defScope s_consistent_witnesses, [], []⟩
def dd49 : He.DefD := ⟨("has_residue", none), "has_residue", "has_residue", defArgs s_has_residue, defBody s_has_residue, defScope s_has_residue, [], []⟩
def dd50 : He.DefD := ⟨("direction_off", none), "direction_off", "direction_off", defArgs s_direction_off, defBody s_direction_off, defScope s_direction_off, [], []⟩
def dd51 : He.DefD := ⟨("is_layers", none), "is_layers", "is_layers", defArgs s_is_layers, defBody s_is_layers, defScope s_is_layers, [], []⟩
def dd52 : He.DefD := ⟨("copied", none), "copied", "copied", defArgs s_copied, defBody s_copied, defScope s_copied, [], []⟩
def dd53 : He.DefD := ⟨("depths_for", none), "depths_for", "depths_for", defArgs s_depths_for, defBody s_depths_for, defScope s_depths_for, [], []⟩
def dd54 : He.DefD := ⟨("is_directions", none), "is_directions", "is_directions", defArgs s_is_directions, defBody s_is_directions, defScope s_is_directions, [], []⟩
def dd55 : He.DefD := ⟨("is_shared_witness", none), "is_shared_witness", "is_shared_witness", defArgs s_is_shared_witness, defBody s_is_shared_witness, defScope s_is_shared_witness, [], []⟩
def dd56 : He.DefD := ⟨("Responder", some "__init__"), "__init__", "Responder.__init__", defArgs s_Responder_init, defBody s_Responder_init, defScope s_Responder_init, [], []⟩
def dd57 : He.DefD := ⟨("Responder", some "is_unsafe"), "is_unsafe", "Responder.is_unsafe", defArgs s_Responder_is_unsafe, defBody s_Responder_is_unsafe, defScope s_Responder_is_unsafe, [], []⟩
def dd58 : He.DefD := ⟨("Responder", some "direction_at"), "direction_at", "Responder.direction_at", defArgs s_Responder_direction_at, defBody s_Responder_direction_at, defScope s_Responder_direction_at, [], []⟩
def dd59 : He.DefD := ⟨("Responder", some "answer"), "answer", "Responder.answer", defArgs s_Responder_answer, defBody s_Responder_answer, defScope s_Responder_answer, [], []⟩
def dd60 : He.DefD := ⟨("_law_mixed", none), "_law_mixed", "_law_mixed", defArgs s_law_mixed, defBody s_law_mixed, defScope s_law_mixed, [], []⟩
def dd61 : He.DefD := ⟨("_law_source", none), "_law_source", "_law_source", defArgs s_law_source, defBody s_law_source, defScope s_law_source, [], []⟩
def dd62 : He.DefD := ⟨("_law_take", none), "_law_take", "_law_take", defArgs s_law_take, defBody s_law_take, defScope s_law_take, [], []⟩
def dd63 : He.DefD := ⟨("_law_one", none), "_law_one", "_law_one", defArgs s_law_one, defBody s_law_one, defScope s_law_one, [], []⟩
def dd64 : He.DefD := ⟨("_law_rings", none), "_law_rings", "_law_rings", defArgs s_law_rings, defBody s_law_rings, defScope s_law_rings, [], []⟩
def dd65 : He.DefD := ⟨("_law_seat", none), "_law_seat", "_law_seat", defArgs s_law_seat, defBody s_law_seat, defScope s_law_seat, [], []⟩
def dd66 : He.DefD := ⟨("_law_seats", none), "_law_seats", "_law_seats", defArgs s_law_seats, defBody s_law_seats, defScope s_law_seats, [], []⟩
def dd67 : He.DefD := ⟨("_law_call", none), "_law_call", "_law_call", defArgs s_law_call, defBody s_law_call, defScope s_law_call, [], []⟩
def dd68 : He.DefD := ⟨("_law_step", none), "_law_step", "_law_step", defArgs s_law_step, defBody s_law_step, defScope s_law_step, [], []⟩
def dd69 : He.DefD := ⟨("_law_walk", none), "_law_walk", "_law_walk", defArgs s_law_walk, defBody s_law_walk, defScope s_law_walk, [], []⟩
def dd70 : He.DefD := ⟨("_law_all", none), "_law_all", "_law_all", defArgs s_law_all, defBody s_law_all, defScope s_law_all, [], []⟩
def dd71 : He.DefD := ⟨("_law_value", none), "_law_value", "_law_value", defArgs s_law_value, defBody s_law_value, defScope s_law_value, [], []⟩
def dd72 : He.DefD := ⟨("_law_divisor", none), "_law_divisor", "_law_divisor", defArgs s_law_divisor, defBody s_law_divisor, defScope s_law_divisor, [], []⟩
def dd73 : He.DefD := ⟨("_law_canonical", none), "_law_canonical", "_law_canonical", defArgs s_law_canonical, defBody s_law_canonical, defScope s_law_canonical, [], []⟩
def dd74 : He.DefD := ⟨("_law_right", none), "_law_right", "_law_right", defArgs s_law_right, defBody s_law_right, defScope s_law_right, [], []⟩
def dd75 : He.DefD := ⟨("law", none), "law", "law", defArgs s_law, defBody s_law, defScope s_law, [], []⟩
def fnL0 : List He.DefD := [dd0, dd1, dd2, dd3, dd4, dd5, dd6, dd7, dd8, dd9, dd10, dd11, dd12, dd13, dd14, dd15, dd16, dd17, dd18, dd19, dd20, dd21, dd22, dd23, dd24, dd25, dd26, dd27, dd28, dd29]
def fnL1 : List He.DefD := [dd30, dd31, dd32, dd33, dd34, dd35, dd36, dd37, dd38, dd39, dd40, dd41, dd42, dd43, dd44, dd45, dd46, dd47, dd48, dd49, dd50, dd51, dd52, dd53, dd54, dd55, dd56, dd57, dd58, dd59]
def fnL2 : List He.DefD := [dd60, dd61, dd62, dd63, dd64, dd65, dd66, dd67, dd68, dd69, dd70, dd71, dd72, dd73, dd74, dd75]
def fnL : List He.DefD := fnL0 ++ fnL1 ++ fnL2
def faL0 : List He.Fa := [.glo "_wall", .glo "is_integer", .glo "is_at_least", .glo "is_between", .glo "greatest_common_divisor", .glo "odd_part", .glo "is_direction", .glo "require_table", .glo "require_seat", .glo "require_call", .glo "require_targets", .glo "require_small", .glo "all_seats", .glo "mirror_seat", .glo "call_counts", .glo "combined", .glo "reduced", .glo "shift_basis", .glo "diagonal_product", .glo "coordinates", .glo "is_free", .glo "separating_witness", .glo "reach", .glo "weighted", .glo "is_witness", .glo "is_move", .glo "require_moves", .glo "visited_seats", .glo "common_exponent", .glo "weight_rows"]
def faL1 : List He.Fa := [.glo "units_of", .glo "is_canonical", .glo "explains", .glo "consistent_witnesses", .glo "has_residue", .glo "direction_off", .glo "is_layers", .glo "copied", .glo "depths_for", .glo "is_directions", .glo "is_shared_witness", .glo "_law_mixed", .glo "_law_source", .glo "_law_take", .glo "_law_one", .glo "_law_rings", .glo "_law_seat", .glo "_law_seats", .glo "_law_call", .glo "_law_step", .glo "_law_walk", .glo "_law_all", .glo "_law_value", .glo "_law_divisor", .glo "_law_canonical", .glo "_law_right", .glo "law", .glo "Table", .cls "Table", .mkr "Table"]
def faL2 : List He.Fa := [.meth "Table" "sizes", .meth "Table" "count", .meth "Table" "is_seat", .meth "Table" "is_call", .meth "Table" "shifted", .meth "Table" "moves", .meth "Table" "step", .meth "Table" "order", .meth "Table" "halves", .noat "Table" "rings", .glo "Record", .cls "Record", .mkr "Record", .meth "Record" "seats", .meth "Record" "calls_to_target", .meth "Record" "losses", .meth "Record" "first_mistake", .noat "Record" "visited", .noat "Record" "table", .noat "Record" "goals", .noat "Record" "played", .glo "Responder", .cls "Responder", .mkr "Responder", .meth "Responder" "is_unsafe", .meth "Responder" "direction_at", .meth "Responder" "answer", .noat "Responder" "depths", .noat "Responder" "table", .noat "Responder" "goals"]
def faL3 : List He.Fa := [.noat "Responder" "strategy", .noat "Responder" "used", .int "MAX_RINGS" 4, .int "SMALL" 300, .str "LAYERS" "layers", .free "abs", .free "all", .free "any", .free "bool", .free "enumerate", .free "int", .free "isinstance", .free "len", .free "list", .free "max", .free "min", .free "range", .free "str", .free "sum", .free "tuple", .free "zip"]
def faL : List He.Fa := faL0 ++ faL1 ++ faL2 ++ faL3
def exB (K : PySem.W.Frag) : Bool := (He.eqO (PySem.W.findIn K (.ref (He.ga K "Table")) "__class__") (some (some (.builtin "object.__class__")))) && ((decide (PySem.W.mroIn K (He.ga K "Table") (.type "object") = some true)) && ((He.eqO (PySem.W.specialIn K (.builtin "object.__class__") "__get__") (some (some (.builtin "getset_descriptor.__get__")))) && ((decide (PySem.W.takesIn K (.builtin "object.__class__") = some true)) && (true))))
abbrev AlK : Type := He.AlD × Bool
def obsK2 (K : PySem.W.Frag) : AlK := (He.obsD faL fnL K, exB K)
def SaysK (K : PySem.W.Frag) : Prop := obsK2 K = (He.valD fnL, true)
def obsK (g : Addr → Option Obj) : AlK := obsK2 (He.frG g (He.asD g 4))
def hk : PySem.W.Hook where
  α := AlK
  obs := fun s => obsK s.heap.get?
  val := fun _ => (He.valD fnL, true)
  says := fun _ h => ∃ K : PySem.W.Frag, K.In h ∧ SaysK K
  of := fun _ _ e => ⟨_, He.frG_in, e⟩
  keeps := fun _ _ _ ⟨K, hK, c⟩ k => ⟨K, PySem.W.Frag.In.keeps hK k, c⟩
def ob (s : PySem.W.SharedT) : AlK := obsK (HandSHeadRun.getT s)
theorem ob_eq (s : PySem.W.SharedT) : ob s = hk.obs s.abs := by
  have e : HandSHeadRun.getT s = s.abs.heap.get? := funext (HandSHeadRun.getT_eq s)
  show obsK (HandSHeadRun.getT s) = obsK s.abs.heap.get?
  rw [e]
def loose0 : List PySem.Str := ["_wall", "SeatError", "InvalidTable", "InvalidTargets", "InvalidSeat", "InvalidCall", "InvalidDirection", "InvalidMoves", "InvalidStrategy", "TooLarge", "is_integer", "is_at_least", "is_between", "greatest_common_divisor", "odd_part", "MAX_RINGS", "SMALL", "Table", "is_direction", "require_table", "require_seat", "require_call", "require_targets", "require_small", "all_seats", "mirror_seat", "call_counts", "combined", "reduced", "shift_basis"]
def loose1 : List PySem.Str := ["diagonal_product", "coordinates", "is_free", "separating_witness", "reach", "weighted", "is_witness", "is_move", "require_moves", "visited_seats", "Record", "common_exponent", "weight_rows", "units_of", "is_canonical", "explains", "consistent_witnesses", "LAYERS", "has_residue", "direction_off", "is_layers", "copied", "depths_for", "is_directions", "is_shared_witness", "Responder", "_law_mixed", "_law_source", "_law_take", "_law_one"]
def loose2 : List PySem.Str := ["_law_rings", "_law_seat", "_law_seats", "_law_call", "_law_step", "_law_walk", "_law_all", "_law_value", "_law_divisor", "_law_canonical", "_law_right"]
def loose : List PySem.Str := loose0 ++ loose1 ++ loose2
abbrev RR : PySem.W.OpenRow := PySem.W.OpenLaw.row PySem.Challenge.rw_calledseats_k46_whole_responders_with_wi
abbrev QQ : Program := PySem.W.view RR.prog [79]
def kOf (s : PySem.W.SharedT) : PySem.W.Frag := He.frG (HandSHeadRun.getT s) (He.asD (HandSHeadRun.getT s) 4)
theorem runA (w : World) : HandSHeadRun.RunEq RR QQ PySem.W.Hook.none (fun _ => ()) 30000 loose w := by
  intro os
  kernel_rfl
def obB (s : PySem.W.SharedT) : Bool × List He.FnW := (fnL.all fun d => d.ok (kOf s), fnL.map fun d => He.fnW (kOf s) d.at_)
def obC (s : PySem.W.SharedT) : Bool × Bool := (faL.all fun f => f.ok (kOf s), exB (kOf s))
theorem runB (w : World) (os : OsState) : (HandSHeadRun.endF (HandSHeadRun.stepQ (HandSHeadRun.denQ HandSHeadRun.tabQ) RR.prog w) 30000 RR.prog w os).map obB = some (true, fnL.map He.DefD.val) := by
  kernel_rfl
theorem runC (w : World) (os : OsState) : (HandSHeadRun.endF (HandSHeadRun.stepQ (HandSHeadRun.denQ HandSHeadRun.tabQ) RR.prog w) 30000 RR.prog w os).map obC = some (true, true) := by
  kernel_rfl
theorem runTop (w : World) : HandSHeadRun.RunEq RR QQ hk ob 30000 loose w := by
  intro os
  have hA := runA w os
  have hB := runB w os
  have hC := runC w os
  cases e : HandSHeadRun.endF (HandSHeadRun.stepQ (HandSHeadRun.denQ HandSHeadRun.tabQ) RR.prog w) 30000 RR.prog w os with
  | none =>
    rw [e] at hB
    cases hB
  | some s =>
    rw [e] at hA hB hC
    have hA2 := Option.some.inj hA
    have hB2 : obB s = (true, fnL.map He.DefD.val) := Option.some.inj hB
    have hC2 : obC s = (true, true) := Option.some.inj hC
    have hA3 := Prod.mk.inj hA2
    have hA4 := Prod.mk.inj hA3.2
    obtain ⟨b1, b2⟩ := Prod.mk.inj hB2
    obtain ⟨c1, c2⟩ := Prod.mk.inj hC2
    have ho : ob s = (He.valD fnL, true) := by
      show (((faL.all fun f => f.ok (kOf s)) && (fnL.all fun d => d.ok (kOf s)), fnL.map fun d => He.fnW (kOf s) d.at_), exB (kOf s)) = ((true, fnL.map He.DefD.val), true)
      rw [c1, b1, b2, c2]
      rfl
    exact congrArg some (Prod.ext hA3.1 (Prod.ext hA4.1 ho))
theorem fun_of {K : PySem.W.Frag} {d : He.DefD} {st : Stmt} {x q : Str} {fd : FuncData} (e1 : d.name = x) (e2 : d.qual = q) (e3 : d.params = defArgs st) (e4 : d.body = defBody st) (e5 : d.scope = defScope st) (e6 : d.dfl = []) (F : L2.FunD K d.name d.qual d.params d.body d.scope (d.dvs K) (d.kws K) (He.fAd K d.at_) fd) : Fun K x q st (He.fAd K d.at_) fd := by
  obtain ⟨oc, od, dV, kV, doc, pm, an, cdv, ct, osl, h1, h2, h3, h4, h5⟩ := F.ex
  have h6 : dV = .none := by
    rcases h4 with ⟨_, h⟩ | ⟨h, _⟩
    · exact h
    · exact absurd (by show d.dfl.map _ = []; rw [e6]; rfl) h
  subst e1 e2
  rw [e3, e4, e5, h6] at h1
  exact ⟨⟨oc, od, kV, doc, pm, an, cdv, ct, osl, h1, h2, h3⟩, F.kp⟩
set_option maxHeartbeats 0 in
theorem tx_of {K : PySem.W.Frag} {h : Heap} {mg : Str → Option Value} (X : K.In h) (G : h.Ns mainGlobals mg) (c2 : SaysK K) :
    ∃ T : TX K mg, mg "law" = some (.ref T.f_law) ∧ ∀ (s : Shared) (v : Value), BindsTo s T.fd_law ⟨[v], []⟩ [("_law_script", v)] := by
  have c : He.SaysD faL fnL K := congrArg (fun z : AlK => z.1) c2
  have cx : exB K = true := congrArg (fun z : AlK => z.2) c2
  obtain ⟨ic_Table, cx⟩ := He.ba cx
  obtain ⟨im_Table, cx⟩ := He.ba cx
  obtain ⟨ig_, cx⟩ := He.ba cx
  obtain ⟨it_, cx⟩ := He.ba cx
  obtain ⟨fd0, D0⟩ := c.def_ 0 (d := dd0) rfl
  have F0 : Fun K "_wall" "_wall" s_wall (He.fAd K dd0.at_) fd0 := fun_of rfl rfl rfl rfl rfl rfl D0
  have b0 := F0.binds (ps := ["k"]) fun _ _ _ _ _ _ us hl => match us, hl with | [_], _ => rfl
  obtain ⟨fd1, D1⟩ := c.def_ 1 (d := dd1) rfl
  have F1 : Fun K "is_integer" "is_integer" s_is_integer (He.fAd K dd1.at_) fd1 := fun_of rfl rfl rfl rfl rfl rfl D1
  have b1 := F1.binds (ps := ["value"]) fun _ _ _ _ _ _ us hl => match us, hl with | [_], _ => rfl
  obtain ⟨fd2, D2⟩ := c.def_ 2 (d := dd2) rfl
  have F2 : Fun K "is_at_least" "is_at_least" s_is_at_least (He.fAd K dd2.at_) fd2 := fun_of rfl rfl rfl rfl rfl rfl D2
  have b2 := F2.binds (ps := ["value", "low"]) fun _ _ _ _ _ _ us hl => match us, hl with | [_, _], _ => rfl
  obtain ⟨fd3, D3⟩ := c.def_ 3 (d := dd3) rfl
  have F3 : Fun K "is_between" "is_between" s_is_between (He.fAd K dd3.at_) fd3 := fun_of rfl rfl rfl rfl rfl rfl D3
  have b3 := F3.binds (ps := ["value", "low", "high"]) fun _ _ _ _ _ _ us hl => match us, hl with | [_, _, _], _ => rfl
  obtain ⟨fd4, D4⟩ := c.def_ 4 (d := dd4) rfl
  have F4 : Fun K "greatest_common_divisor" "greatest_common_divisor" s_greatest_common_divisor (He.fAd K dd4.at_) fd4 := fun_of rfl rfl rfl rfl rfl rfl D4
  have b4 := F4.binds (ps := ["first", "second"]) fun _ _ _ _ _ _ us hl => match us, hl with | [_, _], _ => rfl
  obtain ⟨fd5, D5⟩ := c.def_ 5 (d := dd5) rfl
  have F5 : Fun K "odd_part" "odd_part" s_odd_part (He.fAd K dd5.at_) fd5 := fun_of rfl rfl rfl rfl rfl rfl D5
  have b5 := F5.binds (ps := ["number"]) fun _ _ _ _ _ _ us hl => match us, hl with | [_], _ => rfl
  obtain ⟨fd6, D6⟩ := c.def_ 6 (d := dd6) rfl
  have F6 : Fun K "__init__" "Table.__init__" s_Table_init (He.fAd K dd6.at_) fd6 := fun_of rfl rfl rfl rfl rfl rfl D6
  have b6 := F6.binds (ps := ["self", "rings"]) fun _ _ _ _ _ _ us hl => match us, hl with | [_, _], _ => rfl
  obtain ⟨fd7, D7⟩ := c.def_ 7 (d := dd7) rfl
  have F7 : Fun K "sizes" "Table.sizes" s_Table_sizes (He.fAd K dd7.at_) fd7 := fun_of rfl rfl rfl rfl rfl rfl D7
  have b7 := F7.binds (ps := ["self"]) fun _ _ _ _ _ _ us hl => match us, hl with | [_], _ => rfl
  obtain ⟨fd8, D8⟩ := c.def_ 8 (d := dd8) rfl
  have F8 : Fun K "count" "Table.count" s_Table_count (He.fAd K dd8.at_) fd8 := fun_of rfl rfl rfl rfl rfl rfl D8
  have b8 := F8.binds (ps := ["self"]) fun _ _ _ _ _ _ us hl => match us, hl with | [_], _ => rfl
  obtain ⟨fd9, D9⟩ := c.def_ 9 (d := dd9) rfl
  have F9 : Fun K "is_seat" "Table.is_seat" s_Table_is_seat (He.fAd K dd9.at_) fd9 := fun_of rfl rfl rfl rfl rfl rfl D9
  have b9 := F9.binds (ps := ["self", "value"]) fun _ _ _ _ _ _ us hl => match us, hl with | [_, _], _ => rfl
  obtain ⟨fd10, D10⟩ := c.def_ 10 (d := dd10) rfl
  have F10 : Fun K "is_call" "Table.is_call" s_Table_is_call (He.fAd K dd10.at_) fd10 := fun_of rfl rfl rfl rfl rfl rfl D10
  have b10 := F10.binds (ps := ["self", "value"]) fun _ _ _ _ _ _ us hl => match us, hl with | [_, _], _ => rfl
  obtain ⟨fd11, D11⟩ := c.def_ 11 (d := dd11) rfl
  have F11 : Fun K "shifted" "Table.shifted" s_Table_shifted (He.fAd K dd11.at_) fd11 := fun_of rfl rfl rfl rfl rfl rfl D11
  have b11 := F11.binds (ps := ["self", "seat", "call", "factor"]) fun _ _ _ _ _ _ us hl => match us, hl with | [_, _, _, _], _ => rfl
  obtain ⟨fd12, D12⟩ := c.def_ 12 (d := dd12) rfl
  have F12 : Fun K "moves" "Table.moves" s_Table_moves (He.fAd K dd12.at_) fd12 := fun_of rfl rfl rfl rfl rfl rfl D12
  have b12 := F12.binds (ps := ["self", "seat", "call"]) fun _ _ _ _ _ _ us hl => match us, hl with | [_, _, _], _ => rfl
  obtain ⟨fd13, D13⟩ := c.def_ 13 (d := dd13) rfl
  have F13 : Fun K "step" "Table.step" s_Table_step (He.fAd K dd13.at_) fd13 := fun_of rfl rfl rfl rfl rfl rfl D13
  have b13 := F13.binds (ps := ["self", "seat", "call", "direction"]) fun _ _ _ _ _ _ us hl => match us, hl with | [_, _, _, _], _ => rfl
  obtain ⟨fd14, D14⟩ := c.def_ 14 (d := dd14) rfl
  have F14 : Fun K "order" "Table.order" s_Table_order (He.fAd K dd14.at_) fd14 := fun_of rfl rfl rfl rfl rfl rfl D14
  have b14 := F14.binds (ps := ["self", "seat"]) fun _ _ _ _ _ _ us hl => match us, hl with | [_, _], _ => rfl
  obtain ⟨fd15, D15⟩ := c.def_ 15 (d := dd15) rfl
  have F15 : Fun K "halves" "Table.halves" s_Table_halves (He.fAd K dd15.at_) fd15 := fun_of rfl rfl rfl rfl rfl rfl D15
  have b15 := F15.binds (ps := ["self", "seat"]) fun _ _ _ _ _ _ us hl => match us, hl with | [_, _], _ => rfl
  obtain ⟨fd16, D16⟩ := c.def_ 16 (d := dd16) rfl
  have F16 : Fun K "is_direction" "is_direction" s_is_direction (He.fAd K dd16.at_) fd16 := fun_of rfl rfl rfl rfl rfl rfl D16
  have b16 := F16.binds (ps := ["value"]) fun _ _ _ _ _ _ us hl => match us, hl with | [_], _ => rfl
  obtain ⟨fd17, D17⟩ := c.def_ 17 (d := dd17) rfl
  have F17 : Fun K "require_table" "require_table" s_require_table (He.fAd K dd17.at_) fd17 := fun_of rfl rfl rfl rfl rfl rfl D17
  have b17 := F17.binds (ps := ["table"]) fun _ _ _ _ _ _ us hl => match us, hl with | [_], _ => rfl
  obtain ⟨fd18, D18⟩ := c.def_ 18 (d := dd18) rfl
  have F18 : Fun K "require_seat" "require_seat" s_require_seat (He.fAd K dd18.at_) fd18 := fun_of rfl rfl rfl rfl rfl rfl D18
  have b18 := F18.binds (ps := ["table", "seat"]) fun _ _ _ _ _ _ us hl => match us, hl with | [_, _], _ => rfl
  obtain ⟨fd19, D19⟩ := c.def_ 19 (d := dd19) rfl
  have F19 : Fun K "require_call" "require_call" s_require_call (He.fAd K dd19.at_) fd19 := fun_of rfl rfl rfl rfl rfl rfl D19
  have b19 := F19.binds (ps := ["table", "call"]) fun _ _ _ _ _ _ us hl => match us, hl with | [_, _], _ => rfl
  obtain ⟨fd20, D20⟩ := c.def_ 20 (d := dd20) rfl
  have F20 : Fun K "require_targets" "require_targets" s_require_targets (He.fAd K dd20.at_) fd20 := fun_of rfl rfl rfl rfl rfl rfl D20
  have b20 := F20.binds (ps := ["table", "targets"]) fun _ _ _ _ _ _ us hl => match us, hl with | [_, _], _ => rfl
  obtain ⟨fd21, D21⟩ := c.def_ 21 (d := dd21) rfl
  have F21 : Fun K "require_small" "require_small" s_require_small (He.fAd K dd21.at_) fd21 := fun_of rfl rfl rfl rfl rfl rfl D21
  have b21 := F21.binds (ps := ["table"]) fun _ _ _ _ _ _ us hl => match us, hl with | [_], _ => rfl
  obtain ⟨fd22, D22⟩ := c.def_ 22 (d := dd22) rfl
  have F22 : Fun K "all_seats" "all_seats" s_all_seats (He.fAd K dd22.at_) fd22 := fun_of rfl rfl rfl rfl rfl rfl D22
  have b22 := F22.binds (ps := ["table"]) fun _ _ _ _ _ _ us hl => match us, hl with | [_], _ => rfl
  obtain ⟨fd23, D23⟩ := c.def_ 23 (d := dd23) rfl
  have F23 : Fun K "mirror_seat" "mirror_seat" s_mirror_seat (He.fAd K dd23.at_) fd23 := fun_of rfl rfl rfl rfl rfl rfl D23
  have b23 := F23.binds (ps := ["table", "seat", "other"]) fun _ _ _ _ _ _ us hl => match us, hl with | [_, _, _], _ => rfl
  obtain ⟨fd24, D24⟩ := c.def_ 24 (d := dd24) rfl
  have F24 : Fun K "call_counts" "call_counts" s_call_counts (He.fAd K dd24.at_) fd24 := fun_of rfl rfl rfl rfl rfl rfl D24
  have b24 := F24.binds (ps := ["table", "targets"]) fun _ _ _ _ _ _ us hl => match us, hl with | [_, _], _ => rfl
  obtain ⟨fd25, D25⟩ := c.def_ 25 (d := dd25) rfl
  have F25 : Fun K "combined" "combined" s_combined (He.fAd K dd25.at_) fd25 := fun_of rfl rfl rfl rfl rfl rfl D25
  have b25 := F25.binds (ps := ["first", "second", "column"]) fun _ _ _ _ _ _ us hl => match us, hl with | [_, _, _], _ => rfl
  obtain ⟨fd26, D26⟩ := c.def_ 26 (d := dd26) rfl
  have F26 : Fun K "reduced" "reduced" s_reduced (He.fAd K dd26.at_) fd26 := fun_of rfl rfl rfl rfl rfl rfl D26
  have b26 := F26.binds (ps := ["row", "column", "odds"]) fun _ _ _ _ _ _ us hl => match us, hl with | [_, _, _], _ => rfl
  obtain ⟨fd27, D27⟩ := c.def_ 27 (d := dd27) rfl
  have F27 : Fun K "shift_basis" "shift_basis" s_shift_basis (He.fAd K dd27.at_) fd27 := fun_of rfl rfl rfl rfl rfl rfl D27
  have b27 := F27.binds (ps := ["sizes", "targets"]) fun _ _ _ _ _ _ us hl => match us, hl with | [_, _], _ => rfl
  obtain ⟨fd28, D28⟩ := c.def_ 28 (d := dd28) rfl
  have F28 : Fun K "diagonal_product" "diagonal_product" s_diagonal_product (He.fAd K dd28.at_) fd28 := fun_of rfl rfl rfl rfl rfl rfl D28
  have b28 := F28.binds (ps := ["basis"]) fun _ _ _ _ _ _ us hl => match us, hl with | [_], _ => rfl
  obtain ⟨fd29, D29⟩ := c.def_ 29 (d := dd29) rfl
  have F29 : Fun K "coordinates" "coordinates" s_coordinates (He.fAd K dd29.at_) fd29 := fun_of rfl rfl rfl rfl rfl rfl D29
  have b29 := F29.binds (ps := ["basis", "vector"]) fun _ _ _ _ _ _ us hl => match us, hl with | [_, _], _ => rfl
  obtain ⟨fd30, D30⟩ := c.def_ 30 (d := dd30) rfl
  have F30 : Fun K "is_free" "is_free" s_is_free (He.fAd K dd30.at_) fd30 := fun_of rfl rfl rfl rfl rfl rfl D30
  have b30 := F30.binds (ps := ["basis", "vector"]) fun _ _ _ _ _ _ us hl => match us, hl with | [_, _], _ => rfl
  obtain ⟨fd31, D31⟩ := c.def_ 31 (d := dd31) rfl
  have F31 : Fun K "separating_witness" "separating_witness" s_separating_witness (He.fAd K dd31.at_) fd31 := fun_of rfl rfl rfl rfl rfl rfl D31
  have b31 := F31.binds (ps := ["sizes", "targets", "basis", "difference"]) fun _ _ _ _ _ _ us hl => match us, hl with | [_, _, _, _], _ => rfl
  obtain ⟨fd32, D32⟩ := c.def_ 32 (d := dd32) rfl
  have F32 : Fun K "reach" "reach" s_reach (He.fAd K dd32.at_) fd32 := fun_of rfl rfl rfl rfl rfl rfl D32
  have b32 := F32.binds (ps := ["table", "targets", "seat"]) fun _ _ _ _ _ _ us hl => match us, hl with | [_, _, _], _ => rfl
  obtain ⟨fd33, D33⟩ := c.def_ 33 (d := dd33) rfl
  have F33 : Fun K "weighted" "weighted" s_weighted (He.fAd K dd33.at_) fd33 := fun_of rfl rfl rfl rfl rfl rfl D33
  have b33 := F33.binds (ps := ["modulus", "weights", "seat"]) fun _ _ _ _ _ _ us hl => match us, hl with | [_, _, _], _ => rfl
  obtain ⟨fd34, D34⟩ := c.def_ 34 (d := dd34) rfl
  have F34 : Fun K "is_witness" "is_witness" s_is_witness (He.fAd K dd34.at_) fd34 := fun_of rfl rfl rfl rfl rfl rfl D34
  have b34 := F34.binds (ps := ["table", "witness"]) fun _ _ _ _ _ _ us hl => match us, hl with | [_, _], _ => rfl
  obtain ⟨fd35, D35⟩ := c.def_ 35 (d := dd35) rfl
  have F35 : Fun K "is_move" "is_move" s_is_move (He.fAd K dd35.at_) fd35 := fun_of rfl rfl rfl rfl rfl rfl D35
  have b35 := F35.binds (ps := ["table", "value"]) fun _ _ _ _ _ _ us hl => match us, hl with | [_, _], _ => rfl
  obtain ⟨fd36, D36⟩ := c.def_ 36 (d := dd36) rfl
  have F36 : Fun K "require_moves" "require_moves" s_require_moves (He.fAd K dd36.at_) fd36 := fun_of rfl rfl rfl rfl rfl rfl D36
  have b36 := F36.binds (ps := ["table", "moves"]) fun _ _ _ _ _ _ us hl => match us, hl with | [_, _], _ => rfl
  obtain ⟨fd37, D37⟩ := c.def_ 37 (d := dd37) rfl
  have F37 : Fun K "visited_seats" "visited_seats" s_visited_seats (He.fAd K dd37.at_) fd37 := fun_of rfl rfl rfl rfl rfl rfl D37
  have b37 := F37.binds (ps := ["table", "seat", "moves"]) fun _ _ _ _ _ _ us hl => match us, hl with | [_, _, _], _ => rfl
  obtain ⟨fd38, D38⟩ := c.def_ 38 (d := dd38) rfl
  have F38 : Fun K "__init__" "Record.__init__" s_Record_init (He.fAd K dd38.at_) fd38 := fun_of rfl rfl rfl rfl rfl rfl D38
  have b38 := F38.binds (ps := ["self", "table", "targets", "seat", "moves"]) fun _ _ _ _ _ _ us hl => match us, hl with | [_, _, _, _, _], _ => rfl
  obtain ⟨fd39, D39⟩ := c.def_ 39 (d := dd39) rfl
  have F39 : Fun K "seats" "Record.seats" s_Record_seats (He.fAd K dd39.at_) fd39 := fun_of rfl rfl rfl rfl rfl rfl D39
  have b39 := F39.binds (ps := ["self"]) fun _ _ _ _ _ _ us hl => match us, hl with | [_], _ => rfl
  obtain ⟨fd40, D40⟩ := c.def_ 40 (d := dd40) rfl
  have F40 : Fun K "calls_to_target" "Record.calls_to_target" s_Record_calls_to_target (He.fAd K dd40.at_) fd40 := fun_of rfl rfl rfl rfl rfl rfl D40
  have b40 := F40.binds (ps := ["self"]) fun _ _ _ _ _ _ us hl => match us, hl with | [_], _ => rfl
  obtain ⟨fd41, D41⟩ := c.def_ 41 (d := dd41) rfl
  have F41 : Fun K "losses" "Record.losses" s_Record_losses (He.fAd K dd41.at_) fd41 := fun_of rfl rfl rfl rfl rfl rfl D41
  have b41 := F41.binds (ps := ["self"]) fun _ _ _ _ _ _ us hl => match us, hl with | [_], _ => rfl
  obtain ⟨fd42, D42⟩ := c.def_ 42 (d := dd42) rfl
  have F42 : Fun K "first_mistake" "Record.first_mistake" s_Record_first_mistake (He.fAd K dd42.at_) fd42 := fun_of rfl rfl rfl rfl rfl rfl D42
  have b42 := F42.binds (ps := ["self"]) fun _ _ _ _ _ _ us hl => match us, hl with | [_], _ => rfl
  obtain ⟨fd43, D43⟩ := c.def_ 43 (d := dd43) rfl
  have F43 : Fun K "common_exponent" "common_exponent" s_common_exponent (He.fAd K dd43.at_) fd43 := fun_of rfl rfl rfl rfl rfl rfl D43
  have b43 := F43.binds (ps := ["sizes"]) fun _ _ _ _ _ _ us hl => match us, hl with | [_], _ => rfl
  obtain ⟨fd44, D44⟩ := c.def_ 44 (d := dd44) rfl
  have F44 : Fun K "weight_rows" "weight_rows" s_weight_rows (He.fAd K dd44.at_) fd44 := fun_of rfl rfl rfl rfl rfl rfl D44
  have b44 := F44.binds (ps := ["sizes", "modulus"]) fun _ _ _ _ _ _ us hl => match us, hl with | [_, _], _ => rfl
  obtain ⟨fd45, D45⟩ := c.def_ 45 (d := dd45) rfl
  have F45 : Fun K "units_of" "units_of" s_units_of (He.fAd K dd45.at_) fd45 := fun_of rfl rfl rfl rfl rfl rfl D45
  have b45 := F45.binds (ps := ["modulus"]) fun _ _ _ _ _ _ us hl => match us, hl with | [_], _ => rfl
  obtain ⟨fd46, D46⟩ := c.def_ 46 (d := dd46) rfl
  have F46 : Fun K "is_canonical" "is_canonical" s_is_canonical (He.fAd K dd46.at_) fd46 := fun_of rfl rfl rfl rfl rfl rfl D46
  have b46 := F46.binds (ps := ["modulus", "units", "weights"]) fun _ _ _ _ _ _ us hl => match us, hl with | [_, _, _], _ => rfl
  obtain ⟨fd47, D47⟩ := c.def_ 47 (d := dd47) rfl
  have F47 : Fun K "explains" "explains" s_explains (He.fAd K dd47.at_) fd47 := fun_of rfl rfl rfl rfl rfl rfl D47
  have b47 := F47.binds (ps := ["table", "visited", "moves", "witness"]) fun _ _ _ _ _ _ us hl => match us, hl with | [_, _, _, _], _ => rfl
  obtain ⟨fd48, D48⟩ := c.def_ 48 (d := dd48) rfl
  have F48 : Fun K "consistent_witnesses" "consistent_witnesses" s_consistent_witnesses (He.fAd K dd48.at_) fd48 := fun_of rfl rfl rfl rfl rfl rfl D48
  have b48 := F48.binds (ps := ["table", "seat", "moves"]) fun _ _ _ _ _ _ us hl => match us, hl with | [_, _, _], _ => rfl
  obtain ⟨fd49, D49⟩ := c.def_ 49 (d := dd49) rfl
  have F49 : Fun K "has_residue" "has_residue" s_has_residue (He.fAd K dd49.at_) fd49 := fun_of rfl rfl rfl rfl rfl rfl D49
  have b49 := F49.binds (ps := ["witness", "seat"]) fun _ _ _ _ _ _ us hl => match us, hl with | [_, _], _ => rfl
  obtain ⟨fd50, D50⟩ := c.def_ 50 (d := dd50) rfl
  have F50 : Fun K "direction_off" "direction_off" s_direction_off (He.fAd K dd50.at_) fd50 := fun_of rfl rfl rfl rfl rfl rfl D50
  have b50 := F50.binds (ps := ["table", "witness", "seat", "call"]) fun _ _ _ _ _ _ us hl => match us, hl with | [_, _, _, _], _ => rfl
  obtain ⟨fd51, D51⟩ := c.def_ 51 (d := dd51) rfl
  have F51 : Fun K "is_layers" "is_layers" s_is_layers (He.fAd K dd51.at_) fd51 := fun_of rfl rfl rfl rfl rfl rfl D51
  have b51 := F51.binds (ps := ["strategy"]) fun _ _ _ _ _ _ us hl => match us, hl with | [_], _ => rfl
  obtain ⟨fd52, D52⟩ := c.def_ 52 (d := dd52) rfl
  have F52 : Fun K "copied" "copied" s_copied (He.fAd K dd52.at_) fd52 := fun_of rfl rfl rfl rfl rfl rfl D52
  have b52 := F52.binds (ps := ["strategy"]) fun _ _ _ _ _ _ us hl => match us, hl with | [_], _ => rfl
  obtain ⟨fd53, D53⟩ := c.def_ 53 (d := dd53) rfl
  have F53 : Fun K "depths_for" "depths_for" s_depths_for (He.fAd K dd53.at_) fd53 := fun_of rfl rfl rfl rfl rfl rfl D53
  have b53 := F53.binds (ps := ["table", "targets", "strategy"]) fun _ _ _ _ _ _ us hl => match us, hl with | [_, _, _], _ => rfl
  obtain ⟨fd54, D54⟩ := c.def_ 54 (d := dd54) rfl
  have F54 : Fun K "is_directions" "is_directions" s_is_directions (He.fAd K dd54.at_) fd54 := fun_of rfl rfl rfl rfl rfl rfl D54
  have b54 := F54.binds (ps := ["strategy"]) fun _ _ _ _ _ _ us hl => match us, hl with | [_], _ => rfl
  obtain ⟨fd55, D55⟩ := c.def_ 55 (d := dd55) rfl
  have F55 : Fun K "is_shared_witness" "is_shared_witness" s_is_shared_witness (He.fAd K dd55.at_) fd55 := fun_of rfl rfl rfl rfl rfl rfl D55
  have b55 := F55.binds (ps := ["table", "targets", "strategy"]) fun _ _ _ _ _ _ us hl => match us, hl with | [_, _, _], _ => rfl
  obtain ⟨fd56, D56⟩ := c.def_ 56 (d := dd56) rfl
  have F56 : Fun K "__init__" "Responder.__init__" s_Responder_init (He.fAd K dd56.at_) fd56 := fun_of rfl rfl rfl rfl rfl rfl D56
  have b56 := F56.binds (ps := ["self", "table", "targets", "strategy"]) fun _ _ _ _ _ _ us hl => match us, hl with | [_, _, _, _], _ => rfl
  obtain ⟨fd57, D57⟩ := c.def_ 57 (d := dd57) rfl
  have F57 : Fun K "is_unsafe" "Responder.is_unsafe" s_Responder_is_unsafe (He.fAd K dd57.at_) fd57 := fun_of rfl rfl rfl rfl rfl rfl D57
  have b57 := F57.binds (ps := ["self", "seat"]) fun _ _ _ _ _ _ us hl => match us, hl with | [_, _], _ => rfl
  obtain ⟨fd58, D58⟩ := c.def_ 58 (d := dd58) rfl
  have F58 : Fun K "direction_at" "Responder.direction_at" s_Responder_direction_at (He.fAd K dd58.at_) fd58 := fun_of rfl rfl rfl rfl rfl rfl D58
  have b58 := F58.binds (ps := ["self", "seat", "call", "index"]) fun _ _ _ _ _ _ us hl => match us, hl with | [_, _, _, _], _ => rfl
  obtain ⟨fd59, D59⟩ := c.def_ 59 (d := dd59) rfl
  have F59 : Fun K "answer" "Responder.answer" s_Responder_answer (He.fAd K dd59.at_) fd59 := fun_of rfl rfl rfl rfl rfl rfl D59
  have b59 := F59.binds (ps := ["self", "seat", "call"]) fun _ _ _ _ _ _ us hl => match us, hl with | [_, _, _], _ => rfl
  obtain ⟨fd60, D60⟩ := c.def_ 60 (d := dd60) rfl
  have F60 : Fun K "_law_mixed" "_law_mixed" s_law_mixed (He.fAd K dd60.at_) fd60 := fun_of rfl rfl rfl rfl rfl rfl D60
  have b60 := F60.binds (ps := ["_law_cell", "_law_k"]) fun _ _ _ _ _ _ us hl => match us, hl with | [_, _], _ => rfl
  obtain ⟨fd61, D61⟩ := c.def_ 61 (d := dd61) rfl
  have F61 : Fun K "_law_source" "_law_source" s_law_source (He.fAd K dd61.at_) fd61 := fun_of rfl rfl rfl rfl rfl rfl D61
  have b61 := F61.binds (ps := ["_law_cell"]) fun _ _ _ _ _ _ us hl => match us, hl with | [_], _ => rfl
  obtain ⟨fd62, D62⟩ := c.def_ 62 (d := dd62) rfl
  have F62 : Fun K "_law_take" "_law_take" s_law_take (He.fAd K dd62.at_) fd62 := fun_of rfl rfl rfl rfl rfl rfl D62
  have b62 := F62.binds (ps := ["_law_source_here", "_law_many"]) fun _ _ _ _ _ _ us hl => match us, hl with | [_, _], _ => rfl
  obtain ⟨fd63, D63⟩ := c.def_ 63 (d := dd63) rfl
  have F63 : Fun K "_law_one" "_law_one" s_law_one (He.fAd K dd63.at_) fd63 := fun_of rfl rfl rfl rfl rfl rfl D63
  have b63 := F63.binds (ps := ["_law_source_here", "_law_some"]) fun _ _ _ _ _ _ us hl => match us, hl with | [_, _], _ => rfl
  obtain ⟨fd64, D64⟩ := c.def_ 64 (d := dd64) rfl
  have F64 : Fun K "_law_rings" "_law_rings" s_law_rings (He.fAd K dd64.at_) fd64 := fun_of rfl rfl rfl rfl rfl rfl D64
  have b64 := F64.binds (ps := ["_law_source_here", "_law_limit"]) fun _ _ _ _ _ _ us hl => match us, hl with | [_, _], _ => rfl
  obtain ⟨fd65, D65⟩ := c.def_ 65 (d := dd65) rfl
  have F65 : Fun K "_law_seat" "_law_seat" s_law_seat (He.fAd K dd65.at_) fd65 := fun_of rfl rfl rfl rfl rfl rfl D65
  have b65 := F65.binds (ps := ["_law_source_here", "_law_rings_here"]) fun _ _ _ _ _ _ us hl => match us, hl with | [_, _], _ => rfl
  obtain ⟨fd66, D66⟩ := c.def_ 66 (d := dd66) rfl
  have F66 : Fun K "_law_seats" "_law_seats" s_law_seats (He.fAd K dd66.at_) fd66 := fun_of rfl rfl rfl rfl rfl rfl D66
  have b66 := F66.binds (ps := ["_law_source_here", "_law_rings_here", "_law_most"]) fun _ _ _ _ _ _ us hl => match us, hl with | [_, _, _], _ => rfl
  obtain ⟨fd67, D67⟩ := c.def_ 67 (d := dd67) rfl
  have F67 : Fun K "_law_call" "_law_call" s_law_call (He.fAd K dd67.at_) fd67 := fun_of rfl rfl rfl rfl rfl rfl D67
  have b67 := F67.binds (ps := ["_law_source_here", "_law_rings_here"]) fun _ _ _ _ _ _ us hl => match us, hl with | [_, _], _ => rfl
  obtain ⟨fd68, D68⟩ := c.def_ 68 (d := dd68) rfl
  have F68 : Fun K "_law_step" "_law_step" s_law_step (He.fAd K dd68.at_) fd68 := fun_of rfl rfl rfl rfl rfl rfl D68
  have b68 := F68.binds (ps := ["_law_rings_here", "_law_spot", "_law_delta", "_law_sign"]) fun _ _ _ _ _ _ us hl => match us, hl with | [_, _, _, _], _ => rfl
  obtain ⟨fd69, D69⟩ := c.def_ 69 (d := dd69) rfl
  have F69 : Fun K "_law_walk" "_law_walk" s_law_walk (He.fAd K dd69.at_) fd69 := fun_of rfl rfl rfl rfl rfl rfl D69
  have b69 := F69.binds (ps := ["_law_rings_here", "_law_start", "_law_played"]) fun _ _ _ _ _ _ us hl => match us, hl with | [_, _, _], _ => rfl
  obtain ⟨fd70, D70⟩ := c.def_ 70 (d := dd70) rfl
  have F70 : Fun K "_law_all" "_law_all" s_law_all (He.fAd K dd70.at_) fd70 := fun_of rfl rfl rfl rfl rfl rfl D70
  have b70 := F70.binds (ps := ["_law_rings_here"]) fun _ _ _ _ _ _ us hl => match us, hl with | [_], _ => rfl
  obtain ⟨fd71, D71⟩ := c.def_ 71 (d := dd71) rfl
  have F71 : Fun K "_law_value" "_law_value" s_law_value (He.fAd K dd71.at_) fd71 := fun_of rfl rfl rfl rfl rfl rfl D71
  have b71 := F71.binds (ps := ["_law_modulus", "_law_weights", "_law_spot"]) fun _ _ _ _ _ _ us hl => match us, hl with | [_, _, _], _ => rfl
  obtain ⟨fd72, D72⟩ := c.def_ 72 (d := dd72) rfl
  have F72 : Fun K "_law_divisor" "_law_divisor" s_law_divisor (He.fAd K dd72.at_) fd72 := fun_of rfl rfl rfl rfl rfl rfl D72
  have b72 := F72.binds (ps := ["_law_first", "_law_second"]) fun _ _ _ _ _ _ us hl => match us, hl with | [_, _], _ => rfl
  obtain ⟨fd73, D73⟩ := c.def_ 73 (d := dd73) rfl
  have F73 : Fun K "_law_canonical" "_law_canonical" s_law_canonical (He.fAd K dd73.at_) fd73 := fun_of rfl rfl rfl rfl rfl rfl D73
  have b73 := F73.binds (ps := ["_law_told"]) fun _ _ _ _ _ _ us hl => match us, hl with | [_], _ => rfl
  obtain ⟨fd74, D74⟩ := c.def_ 74 (d := dd74) rfl
  have F74 : Fun K "_law_right" "_law_right" s_law_right (He.fAd K dd74.at_) fd74 := fun_of rfl rfl rfl rfl rfl rfl D74
  have b74 := F74.binds (ps := ["_law_source_here", "_law_rings_here", "_law_goals", "_law_start", "_law_told"]) fun _ _ _ _ _ _ us hl => match us, hl with | [_, _, _, _, _], _ => rfl
  obtain ⟨fd75, D75⟩ := c.def_ 75 (d := dd75) rfl
  have F75 : Fun K "law" "law" s_law (He.fAd K dd75.at_) fd75 := fun_of rfl rfl rfl rfl rfl rfl D75
  have b75 := F75.binds (ps := ["_law_script"]) fun _ _ _ _ _ _ us hl => match us, hl with | [_], _ => rfl
  obtain ⟨t_MAX_RINGS, e_MAX_RINGS⟩ := He.int_ok X G (c.fact 92 (f := .int "MAX_RINGS" 4) rfl)
  obtain ⟨t_SMALL, e_SMALL⟩ := He.int_ok X G (c.fact 93 (f := .int "SMALL" 300) rfl)
  obtain ⟨t_LAYERS, e_LAYERS⟩ := He.str_ok X G (c.fact 94 (f := .str "LAYERS" "layers") rfl)
  refine ⟨{
    f_wall := He.fAd K dd0.at_, fd_wall := fd0, F_wall := F0, b_wall := b0, m_wall := He.glo_ok X G (c.fact 0 (f := .glo "_wall") rfl),
    f_is_integer := He.fAd K dd1.at_, fd_is_integer := fd1, F_is_integer := F1, b_is_integer := b1, m_is_integer := He.glo_ok X G (c.fact 1 (f := .glo "is_integer") rfl),
    f_is_at_least := He.fAd K dd2.at_, fd_is_at_least := fd2, F_is_at_least := F2, b_is_at_least := b2, m_is_at_least := He.glo_ok X G (c.fact 2 (f := .glo "is_at_least") rfl),
    f_is_between := He.fAd K dd3.at_, fd_is_between := fd3, F_is_between := F3, b_is_between := b3, m_is_between := He.glo_ok X G (c.fact 3 (f := .glo "is_between") rfl),
    f_greatest_common_divisor := He.fAd K dd4.at_, fd_greatest_common_divisor := fd4, F_greatest_common_divisor := F4, b_greatest_common_divisor := b4, m_greatest_common_divisor := He.glo_ok X G (c.fact 4 (f := .glo "greatest_common_divisor") rfl),
    f_odd_part := He.fAd K dd5.at_, fd_odd_part := fd5, F_odd_part := F5, b_odd_part := b5, m_odd_part := He.glo_ok X G (c.fact 5 (f := .glo "odd_part") rfl),
    f_Table_init := He.fAd K dd6.at_, fd_Table_init := fd6, F_Table_init := F6, b_Table_init := b6,
    f_Table_sizes := He.fAd K dd7.at_, fd_Table_sizes := fd7, F_Table_sizes := F7, b_Table_sizes := b7,
    f_Table_count := He.fAd K dd8.at_, fd_Table_count := fd8, F_Table_count := F8, b_Table_count := b8,
    f_Table_is_seat := He.fAd K dd9.at_, fd_Table_is_seat := fd9, F_Table_is_seat := F9, b_Table_is_seat := b9,
    f_Table_is_call := He.fAd K dd10.at_, fd_Table_is_call := fd10, F_Table_is_call := F10, b_Table_is_call := b10,
    f_Table_shifted := He.fAd K dd11.at_, fd_Table_shifted := fd11, F_Table_shifted := F11, b_Table_shifted := b11,
    f_Table_moves := He.fAd K dd12.at_, fd_Table_moves := fd12, F_Table_moves := F12, b_Table_moves := b12,
    f_Table_step := He.fAd K dd13.at_, fd_Table_step := fd13, F_Table_step := F13, b_Table_step := b13,
    f_Table_order := He.fAd K dd14.at_, fd_Table_order := fd14, F_Table_order := F14, b_Table_order := b14,
    f_Table_halves := He.fAd K dd15.at_, fd_Table_halves := fd15, F_Table_halves := F15, b_Table_halves := b15,
    f_is_direction := He.fAd K dd16.at_, fd_is_direction := fd16, F_is_direction := F16, b_is_direction := b16, m_is_direction := He.glo_ok X G (c.fact 6 (f := .glo "is_direction") rfl),
    f_require_table := He.fAd K dd17.at_, fd_require_table := fd17, F_require_table := F17, b_require_table := b17, m_require_table := He.glo_ok X G (c.fact 7 (f := .glo "require_table") rfl),
    f_require_seat := He.fAd K dd18.at_, fd_require_seat := fd18, F_require_seat := F18, b_require_seat := b18, m_require_seat := He.glo_ok X G (c.fact 8 (f := .glo "require_seat") rfl),
    f_require_call := He.fAd K dd19.at_, fd_require_call := fd19, F_require_call := F19, b_require_call := b19, m_require_call := He.glo_ok X G (c.fact 9 (f := .glo "require_call") rfl),
    f_require_targets := He.fAd K dd20.at_, fd_require_targets := fd20, F_require_targets := F20, b_require_targets := b20, m_require_targets := He.glo_ok X G (c.fact 10 (f := .glo "require_targets") rfl),
    f_require_small := He.fAd K dd21.at_, fd_require_small := fd21, F_require_small := F21, b_require_small := b21, m_require_small := He.glo_ok X G (c.fact 11 (f := .glo "require_small") rfl),
    f_all_seats := He.fAd K dd22.at_, fd_all_seats := fd22, F_all_seats := F22, b_all_seats := b22, m_all_seats := He.glo_ok X G (c.fact 12 (f := .glo "all_seats") rfl),
    f_mirror_seat := He.fAd K dd23.at_, fd_mirror_seat := fd23, F_mirror_seat := F23, b_mirror_seat := b23, m_mirror_seat := He.glo_ok X G (c.fact 13 (f := .glo "mirror_seat") rfl),
    f_call_counts := He.fAd K dd24.at_, fd_call_counts := fd24, F_call_counts := F24, b_call_counts := b24, m_call_counts := He.glo_ok X G (c.fact 14 (f := .glo "call_counts") rfl),
    f_combined := He.fAd K dd25.at_, fd_combined := fd25, F_combined := F25, b_combined := b25, m_combined := He.glo_ok X G (c.fact 15 (f := .glo "combined") rfl),
    f_reduced := He.fAd K dd26.at_, fd_reduced := fd26, F_reduced := F26, b_reduced := b26, m_reduced := He.glo_ok X G (c.fact 16 (f := .glo "reduced") rfl),
    f_shift_basis := He.fAd K dd27.at_, fd_shift_basis := fd27, F_shift_basis := F27, b_shift_basis := b27, m_shift_basis := He.glo_ok X G (c.fact 17 (f := .glo "shift_basis") rfl),
    f_diagonal_product := He.fAd K dd28.at_, fd_diagonal_product := fd28, F_diagonal_product := F28, b_diagonal_product := b28, m_diagonal_product := He.glo_ok X G (c.fact 18 (f := .glo "diagonal_product") rfl),
    f_coordinates := He.fAd K dd29.at_, fd_coordinates := fd29, F_coordinates := F29, b_coordinates := b29, m_coordinates := He.glo_ok X G (c.fact 19 (f := .glo "coordinates") rfl),
    f_is_free := He.fAd K dd30.at_, fd_is_free := fd30, F_is_free := F30, b_is_free := b30, m_is_free := He.glo_ok X G (c.fact 20 (f := .glo "is_free") rfl),
    f_separating_witness := He.fAd K dd31.at_, fd_separating_witness := fd31, F_separating_witness := F31, b_separating_witness := b31, m_separating_witness := He.glo_ok X G (c.fact 21 (f := .glo "separating_witness") rfl),
    f_reach := He.fAd K dd32.at_, fd_reach := fd32, F_reach := F32, b_reach := b32, m_reach := He.glo_ok X G (c.fact 22 (f := .glo "reach") rfl),
    f_weighted := He.fAd K dd33.at_, fd_weighted := fd33, F_weighted := F33, b_weighted := b33, m_weighted := He.glo_ok X G (c.fact 23 (f := .glo "weighted") rfl),
    f_is_witness := He.fAd K dd34.at_, fd_is_witness := fd34, F_is_witness := F34, b_is_witness := b34, m_is_witness := He.glo_ok X G (c.fact 24 (f := .glo "is_witness") rfl),
    f_is_move := He.fAd K dd35.at_, fd_is_move := fd35, F_is_move := F35, b_is_move := b35, m_is_move := He.glo_ok X G (c.fact 25 (f := .glo "is_move") rfl),
    f_require_moves := He.fAd K dd36.at_, fd_require_moves := fd36, F_require_moves := F36, b_require_moves := b36, m_require_moves := He.glo_ok X G (c.fact 26 (f := .glo "require_moves") rfl),
    f_visited_seats := He.fAd K dd37.at_, fd_visited_seats := fd37, F_visited_seats := F37, b_visited_seats := b37, m_visited_seats := He.glo_ok X G (c.fact 27 (f := .glo "visited_seats") rfl),
    f_Record_init := He.fAd K dd38.at_, fd_Record_init := fd38, F_Record_init := F38, b_Record_init := b38,
    f_Record_seats := He.fAd K dd39.at_, fd_Record_seats := fd39, F_Record_seats := F39, b_Record_seats := b39,
    f_Record_calls_to_target := He.fAd K dd40.at_, fd_Record_calls_to_target := fd40, F_Record_calls_to_target := F40, b_Record_calls_to_target := b40,
    f_Record_losses := He.fAd K dd41.at_, fd_Record_losses := fd41, F_Record_losses := F41, b_Record_losses := b41,
    f_Record_first_mistake := He.fAd K dd42.at_, fd_Record_first_mistake := fd42, F_Record_first_mistake := F42, b_Record_first_mistake := b42,
    f_common_exponent := He.fAd K dd43.at_, fd_common_exponent := fd43, F_common_exponent := F43, b_common_exponent := b43, m_common_exponent := He.glo_ok X G (c.fact 28 (f := .glo "common_exponent") rfl),
    f_weight_rows := He.fAd K dd44.at_, fd_weight_rows := fd44, F_weight_rows := F44, b_weight_rows := b44, m_weight_rows := He.glo_ok X G (c.fact 29 (f := .glo "weight_rows") rfl),
    f_units_of := He.fAd K dd45.at_, fd_units_of := fd45, F_units_of := F45, b_units_of := b45, m_units_of := He.glo_ok X G (c.fact 30 (f := .glo "units_of") rfl),
    f_is_canonical := He.fAd K dd46.at_, fd_is_canonical := fd46, F_is_canonical := F46, b_is_canonical := b46, m_is_canonical := He.glo_ok X G (c.fact 31 (f := .glo "is_canonical") rfl),
    f_explains := He.fAd K dd47.at_, fd_explains := fd47, F_explains := F47, b_explains := b47, m_explains := He.glo_ok X G (c.fact 32 (f := .glo "explains") rfl),
    f_consistent_witnesses := He.fAd K dd48.at_, fd_consistent_witnesses := fd48, F_consistent_witnesses := F48, b_consistent_witnesses := b48, m_consistent_witnesses := He.glo_ok X G (c.fact 33 (f := .glo "consistent_witnesses") rfl),
    f_has_residue := He.fAd K dd49.at_, fd_has_residue := fd49, F_has_residue := F49, b_has_residue := b49, m_has_residue := He.glo_ok X G (c.fact 34 (f := .glo "has_residue") rfl),
    f_direction_off := He.fAd K dd50.at_, fd_direction_off := fd50, F_direction_off := F50, b_direction_off := b50, m_direction_off := He.glo_ok X G (c.fact 35 (f := .glo "direction_off") rfl),
    f_is_layers := He.fAd K dd51.at_, fd_is_layers := fd51, F_is_layers := F51, b_is_layers := b51, m_is_layers := He.glo_ok X G (c.fact 36 (f := .glo "is_layers") rfl),
    f_copied := He.fAd K dd52.at_, fd_copied := fd52, F_copied := F52, b_copied := b52, m_copied := He.glo_ok X G (c.fact 37 (f := .glo "copied") rfl),
    f_depths_for := He.fAd K dd53.at_, fd_depths_for := fd53, F_depths_for := F53, b_depths_for := b53, m_depths_for := He.glo_ok X G (c.fact 38 (f := .glo "depths_for") rfl),
    f_is_directions := He.fAd K dd54.at_, fd_is_directions := fd54, F_is_directions := F54, b_is_directions := b54, m_is_directions := He.glo_ok X G (c.fact 39 (f := .glo "is_directions") rfl),
    f_is_shared_witness := He.fAd K dd55.at_, fd_is_shared_witness := fd55, F_is_shared_witness := F55, b_is_shared_witness := b55, m_is_shared_witness := He.glo_ok X G (c.fact 40 (f := .glo "is_shared_witness") rfl),
    f_Responder_init := He.fAd K dd56.at_, fd_Responder_init := fd56, F_Responder_init := F56, b_Responder_init := b56,
    f_Responder_is_unsafe := He.fAd K dd57.at_, fd_Responder_is_unsafe := fd57, F_Responder_is_unsafe := F57, b_Responder_is_unsafe := b57,
    f_Responder_direction_at := He.fAd K dd58.at_, fd_Responder_direction_at := fd58, F_Responder_direction_at := F58, b_Responder_direction_at := b58,
    f_Responder_answer := He.fAd K dd59.at_, fd_Responder_answer := fd59, F_Responder_answer := F59, b_Responder_answer := b59,
    f_law_mixed := He.fAd K dd60.at_, fd_law_mixed := fd60, F_law_mixed := F60, b_law_mixed := b60, m_law_mixed := He.glo_ok X G (c.fact 41 (f := .glo "_law_mixed") rfl),
    f_law_source := He.fAd K dd61.at_, fd_law_source := fd61, F_law_source := F61, b_law_source := b61, m_law_source := He.glo_ok X G (c.fact 42 (f := .glo "_law_source") rfl),
    f_law_take := He.fAd K dd62.at_, fd_law_take := fd62, F_law_take := F62, b_law_take := b62, m_law_take := He.glo_ok X G (c.fact 43 (f := .glo "_law_take") rfl),
    f_law_one := He.fAd K dd63.at_, fd_law_one := fd63, F_law_one := F63, b_law_one := b63, m_law_one := He.glo_ok X G (c.fact 44 (f := .glo "_law_one") rfl),
    f_law_rings := He.fAd K dd64.at_, fd_law_rings := fd64, F_law_rings := F64, b_law_rings := b64, m_law_rings := He.glo_ok X G (c.fact 45 (f := .glo "_law_rings") rfl),
    f_law_seat := He.fAd K dd65.at_, fd_law_seat := fd65, F_law_seat := F65, b_law_seat := b65, m_law_seat := He.glo_ok X G (c.fact 46 (f := .glo "_law_seat") rfl),
    f_law_seats := He.fAd K dd66.at_, fd_law_seats := fd66, F_law_seats := F66, b_law_seats := b66, m_law_seats := He.glo_ok X G (c.fact 47 (f := .glo "_law_seats") rfl),
    f_law_call := He.fAd K dd67.at_, fd_law_call := fd67, F_law_call := F67, b_law_call := b67, m_law_call := He.glo_ok X G (c.fact 48 (f := .glo "_law_call") rfl),
    f_law_step := He.fAd K dd68.at_, fd_law_step := fd68, F_law_step := F68, b_law_step := b68, m_law_step := He.glo_ok X G (c.fact 49 (f := .glo "_law_step") rfl),
    f_law_walk := He.fAd K dd69.at_, fd_law_walk := fd69, F_law_walk := F69, b_law_walk := b69, m_law_walk := He.glo_ok X G (c.fact 50 (f := .glo "_law_walk") rfl),
    f_law_all := He.fAd K dd70.at_, fd_law_all := fd70, F_law_all := F70, b_law_all := b70, m_law_all := He.glo_ok X G (c.fact 51 (f := .glo "_law_all") rfl),
    f_law_value := He.fAd K dd71.at_, fd_law_value := fd71, F_law_value := F71, b_law_value := b71, m_law_value := He.glo_ok X G (c.fact 52 (f := .glo "_law_value") rfl),
    f_law_divisor := He.fAd K dd72.at_, fd_law_divisor := fd72, F_law_divisor := F72, b_law_divisor := b72, m_law_divisor := He.glo_ok X G (c.fact 53 (f := .glo "_law_divisor") rfl),
    f_law_canonical := He.fAd K dd73.at_, fd_law_canonical := fd73, F_law_canonical := F73, b_law_canonical := b73, m_law_canonical := He.glo_ok X G (c.fact 54 (f := .glo "_law_canonical") rfl),
    f_law_right := He.fAd K dd74.at_, fd_law_right := fd74, F_law_right := F74, b_law_right := b74, m_law_right := He.glo_ok X G (c.fact 55 (f := .glo "_law_right") rfl),
    f_law := He.fAd K dd75.at_, fd_law := fd75, F_law := F75, b_law := b75, m_law := He.glo_ok X G (c.fact 56 (f := .glo "law") rfl),
    C_Table := He.ga K "Table", cl_Table := He.cls_ok (c.fact 58 (f := .cls "Table") rfl), m_Table := He.glo_ok X G (c.fact 57 (f := .glo "Table") rfl),
    M_Table := He.mkr_ok (c.fact 59 (f := .mkr "Table") rfl),
    me_Table_sizes := He.meth_ok (c.fact 60 (f := .meth "Table" "sizes") rfl),
    me_Table_count := He.meth_ok (c.fact 61 (f := .meth "Table" "count") rfl),
    me_Table_is_seat := He.meth_ok (c.fact 62 (f := .meth "Table" "is_seat") rfl),
    me_Table_is_call := He.meth_ok (c.fact 63 (f := .meth "Table" "is_call") rfl),
    me_Table_shifted := He.meth_ok (c.fact 64 (f := .meth "Table" "shifted") rfl),
    me_Table_moves := He.meth_ok (c.fact 65 (f := .meth "Table" "moves") rfl),
    me_Table_step := He.meth_ok (c.fact 66 (f := .meth "Table" "step") rfl),
    me_Table_order := He.meth_ok (c.fact 67 (f := .meth "Table" "order") rfl),
    me_Table_halves := He.meth_ok (c.fact 68 (f := .meth "Table" "halves") rfl),
    n_Table_rings := He.noat_ok (c.fact 69 (f := .noat "Table" "rings") rfl),
    C_Record := He.ga K "Record", cl_Record := He.cls_ok (c.fact 71 (f := .cls "Record") rfl), m_Record := He.glo_ok X G (c.fact 70 (f := .glo "Record") rfl),
    M_Record := He.mkr_ok (c.fact 72 (f := .mkr "Record") rfl),
    me_Record_seats := He.meth_ok (c.fact 73 (f := .meth "Record" "seats") rfl),
    me_Record_calls_to_target := He.meth_ok (c.fact 74 (f := .meth "Record" "calls_to_target") rfl),
    me_Record_losses := He.meth_ok (c.fact 75 (f := .meth "Record" "losses") rfl),
    me_Record_first_mistake := He.meth_ok (c.fact 76 (f := .meth "Record" "first_mistake") rfl),
    n_Record_visited := He.noat_ok (c.fact 77 (f := .noat "Record" "visited") rfl),
    n_Record_table := He.noat_ok (c.fact 78 (f := .noat "Record" "table") rfl),
    n_Record_goals := He.noat_ok (c.fact 79 (f := .noat "Record" "goals") rfl),
    n_Record_played := He.noat_ok (c.fact 80 (f := .noat "Record" "played") rfl),
    C_Responder := He.ga K "Responder", cl_Responder := He.cls_ok (c.fact 82 (f := .cls "Responder") rfl), m_Responder := He.glo_ok X G (c.fact 81 (f := .glo "Responder") rfl),
    M_Responder := He.mkr_ok (c.fact 83 (f := .mkr "Responder") rfl),
    me_Responder_is_unsafe := He.meth_ok (c.fact 84 (f := .meth "Responder" "is_unsafe") rfl),
    me_Responder_direction_at := He.meth_ok (c.fact 85 (f := .meth "Responder" "direction_at") rfl),
    me_Responder_answer := He.meth_ok (c.fact 86 (f := .meth "Responder" "answer") rfl),
    n_Responder_depths := He.noat_ok (c.fact 87 (f := .noat "Responder" "depths") rfl),
    n_Responder_table := He.noat_ok (c.fact 88 (f := .noat "Responder" "table") rfl),
    n_Responder_goals := He.noat_ok (c.fact 89 (f := .noat "Responder" "goals") rfl),
    n_Responder_strategy := He.noat_ok (c.fact 90 (f := .noat "Responder" "strategy") rfl),
    n_Responder_used := He.noat_ok (c.fact 91 (f := .noat "Responder" "used") rfl),
    ic_Table := He.eqO_ok ic_Table,
    im_Table := of_decide_eq_true im_Table,
    ig_ := He.eqO_ok ig_,
    it_ := of_decide_eq_true it_,
    t_MAX_RINGS := t_MAX_RINGS, c_MAX_RINGS := e_MAX_RINGS,
    t_SMALL := t_SMALL, c_SMALL := e_SMALL,
    t_LAYERS := t_LAYERS, c_LAYERS := e_LAYERS,
    z_abs := He.free_ok X G (c.fact 95 (f := .free "abs") rfl),
    z_all := He.free_ok X G (c.fact 96 (f := .free "all") rfl),
    z_any := He.free_ok X G (c.fact 97 (f := .free "any") rfl),
    z_bool := He.free_ok X G (c.fact 98 (f := .free "bool") rfl),
    z_enumerate := He.free_ok X G (c.fact 99 (f := .free "enumerate") rfl),
    z_int := He.free_ok X G (c.fact 100 (f := .free "int") rfl),
    z_isinstance := He.free_ok X G (c.fact 101 (f := .free "isinstance") rfl),
    z_len := He.free_ok X G (c.fact 102 (f := .free "len") rfl),
    z_list := He.free_ok X G (c.fact 103 (f := .free "list") rfl),
    z_max := He.free_ok X G (c.fact 104 (f := .free "max") rfl),
    z_min := He.free_ok X G (c.fact 105 (f := .free "min") rfl),
    z_range := He.free_ok X G (c.fact 106 (f := .free "range") rfl),
    z_str := He.free_ok X G (c.fact 107 (f := .free "str") rfl),
    z_sum := He.free_ok X G (c.fact 108 (f := .free "sum") rfl),
    z_tuple := He.free_ok X G (c.fact 109 (f := .free "tuple") rfl),
    z_zip := He.free_ok X G (c.fact 110 (f := .free "zip") rfl)
  }, He.glo_ok X G (c.fact 56 (f := .glo "law") rfl), fun s v => ?_⟩
  obtain ⟨oc, od, kV, doc, pm, an, cdv, ct, osl, h1, h2, h3⟩ := F75.ex
  show BindsTo s fd75 _ _
  rw [h1]
  exact .of_eq rfl
end CS
open PySem PySem.W PySem.Calls PyProof.Rows in
set_option maxRecDepth 100000 in
set_option maxHeartbeats 0 in
theorem PySem.Challenge.cw_calledseats_k46_whole_responders_with_wi_holds : PySem.Challenge.rw_calledseats_k46_whole_responders_with_wi.Holds := by
  w_on; o_law
  refine HandSHeadRun.head_any (r := OpenLaw.row PySem.Challenge.rw_calledseats_k46_whole_responders_with_wi) (q := view (OpenLaw.row PySem.Challenge.rw_calledseats_k46_whole_responders_with_wi).prog [79]) (H := CS.hk) (ob := CS.ob) (M := 30000) (loose := CS.loose) (d := HandSHeadRun.topDef (OpenLaw.row PySem.Challenge.rw_calledseats_k46_whole_responders_with_wi).prog 79) (kwd := []) CS.ob_eq
    (by kernel_rfl) (fun s => by kernel_rfl) CS.runTop (by kernel_rfl) (by kernel_rfl) (by kernel_rfl) (by rfl) (by first | assumption | decide +kernel) (by decide +kernel) ⟨rfl, rfl, rfl, rfl, rfl, by decide +kernel⟩ ?hw ?hc
  case hw => w_witness2
  case hc =>
    refine L2.walk_ofE (l := PySem.Challenge.rw_calledseats_k46_whole_responders_with_wi) (n := 63) (k := 11) (x := "_law_script") (CX := L2.CX0) rfl (by decide) (by kernel_rfl) ⟨rfl, by decide, by decide⟩ ?F (fun _ _ _ _ z => z)
    intro w mg fa h Y G hmg0
    obtain ⟨K, KX, c⟩ := Y
    have hmg : mg ("law" : PySem.Str) = some (.ref fa) := by
      have e : (HandSHeadRun.topDef (OpenLaw.row PySem.Challenge.rw_calledseats_k46_whole_responders_with_wi).prog 79).name = ("law" : PySem.Str) := by kernel_rfl
      rw [← e]
      exact hmg0
    obtain ⟨T, e1, e2⟩ := CS.tx_of KX G c
    have e := hmg.symm.trans e1
    cases e
    exact ⟨K, T.fd_law, CS.sp_law K, KX, e2, fun H a ns hl _ hS => ⟨a, ns, rfl, hS, hl, fun _ => rfl⟩, fun base _ _ => CS.ok_law T⟩
