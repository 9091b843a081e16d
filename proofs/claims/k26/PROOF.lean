import PyProof.Rows.All
import Wide.All
import OpenK.AllK
import Wide.FinOn
import HandS.ForMost
import HandS.Zip
import HandS.TupAny
import HandS.TupMul
import HandS.Deep
import HandS.Style
import HandS.SetFor
import HandS.Strs
import HandS.Walk
import HandS.IsInst
import HandS.Conv
import HandS.Wide
import HandS.WideBits
import HandS.Evl
import HandS.MakeKwOnly
import KE.GoesMore
import KE.GoesEnumKw
import KE.KBits
import KE.SortData
import HandS.TupSets
import HandS.DictComp
import HandS.DictTup
import HandS.TupLen
import KE.KDictCopyH
import KE.KDictWalk
import KE.KDictKeyed
import PyProof.WalkInts
import PyProof.SeqI3
import HandS.TryOnly
import KE.KStateDown
import HandS.Head0
import HandS.Head1
import HandS.Head2
import HandS.More
import HandS.Defaults
import HandS.HeadEnd
import HandS.HeadHook1
import HandS.HeadHook2
import PySem.Challenge.RW_calledseats_k26_whole_layers_as_targets
set_option Elab.async false
set_option linter.all false
set_option maxRecDepth 100000
set_option maxHeartbeats 4000000


namespace CZ
open PySem PySem.Spec PyProof.Rows L2
open PySem.Sem (wp)
/-- one draw of a zip: strict or not -/
def zdraw (b : Bool) (it : Value) : Sem (Option Value) := if b = true then Builtin.SmallTypes.nextOrEnd it else (Builtin.SmallTypes.nextOf it >>= fun x => pure (some x))
/-- a zip object: f0 what it has handed out, b its strictness -/
abbrev ZipO (h : Heap) (z TI TO : Addr) (f0 : Value) (b : Bool) : Prop := h.get? z = some { cls := .type "zip", data := .fields #[f0, .bool false, .bool b, .ref TI, .ref TO] }
abbrev TupO (h : Heap) (T : Addr) (vs : Array Value) : Prop := h.get? T = some { cls := .type "tuple", data := .seq vs }
theorem val_b (b : Bool) : (Value.bool b == Value.bool true) = b := by cases b <;> rfl
section
variable {prog : Program} {w : World} {A : Around} {E : Value → Shared → Prop} {s : Shared} {b : Bool}
theorem zdraw_item {it : Addr} {fp : List Addr} {n i : Nat} {P : Nat → Value → Prop} {St : Nat → Heap → Prop} {Q : Option Value → Shared → Prop} (D : Draws prog w A it fp n P St) (hi : i < n) (st : St i s.heap)
    (hQ : ∀ x h' tk, P i x → St (i + 1) h' → Heap.SameBut it s.heap h' → Q (some x) { s with heap := h', toks := tk }) : wpAny (model prog w) A (zdraw b (.ref it)) Q E s := by
  cases b with
  | false => exact wpAny_bind (m := Builtin.SmallTypes.nextOf (.ref it)) (D.item i s _ _ hi st fun x h' tk p st' sb => wpAny_pure (hQ x h' tk p st' sb))
  | true =>
    show wpAny _ _ (Builtin.SmallTypes.nextOrEnd (.ref it)) _ _ _
    unfold Builtin.SmallTypes.nextOrEnd
    exact wpAny_bind (wpAny_attempt (D.item i s _ _ hi st fun x h' tk p st' sb => wpAny_pure (hQ x h' tk p st' sb)))
theorem zend_strict {it : Addr} {fp : List Addr} {n : Nat} {P : Nat → Value → Prop} {St : Nat → Heap → Prop} {Q : Option Value → Shared → Prop} (D : Draws prog w A it fp n P St) (st : St n s.heap)
    (hQ : ∀ h', Heap.ExtBut it s.heap h' → Q none { s with heap := h' }) : wpAny (model prog w) A (Builtin.SmallTypes.nextOrEnd (.ref it)) Q E s := by
  unfold Builtin.SmallTypes.nextOrEnd
  refine wpAny_bind (wpAny_attempt (D.done s _ _ st fun h' e eb he => ?_))
  obtain ⟨o, ho, hc⟩ := he
  exact wpAny_bind (wpAny_isInstance (T := "StopIteration") (b := true) ⟨o, ho, hc⟩ isSubtype_stop (wpAny_pure (hQ h' eb)))
theorem upd_tup {T : Addr} {vs : Array Value} {x : Value} {k : Nat} {Q : Unit → Shared → Prop} (hT : TupO s.heap T vs) (hz : vs.size ≤ 8)
    (h : ∀ h', TupO h' T (vs.setIfInBounds k x) → Heap.SameBut T s.heap h' → Q () { s with heap := h' }) : wpAny (model prog w) A (updateSeq T (·.setIfInBounds k x)) Q E s := by
  have z8 : (8 : Nat) ≤ sizeLine := by decide
  refine wpAny_updateSeq hT rfl (h _ ?_ (Heap.SameBut.update ..)) (Nat.le_trans hz z8) (by rw [Array.size_setIfInBounds]; exact Nat.le_succ_of_le (Nat.le_trans hz z8))
  unfold TupO
  rw [Heap.get?_update_self _ hT rfl]
  simp [Obj.mapSeq]
theorem iter_zip {z TI TO : Addr} {f0 : Value} {Q : Value → Shared → Prop} (hz : ZipO s.heap z TI TO f0 b) (h : Q (.ref z) s) : wpAny (model prog w) A (pyIter (.ref z)) Q E s := by
  have hT : s.TypeIs (.ref z) "zip" := ⟨_, hz, rfl⟩
  exact wpAny_pyIter_slot hT F.slot_zip_iter (wpAny_call_entry F.slot_zip_iter hT F.entry_zip_iter (wpAny_pure ⟨_, rfl, "zip", _, hT, F.slot_zip_next.lookup, h⟩) (F.args_zip_iter_1 _))
/-- the tuple that was handed out is let go -/
theorem go_zip {elts : List Expr} {x1} {pos : Pos} {z TI TO T : Addr} {Q : Unit → Shared → Prop} (hz : ZipO s.heap z TI TO (rawInt T) b)
    (hQ : ∀ h', ZipO h' z TI TO .none b → Heap.SameBut z s.heap h' → Q () { s with heap := h' }) : wpAny (model prog w) A (letOwnedTupleGo (.Tuple elts x1 pos) (.ref z) (.ref T)) Q E s := by
  unfold letOwnedTupleGo
  refine wpAny_bind (wpAny_load hz ?_)
  show wpAny _ _ (ite _ _ _) Q E s
  rw [if_pos (by simp)]
  exact wpAny_bind (wpAny_rule (wpAny_setField_rec hz (by simp) fun h' hz' hs' => hQ h' hz' hs'))
/-- the StopIteration that a zip ends by -/
theorem stop_it {Q : Fin → Shared → Prop} (hh : A.handled = none) (hE : ∀ h' e, (∀ c o, s.heap.get? c = some o → h'.get? c = some o) → (∃ o, h'.get? e = some o ∧ o.cls = .type "StopIteration") → E (.ref e) { s with heap := h' }) :
    wpAny (model prog w) A (PySem.Builtin.SmallTypes.stopIteration : Sem Fin) Q E s := by
  unfold PySem.Builtin.SmallTypes.stopIteration
  show wpAny _ _ (newExc (.type "StopIteration") [] >>= _) _ _ _
  refine wpAny_bind ?_
  simp only [newExc, newTuple]
  refine wpAny_bind (wpAny_newObj_type ?_ (by size_fits))
  refine wpAny_bind (m := firstArgMember _ _) (wpAny_of_eq (a := Value.none) (by first | rfl | (simp only [firstArgMember]; rfl)) ?_)
  refine wpAny_newObj_type ?_ (by size_fits)
  simp only [raiseNew]
  refine wpAny_bind (wpAny_handled ?_)
  rw [hh]
  exact wpAny_bind (wpAny_pure (wpAny_throw (hE _ _ (fun c o e => Heap.get?_push_of_some _ (Heap.get?_push_of_some _ e)) ⟨_, Heap.get?_push_size _ rfl, rfl⟩)))
end
end CZ

namespace CZ
open PySem PySem.Spec PyProof.Rows L2
open PySem.Sem (wp)
/-- the cells of a zip over 2 iterators lie apart -/
structure Sep2 (z TI TO i1 i2 : Addr) (fp1 fp2 : List Addr) : Prop where
  zTO : z ≠ TO
  zTI : z ≠ TI
  TOTI : TO ≠ TI
  m1 : i1 ∈ fp1
  z1 : z ∉ fp1
  T1 : TO ∉ fp1
  I1 : TI ≠ i1
  s2_1 : i2 ∉ fp1
  m2 : i2 ∈ fp2
  z2 : z ∉ fp2
  T2 : TO ∉ fp2
  I2 : TI ≠ i2
  s1_2 : i1 ∉ fp2
section
variable {prog : Program} {w : World} {A : Around} {E : Value → Shared → Prop} {s : Shared} {b : Bool}
theorem next_item2 {z TI TO i1 i2 : Addr} {fp1 fp2 : List Addr} {n1 n2 i : Nat} {P1 P2 : Nat → Value → Prop} {St1 St2 : Nat → Heap → Prop} {a1 a2 : Value} {Q : Value → Shared → Prop} (S : Sep2 z TI TO i1 i2 fp1 fp2) (D1 : Draws prog w A i1 fp1 n1 P1 St1) (D2 : Draws prog w A i2 fp2 n2 P2 St2)
    (hz : ZipO s.heap z TI TO .none b) (hTI : TupO s.heap TI #[.ref i1, .ref i2]) (hTO : TupO s.heap TO #[a1, a2]) (st1 : St1 i s.heap) (st2 : St2 i s.heap) (hi1 : i < n1) (hi2 : i < n2)
    (hQ : ∀ x1 x2 h' tk, P1 i x1 → P2 i x2 → ZipO h' z TI TO (rawInt s.heap.objs.size) b → TupO h' TO #[x1, x2] → St1 (i + 1) h' → St2 (i + 1) h' → TupO h' s.heap.objs.size #[x1, x2] →
      (∀ c o, c ≠ z → c ≠ TO → c ≠ i1 → c ≠ i2 → s.heap.get? c = some o → h'.get? c = some o) → Q (.ref s.heap.objs.size) { s with heap := h', toks := tk }) :
    wpAny (model prog w) A (Builtin.«zip.__next__» ⟨[.ref z], []⟩) (fun fin s' => ∃ v, fin = .done (.ret v) ∧ Q v s') E s := by
  obtain ⟨hp, g, d, tk0, os⟩ := s
  refine wpAny_bind (m := field (.ref z) 2) (wpAny_field hz rfl (x := .bool b) rfl ?_)
  refine wpAny_bind (m := field (.ref z) 3) (wpAny_field hz rfl (x := .ref TI) rfl ?_)
  refine wpAny_bind (wpAny_seqItems hTI rfl ?_)
  show wpAny _ _ (Builtin.SmallTypes.ownedTupleIsFree (.ref z) >>= _) _ _ _
  rw [val_b]
  refine wpAny_bind ?_
  unfold Builtin.SmallTypes.ownedTupleIsFree
  refine wpAny_bind (wpAny_field hz rfl (x := .none) rfl (wpAny_pure ?_))
  simp only [if_true]
  refine wpAny_bind (wpAny_rule (wpAny_bind (wpAny_field hz rfl (x := .ref TO) rfl ?_)))
  refine wpAny_bind (wpAny_setField_rec hz (by simp) fun g0 hz0 hs0 => wpAny_bind ?_)
  replace hs0 : Heap.SameBut z hp g0 := hs0
  replace hz0 : ZipO g0 z TI TO .ellipsis b := hz0
  have hT0 : TupO g0 TO #[a1, a2] := hs0.extBut _ _ S.zTO.symm hTO
  have t1_0 : St1 i g0 := D1.frame _ _ _ st1 fun c hc o e => hs0.extBut c o (fun q => S.z1 (q ▸ hc)) e
  have t2_0 : St2 i g0 := D2.frame _ _ _ st2 fun c hc o e => hs0.extBut c o (fun q => S.z2 (q ▸ hc)) e
  have k0 : ∀ c o, c ≠ z → c ≠ TO → c ≠ i1 → c ≠ i2 → hp.get? c = some o → g0.get? c = some o := fun c o q0 _ _ _ e => hs0.extBut c o q0 e
  simp only [List.zipIdx_cons, List.zipIdx_nil, List.forIn_cons, List.forIn_nil]
  refine wpAny_bind (wpAny_bind (wpAny_onRaise (m := zdraw b (.ref i1)) (zdraw_item (s := ⟨g0, g, d, tk0, os⟩) D1 hi1 t1_0 fun x1 d1 tk1 p1 n1 hd1 => ?_)))
  replace hd1 : Heap.SameBut i1 g0 d1 := hd1
  have hU1 : TupO d1 TO #[a1, a2] := hd1.extBut _ _ (fun q => S.T1 (q ▸ S.m1)) hT0
  refine wpAny_bind (wpAny_seqItems (s := ⟨d1, g, d, tk1, os⟩) hU1 rfl ?_)
  refine wpAny_bind (upd_tup (s := ⟨d1, g, d, tk1, os⟩) hU1 (by simp) fun g1 hT1 hs1 => ?_)
  replace hs1 : Heap.SameBut TO d1 g1 := hs1
  replace hT1 : TupO g1 TO #[x1, a2] := hT1
  have hz1 : ZipO g1 z TI TO .ellipsis b := hs1.extBut _ _ S.zTO (hd1.extBut _ _ (fun q => S.z1 (q ▸ S.m1)) hz0)
  have t1_1 : St1 (i + 1) g1 := D1.frame _ _ _ n1 fun c hc o e => hs1.extBut c o (fun q => S.T1 (q ▸ hc)) e
  have t2_1 : St2 i g1 := D2.frame _ _ _ t2_0 fun c hc o e => hs1.extBut c o (fun q => S.T2 (q ▸ hc)) (hd1.extBut c o (fun q => S.s1_2 (q ▸ hc)) e)
  have k1 : ∀ c o, c ≠ z → c ≠ TO → c ≠ i1 → c ≠ i2 → hp.get? c = some o → g1.get? c = some o := fun c o qz qT q1 q2 e => hs1.extBut c o qT (hd1.extBut c o q1 (k0 c o qz qT q1 q2 e))
  have e1 : g1.objs.size = g0.objs.size := by rw [hs1.1, hd1.1]
  refine wpAny_bind (wpAny_letGo (wpAny_pure ?_))
  refine wpAny_bind (wpAny_bind (wpAny_onRaise (m := zdraw b (.ref i2)) (zdraw_item (s := ⟨g1, g, d, tk1, os⟩) D2 hi2 t2_1 fun x2 d2 tk2 p2 n2 hd2 => ?_)))
  replace hd2 : Heap.SameBut i2 g1 d2 := hd2
  have hU2 : TupO d2 TO #[x1, a2] := hd2.extBut _ _ (fun q => S.T2 (q ▸ S.m2)) hT1
  refine wpAny_bind (wpAny_seqItems (s := ⟨d2, g, d, tk2, os⟩) hU2 rfl ?_)
  refine wpAny_bind (upd_tup (s := ⟨d2, g, d, tk2, os⟩) hU2 (by simp) fun g2 hT2 hs2 => ?_)
  replace hs2 : Heap.SameBut TO d2 g2 := hs2
  replace hT2 : TupO g2 TO #[x1, x2] := hT2
  have hz2 : ZipO g2 z TI TO .ellipsis b := hs2.extBut _ _ S.zTO (hd2.extBut _ _ (fun q => S.z2 (q ▸ S.m2)) hz1)
  have t1_2 : St1 (i + 1) g2 := D1.frame _ _ _ t1_1 fun c hc o e => hs2.extBut c o (fun q => S.T1 (q ▸ hc)) (hd2.extBut c o (fun q => S.s2_1 (q ▸ hc)) e)
  have t2_2 : St2 (i + 1) g2 := D2.frame _ _ _ n2 fun c hc o e => hs2.extBut c o (fun q => S.T2 (q ▸ hc)) e
  have k2 : ∀ c o, c ≠ z → c ≠ TO → c ≠ i1 → c ≠ i2 → hp.get? c = some o → g2.get? c = some o := fun c o qz qT q1 q2 e => hs2.extBut c o qT (hd2.extBut c o q2 (k1 c o qz qT q1 q2 e))
  have e2 : g2.objs.size = g1.objs.size := by rw [hs2.1, hd2.1]
  refine wpAny_bind (wpAny_letGo (wpAny_pure ?_))
  refine wpAny_pure ?_
  refine wpAny_bind (wpAny_seqItems (s := ⟨g2, g, d, tk2, os⟩) hT2 rfl ?_)
  refine wpAny_bind (wpAny_newTuple ?_)
  have hsz : g2.objs.size = hp.objs.size := by rw [e2, e1, hs0.1]
  have hlt : z < g2.objs.size := Heap.lt_size hz2
  refine wpAny_bind ?_
  unfold Builtin.SmallTypes.ownedTupleHandOut
  have hy : ZipO (g2.push { cls := .type "tuple", data := .seq #[x1, x2] }) z TI TO .ellipsis b := Heap.get?_push_of_some _ hz2
  refine wpAny_bind (wpAny_setField_rec hy (by simp) fun u1 hu1 hv1 => wpAny_setField_rec hu1 (by simp) fun u2 hu2 hv2 => ?_)
  have up : ∀ c o, c ≠ z → g2.get? c = some o → u2.get? c = some o := fun c o q e => hv2.extBut c o q (hv1.extBut c o q (Heap.get?_push_of_some _ e))
  have hN : TupO u2 g2.objs.size #[x1, x2] := hv2.extBut _ _ (Nat.ne_of_gt hlt) (hv1.extBut _ _ (Nat.ne_of_gt hlt) (Heap.get?_push_size _ rfl))
  have hZ : ZipO u2 z TI TO (rawInt g2.objs.size) b := hu2
  rw [hsz] at hN hZ
  refine wpAny_pure ⟨_, rfl, ?_⟩
  show Q (.ref g2.objs.size) ⟨u2, g, d, tk2, os⟩
  rw [hsz]
  exact hQ x1 x2 u2 tk2 p1 p2 hZ (up _ _ S.zTO.symm hT2) (D1.frame _ _ _ t1_2 fun c hc o e => up c o (fun q => S.z1 (q ▸ hc)) e) (D2.frame _ _ _ t2_2 fun c hc o e => up c o (fun q => S.z2 (q ▸ hc)) e) hN fun c o qz qT q1 q2 e => up c o qz (k2 c o qz qT q1 q2 e)
theorem next_end2 {z TI TO i1 i2 : Addr} {fp1 fp2 : List Addr} {n : Nat} {P1 P2 : Nat → Value → Prop} {St1 St2 : Nat → Heap → Prop} {a1 a2 : Value} {Q : Fin → Shared → Prop} (hh : A.handled = none) (S : Sep2 z TI TO i1 i2 fp1 fp2) (D1 : Draws prog w A i1 fp1 n P1 St1) (D2 : Draws prog w A i2 fp2 n P2 St2)
    (hz : ZipO s.heap z TI TO .none b) (hTI : TupO s.heap TI #[.ref i1, .ref i2]) (hTO : TupO s.heap TO #[a1, a2]) (st1 : St1 n s.heap) (st2 : St2 n s.heap)
    (hE : ∀ h' e, (∀ c o, c ≠ z → c ≠ TO → c ≠ i1 → c ≠ i2 → s.heap.get? c = some o → h'.get? c = some o) → (∃ o, h'.get? e = some o ∧ o.cls = .type "StopIteration") → E (.ref e) { s with heap := h' }) :
    wpAny (model prog w) A (Builtin.«zip.__next__» ⟨[.ref z], []⟩) Q E s := by
  obtain ⟨hp, g, d, tk0, os⟩ := s
  refine wpAny_bind (m := field (.ref z) 2) (wpAny_field hz rfl (x := .bool b) rfl ?_)
  refine wpAny_bind (m := field (.ref z) 3) (wpAny_field hz rfl (x := .ref TI) rfl ?_)
  refine wpAny_bind (wpAny_seqItems hTI rfl ?_)
  show wpAny _ _ (Builtin.SmallTypes.ownedTupleIsFree (.ref z) >>= _) _ _ _
  rw [val_b]
  refine wpAny_bind ?_
  unfold Builtin.SmallTypes.ownedTupleIsFree
  refine wpAny_bind (wpAny_field hz rfl (x := .none) rfl (wpAny_pure ?_))
  simp only [if_true]
  refine wpAny_bind (wpAny_rule (wpAny_bind (wpAny_field hz rfl (x := .ref TO) rfl ?_)))
  refine wpAny_bind (wpAny_setField_rec hz (by simp) fun g0 hz0 hs0 => wpAny_bind ?_)
  replace hs0 : Heap.SameBut z hp g0 := hs0
  replace hz0 : ZipO g0 z TI TO .ellipsis b := hz0
  have t1_0 : St1 n g0 := D1.frame _ _ _ st1 fun c hc o e => hs0.extBut c o (fun q => S.z1 (q ▸ hc)) e
  have t2_0 : St2 n g0 := D2.frame _ _ _ st2 fun c hc o e => hs0.extBut c o (fun q => S.z2 (q ▸ hc)) e
  simp only [List.zipIdx_cons, List.zipIdx_nil, List.forIn_cons, List.forIn_nil]
  refine wpAny_bind (wpAny_bind (wpAny_onRaise ?_))
  cases b with
  | false =>
    refine wpAny_bind (m := Builtin.SmallTypes.nextOf (.ref i1)) (D1.done ⟨g0, g, d, tk0, os⟩ _ _ t1_0 fun y e hy he => ?_)
    replace hy : Heap.ExtBut i1 g0 y := hy
    obtain ⟨oe, hoe, hce⟩ := he
    replace hoe : y.get? e = some oe := hoe
    have hzy : ZipO y z TI TO .ellipsis false := hy _ _ (fun q => S.z1 (q ▸ S.m1)) hz0
    have hez : e ≠ z := fun x => by subst x; rw [hzy] at hoe; cases hoe; simp at hce
    refine wpAny_setField_rec (s := ⟨y, g, d, tk0, os⟩) hzy (by simp) fun y2 _ hv => ?_
    replace hv : Heap.SameBut z y y2 := hv
    exact hE y2 e (fun c o qz qT q1 q2 x => hv.extBut c o qz (hy c o q1 (hs0.extBut c o qz x))) ⟨oe, hv.extBut _ _ hez hoe, hce⟩
  | true =>
    refine zend_strict (s := ⟨g0, g, d, tk0, os⟩) D1 t1_0 fun y hy => ?_
    replace hy : Heap.ExtBut i1 g0 y := hy
    have hzy : ZipO y z TI TO .ellipsis true := hy _ _ (fun q => S.z1 (q ▸ S.m1)) hz0
    have t2_1 : St2 n y := D2.frame _ _ _ t2_0 fun c hc o e => hy c o (fun q => S.s1_2 (q ▸ hc)) e
    refine wpAny_bind (wpAny_setField_rec (s := ⟨y, g, d, tk0, os⟩) hzy (by simp) fun y1 _ hv1 => ?_)
    replace hv1 : Heap.SameBut z y y1 := hv1
    have r2_1 : St2 n y1 := D2.frame _ _ _ t2_1 fun c hc o e => hv1.extBut c o (fun q => S.z2 (q ▸ hc)) e
    have k1 : ∀ c o, c ≠ z → c ≠ TO → c ≠ i1 → c ≠ i2 → hp.get? c = some o → y1.get? c = some o := fun c o qz qT q1 q2 e => hv1.extBut c o qz (hy c o q1 (hs0.extBut c o qz e))
    refine wpAny_bind ?_
    refine wpAny_bind ?_
    simp only [List.drop_succ_cons, List.drop_zero, List.zipIdx_cons, List.zipIdx_nil, List.forIn_cons, List.forIn_nil]
    refine wpAny_bind (wpAny_bind (zend_strict (s := ⟨y1, g, d, tk0, os⟩) D2 r2_1 fun y2 hy2 => ?_))
    replace hy2 : Heap.ExtBut i2 y1 y2 := hy2
    have k2 : ∀ c o, c ≠ z → c ≠ TO → c ≠ i1 → c ≠ i2 → hp.get? c = some o → y2.get? c = some o := fun c o qz qT q1 q2 e => hy2 c o q2 (k1 c o qz qT q1 q2 e)
    refine wpAny_pure ?_
    refine wpAny_pure ?_
    exact wpAny_bind (wpAny_rule (stop_it (s := ⟨y2, g, d, tk0, os⟩) hh fun h2 e kk he => hE h2 e (fun c o qz qT q1 q2 x => kk c o (k2 c o qz qT q1 q2 x)) he))
theorem py_item2 {z TI TO i1 i2 : Addr} {fp1 fp2 : List Addr} {n1 n2 i : Nat} {P1 P2 : Nat → Value → Prop} {St1 St2 : Nat → Heap → Prop} {a1 a2 : Value} {Q : Option Value → Shared → Prop} (S : Sep2 z TI TO i1 i2 fp1 fp2) (D1 : Draws prog w A.in1 i1 fp1 n1 P1 St1) (D2 : Draws prog w A.in1 i2 fp2 n2 P2 St2)
    (hz : ZipO s.heap z TI TO .none b) (hTI : TupO s.heap TI #[.ref i1, .ref i2]) (hTO : TupO s.heap TO #[a1, a2]) (st1 : St1 i s.heap) (st2 : St2 i s.heap) (hi1 : i < n1) (hi2 : i < n2)
    (hQ : ∀ x1 x2 h' tk, P1 i x1 → P2 i x2 → ZipO h' z TI TO (rawInt s.heap.objs.size) b → TupO h' TO #[x1, x2] → St1 (i + 1) h' → St2 (i + 1) h' → TupO h' s.heap.objs.size #[x1, x2] →
      (∀ c o, c ≠ z → c ≠ TO → c ≠ i1 → c ≠ i2 → s.heap.get? c = some o → h'.get? c = some o) → Q (some (.ref s.heap.objs.size)) { s with heap := h', toks := tk }) : wpAny (model prog w) A (pyNext (.ref z)) Q E s := by
  have hT : s.TypeIs (.ref z) "zip" := ⟨_, hz, rfl⟩
  unfold pyNext
  refine wpAny_bind (wpAny_attempt (wpAny_callSpecial?_slot (name := Str.ofString "__next__") hT F.slot_zip_next (wpAny_call_entry F.slot_zip_next hT F.entry_zip_next ?_ (F.args_zip_next_1 _))))
  exact next_item2 S D1 D2 hz hTI hTO st1 st2 hi1 hi2 fun x1 x2 h2 tk p1 p2 q1 q2 u1 u2 q3 q4 => wpAny_pure (hQ x1 x2 h2 tk p1 p2 q1 q2 u1 u2 q3 q4)
theorem py_end2 {z TI TO i1 i2 : Addr} {fp1 fp2 : List Addr} {n : Nat} {P1 P2 : Nat → Value → Prop} {St1 St2 : Nat → Heap → Prop} {a1 a2 : Value} {Q : Option Value → Shared → Prop} (hh : A.handled = none) (S : Sep2 z TI TO i1 i2 fp1 fp2) (D1 : Draws prog w A.in1 i1 fp1 n P1 St1) (D2 : Draws prog w A.in1 i2 fp2 n P2 St2)
    (hz : ZipO s.heap z TI TO .none b) (hTI : TupO s.heap TI #[.ref i1, .ref i2]) (hTO : TupO s.heap TO #[a1, a2]) (st1 : St1 n s.heap) (st2 : St2 n s.heap)
    (hQ : ∀ h', (∀ c o, c ≠ z → c ≠ TO → c ≠ i1 → c ≠ i2 → s.heap.get? c = some o → h'.get? c = some o) → Q none { s with heap := h' }) : wpAny (model prog w) A (pyNext (.ref z)) Q E s := by
  have hT : s.TypeIs (.ref z) "zip" := ⟨_, hz, rfl⟩
  unfold pyNext
  refine wpAny_bind (wpAny_attempt (wpAny_callSpecial?_slot (name := Str.ofString "__next__") hT F.slot_zip_next (wpAny_call_entry F.slot_zip_next hT F.entry_zip_next ?_ (F.args_zip_next_1 _))))
  refine next_end2 (A := A.in1) hh S D1 D2 hz hTI hTO st1 st2 fun h2 e kk he => ?_
  obtain ⟨o, ho, hc⟩ := he
  exact wpAny_bind (wpAny_isInstance (T := "StopIteration") (b := true) ⟨o, ho, hc⟩ isSubtype_stop (wpAny_pure (hQ _ kk)))
theorem typeCall_strict2 (v1 v2 x : Value) : checkTypeCall "zip" ⟨[v1, v2], [(Str.ofString "strict", x)]⟩ = pure () := by kernel_rfl
theorem newCall_strict2 (v1 v2 x : Value) : checkBuiltinCall "zip.__new__" ⟨[.type "zip", v1, v2], [(Str.ofString "strict", x)]⟩ = pure () := by kernel_rfl
theorem initArgs_strict2 (obj v1 v2 x : Value) : argsOk "object.__init__" ⟨[obj, v1, v2], [(Str.ofString "strict", x)]⟩ := by unfold argsOk; kernel_rfl
abbrev sT2 (h : Heap) (o1 o2 : Obj) : Heap := (((h.push o1).push o2).push { cls := .type "tuple", data := .seq #[.ref h.objs.size, .ref (h.push o1).objs.size] })
abbrev sO2 (h : Heap) (o1 o2 : Obj) : Heap := (sT2 h o1 o2).push { cls := .type "tuple", data := .seq #[.none, .none] }
abbrev sZ2 (h : Heap) (o1 o2 : Obj) : Heap := (sO2 h o1 o2).push { cls := .type "zip", data := .fields #[.none, .bool false, .bool true, .ref ((h.push o1).push o2).objs.size, .ref (sT2 h o1 o2).objs.size] }
theorem meets_strict2 {v1 v2 : Value} {o1 o2 : Obj} {G1 G2 : Heap → Prop} (B1 : Begins v1 o1 G1) (B2 : Begins v2 o2 G2) :
    Meets (Builtin.«zip.__new__» ⟨[.type "zip", v1, v2], [(Str.ofString "strict", .bool true)]⟩) (fun _ R s => (G1 s.heap ∧ G2 s.heap) ∧ R (.ok (.ret (.ref (sO2 s.heap o1 o2).objs.size))) { s with heap := (sZ2 s.heap o1 o2) }) :=
  .of_wp fun prog w A R s h => by
    obtain ⟨hp, g, d, tk, os⟩ := s
    obtain ⟨⟨h1, h2⟩, h⟩ := h
    have hsub := sub_zip
    have e1 : (Str.ofString "strict" != ("strict" : Str)) = false := by decide +kernel
    have w1 : ∀ {A' : Around} {E : Value → Shared → Prop} {Q : Value → Shared → Prop}, Q (.ref hp.objs.size) ⟨(hp.push o1), g, d, tk, os⟩ → wpAny (model prog w) A' (pyIter v1) Q E ⟨hp, g, d, tk, os⟩ := fun q => B1.iter prog w _ _ ⟨hp, g, d, tk, os⟩ _ (B1.keeps _ _ h1 fun c u e => e) q
    have w2 : ∀ {A' : Around} {E : Value → Shared → Prop} {Q : Value → Shared → Prop}, Q (.ref (hp.push o1).objs.size) ⟨((hp.push o1).push o2), g, d, tk, os⟩ → wpAny (model prog w) A' (pyIter v2) Q E ⟨(hp.push o1), g, d, tk, os⟩ := fun q => B2.iter prog w _ _ ⟨(hp.push o1), g, d, tk, os⟩ _ (B2.keeps _ _ h2 fun c u e => (Heap.get?_push_of_some _ e)) q
    wp_walk using w1, w2
    exact ⟨_, rfl, h⟩
/-- zip(.., strict=True) of 2: its new cells -/
theorem begins_strict2 {v1 v2 : Value} {o1 o2 : Obj} {G1 G2 : Heap → Prop} {Q : Value → Shared → Prop} (B1 : Begins v1 o1 G1) (B2 : Begins v2 o2 G2) (h1 : G1 s.heap) (h2 : G2 s.heap)
    (h : ∀ h', ZipO h' (s.heap.objs.size + 4) (s.heap.objs.size + 2) (s.heap.objs.size + 3) .none true → TupO h' (s.heap.objs.size + 2) #[.ref s.heap.objs.size, .ref (s.heap.objs.size + 1)] → TupO h' (s.heap.objs.size + 3) #[.none, .none] → h'.get? s.heap.objs.size = some o1 → h'.get? (s.heap.objs.size + 1) = some o2 → (∀ c o, s.heap.get? c = some o → h'.get? c = some o) → Q (.ref (s.heap.objs.size + 4)) { s with heap := h' }) :
    wpAny (model prog w) A (call (.type "zip") [v1, v2] [(Str.ofString "strict", .bool true)]) Q E s := by
  refine callType_newKw F.called_zip (by decide) (typeCall_strict2 _ _ _) (newCall_strict2 _ _ _) (fun obj => initArgs_strict2 obj _ _ _) F.entry_zip_new (meets_strict2 B1 B2) ⟨⟨h1, h2⟩, ?_⟩
  have z1 : (s.heap.push o1).objs.size = s.heap.objs.size + 1 := by rw [Heap.size_push]
  have z2 : ((s.heap.push o1).push o2).objs.size = s.heap.objs.size + 2 := by rw [Heap.size_push, z1]
  have z3 : (sT2 s.heap o1 o2).objs.size = s.heap.objs.size + 3 := by rw [Heap.size_push, z2]
  have z4 : (sO2 s.heap o1 o2).objs.size = s.heap.objs.size + 4 := by rw [Heap.size_push, z3]
  have z5 : (sZ2 s.heap o1 o2).objs.size = s.heap.objs.size + 5 := by rw [Heap.size_push, z4]
  have q0 : (sZ2 s.heap o1 o2).get? s.heap.objs.size = some o1 := (Heap.get?_push_of_some _ (Heap.get?_push_of_some _ (Heap.get?_push_of_some _ (Heap.get?_push_of_some _ (Heap.get?_push_size _ B1.free)))))
  have q1 : (sZ2 s.heap o1 o2).get? (s.heap.push o1).objs.size = some o2 := (Heap.get?_push_of_some _ (Heap.get?_push_of_some _ (Heap.get?_push_of_some _ (Heap.get?_push_size _ B2.free))))
  rw [z1] at q1
  have q2 : (sZ2 s.heap o1 o2).get? ((s.heap.push o1).push o2).objs.size = some ({ cls := .type "tuple", data := .seq #[.ref s.heap.objs.size, .ref (s.heap.push o1).objs.size] } : Obj) := (Heap.get?_push_of_some _ (Heap.get?_push_of_some _ (Heap.get?_push_size _ rfl)))
  rw [z2] at q2
  have q3 : (sZ2 s.heap o1 o2).get? (sT2 s.heap o1 o2).objs.size = some ({ cls := .type "tuple", data := .seq #[.none, .none] } : Obj) := (Heap.get?_push_of_some _ (Heap.get?_push_size _ rfl))
  rw [z3] at q3
  have q4 : (sZ2 s.heap o1 o2).get? (sO2 s.heap o1 o2).objs.size = some ({ cls := .type "zip", data := .fields #[.none, .bool false, .bool true, .ref ((s.heap.push o1).push o2).objs.size, .ref (sT2 s.heap o1 o2).objs.size] } : Obj) := (Heap.get?_push_size _ rfl)
  rw [z4] at q4
  rw [z1] at q2
  rw [z3, z2] at q4
  show _ ∧ _
  rw [z4]
  exact ⟨⟨_, q4, rfl⟩, h _ q4 q2 q3 q0 q1 fun c o e => (Heap.get?_push_of_some _ (Heap.get?_push_of_some _ (Heap.get?_push_of_some _ (Heap.get?_push_of_some _ (Heap.get?_push_of_some _ e)))))⟩
end
/-- the cells of a zip over 3 iterators lie apart -/
structure Sep3 (z TI TO i1 i2 i3 : Addr) (fp1 fp2 fp3 : List Addr) : Prop where
  zTO : z ≠ TO
  zTI : z ≠ TI
  TOTI : TO ≠ TI
  m1 : i1 ∈ fp1
  z1 : z ∉ fp1
  T1 : TO ∉ fp1
  I1 : TI ≠ i1
  s2_1 : i2 ∉ fp1
  s3_1 : i3 ∉ fp1
  m2 : i2 ∈ fp2
  z2 : z ∉ fp2
  T2 : TO ∉ fp2
  I2 : TI ≠ i2
  s1_2 : i1 ∉ fp2
  s3_2 : i3 ∉ fp2
  m3 : i3 ∈ fp3
  z3 : z ∉ fp3
  T3 : TO ∉ fp3
  I3 : TI ≠ i3
  s1_3 : i1 ∉ fp3
  s2_3 : i2 ∉ fp3
section
variable {prog : Program} {w : World} {A : Around} {E : Value → Shared → Prop} {s : Shared} {b : Bool}
theorem next_item3 {z TI TO i1 i2 i3 : Addr} {fp1 fp2 fp3 : List Addr} {n1 n2 n3 i : Nat} {P1 P2 P3 : Nat → Value → Prop} {St1 St2 St3 : Nat → Heap → Prop} {a1 a2 a3 : Value} {Q : Value → Shared → Prop} (S : Sep3 z TI TO i1 i2 i3 fp1 fp2 fp3) (D1 : Draws prog w A i1 fp1 n1 P1 St1) (D2 : Draws prog w A i2 fp2 n2 P2 St2) (D3 : Draws prog w A i3 fp3 n3 P3 St3)
    (hz : ZipO s.heap z TI TO .none b) (hTI : TupO s.heap TI #[.ref i1, .ref i2, .ref i3]) (hTO : TupO s.heap TO #[a1, a2, a3]) (st1 : St1 i s.heap) (st2 : St2 i s.heap) (st3 : St3 i s.heap) (hi1 : i < n1) (hi2 : i < n2) (hi3 : i < n3)
    (hQ : ∀ x1 x2 x3 h' tk, P1 i x1 → P2 i x2 → P3 i x3 → ZipO h' z TI TO (rawInt s.heap.objs.size) b → TupO h' TO #[x1, x2, x3] → St1 (i + 1) h' → St2 (i + 1) h' → St3 (i + 1) h' → TupO h' s.heap.objs.size #[x1, x2, x3] →
      (∀ c o, c ≠ z → c ≠ TO → c ≠ i1 → c ≠ i2 → c ≠ i3 → s.heap.get? c = some o → h'.get? c = some o) → Q (.ref s.heap.objs.size) { s with heap := h', toks := tk }) :
    wpAny (model prog w) A (Builtin.«zip.__next__» ⟨[.ref z], []⟩) (fun fin s' => ∃ v, fin = .done (.ret v) ∧ Q v s') E s := by
  obtain ⟨hp, g, d, tk0, os⟩ := s
  refine wpAny_bind (m := field (.ref z) 2) (wpAny_field hz rfl (x := .bool b) rfl ?_)
  refine wpAny_bind (m := field (.ref z) 3) (wpAny_field hz rfl (x := .ref TI) rfl ?_)
  refine wpAny_bind (wpAny_seqItems hTI rfl ?_)
  show wpAny _ _ (Builtin.SmallTypes.ownedTupleIsFree (.ref z) >>= _) _ _ _
  rw [val_b]
  refine wpAny_bind ?_
  unfold Builtin.SmallTypes.ownedTupleIsFree
  refine wpAny_bind (wpAny_field hz rfl (x := .none) rfl (wpAny_pure ?_))
  simp only [if_true]
  refine wpAny_bind (wpAny_rule (wpAny_bind (wpAny_field hz rfl (x := .ref TO) rfl ?_)))
  refine wpAny_bind (wpAny_setField_rec hz (by simp) fun g0 hz0 hs0 => wpAny_bind ?_)
  replace hs0 : Heap.SameBut z hp g0 := hs0
  replace hz0 : ZipO g0 z TI TO .ellipsis b := hz0
  have hT0 : TupO g0 TO #[a1, a2, a3] := hs0.extBut _ _ S.zTO.symm hTO
  have t1_0 : St1 i g0 := D1.frame _ _ _ st1 fun c hc o e => hs0.extBut c o (fun q => S.z1 (q ▸ hc)) e
  have t2_0 : St2 i g0 := D2.frame _ _ _ st2 fun c hc o e => hs0.extBut c o (fun q => S.z2 (q ▸ hc)) e
  have t3_0 : St3 i g0 := D3.frame _ _ _ st3 fun c hc o e => hs0.extBut c o (fun q => S.z3 (q ▸ hc)) e
  have k0 : ∀ c o, c ≠ z → c ≠ TO → c ≠ i1 → c ≠ i2 → c ≠ i3 → hp.get? c = some o → g0.get? c = some o := fun c o q0 _ _ _ _ e => hs0.extBut c o q0 e
  simp only [List.zipIdx_cons, List.zipIdx_nil, List.forIn_cons, List.forIn_nil]
  refine wpAny_bind (wpAny_bind (wpAny_onRaise (m := zdraw b (.ref i1)) (zdraw_item (s := ⟨g0, g, d, tk0, os⟩) D1 hi1 t1_0 fun x1 d1 tk1 p1 n1 hd1 => ?_)))
  replace hd1 : Heap.SameBut i1 g0 d1 := hd1
  have hU1 : TupO d1 TO #[a1, a2, a3] := hd1.extBut _ _ (fun q => S.T1 (q ▸ S.m1)) hT0
  refine wpAny_bind (wpAny_seqItems (s := ⟨d1, g, d, tk1, os⟩) hU1 rfl ?_)
  refine wpAny_bind (upd_tup (s := ⟨d1, g, d, tk1, os⟩) hU1 (by simp) fun g1 hT1 hs1 => ?_)
  replace hs1 : Heap.SameBut TO d1 g1 := hs1
  replace hT1 : TupO g1 TO #[x1, a2, a3] := hT1
  have hz1 : ZipO g1 z TI TO .ellipsis b := hs1.extBut _ _ S.zTO (hd1.extBut _ _ (fun q => S.z1 (q ▸ S.m1)) hz0)
  have t1_1 : St1 (i + 1) g1 := D1.frame _ _ _ n1 fun c hc o e => hs1.extBut c o (fun q => S.T1 (q ▸ hc)) e
  have t2_1 : St2 i g1 := D2.frame _ _ _ t2_0 fun c hc o e => hs1.extBut c o (fun q => S.T2 (q ▸ hc)) (hd1.extBut c o (fun q => S.s1_2 (q ▸ hc)) e)
  have t3_1 : St3 i g1 := D3.frame _ _ _ t3_0 fun c hc o e => hs1.extBut c o (fun q => S.T3 (q ▸ hc)) (hd1.extBut c o (fun q => S.s1_3 (q ▸ hc)) e)
  have k1 : ∀ c o, c ≠ z → c ≠ TO → c ≠ i1 → c ≠ i2 → c ≠ i3 → hp.get? c = some o → g1.get? c = some o := fun c o qz qT q1 q2 q3 e => hs1.extBut c o qT (hd1.extBut c o q1 (k0 c o qz qT q1 q2 q3 e))
  have e1 : g1.objs.size = g0.objs.size := by rw [hs1.1, hd1.1]
  refine wpAny_bind (wpAny_letGo (wpAny_pure ?_))
  refine wpAny_bind (wpAny_bind (wpAny_onRaise (m := zdraw b (.ref i2)) (zdraw_item (s := ⟨g1, g, d, tk1, os⟩) D2 hi2 t2_1 fun x2 d2 tk2 p2 n2 hd2 => ?_)))
  replace hd2 : Heap.SameBut i2 g1 d2 := hd2
  have hU2 : TupO d2 TO #[x1, a2, a3] := hd2.extBut _ _ (fun q => S.T2 (q ▸ S.m2)) hT1
  refine wpAny_bind (wpAny_seqItems (s := ⟨d2, g, d, tk2, os⟩) hU2 rfl ?_)
  refine wpAny_bind (upd_tup (s := ⟨d2, g, d, tk2, os⟩) hU2 (by simp) fun g2 hT2 hs2 => ?_)
  replace hs2 : Heap.SameBut TO d2 g2 := hs2
  replace hT2 : TupO g2 TO #[x1, x2, a3] := hT2
  have hz2 : ZipO g2 z TI TO .ellipsis b := hs2.extBut _ _ S.zTO (hd2.extBut _ _ (fun q => S.z2 (q ▸ S.m2)) hz1)
  have t1_2 : St1 (i + 1) g2 := D1.frame _ _ _ t1_1 fun c hc o e => hs2.extBut c o (fun q => S.T1 (q ▸ hc)) (hd2.extBut c o (fun q => S.s2_1 (q ▸ hc)) e)
  have t2_2 : St2 (i + 1) g2 := D2.frame _ _ _ n2 fun c hc o e => hs2.extBut c o (fun q => S.T2 (q ▸ hc)) e
  have t3_2 : St3 i g2 := D3.frame _ _ _ t3_1 fun c hc o e => hs2.extBut c o (fun q => S.T3 (q ▸ hc)) (hd2.extBut c o (fun q => S.s2_3 (q ▸ hc)) e)
  have k2 : ∀ c o, c ≠ z → c ≠ TO → c ≠ i1 → c ≠ i2 → c ≠ i3 → hp.get? c = some o → g2.get? c = some o := fun c o qz qT q1 q2 q3 e => hs2.extBut c o qT (hd2.extBut c o q2 (k1 c o qz qT q1 q2 q3 e))
  have e2 : g2.objs.size = g1.objs.size := by rw [hs2.1, hd2.1]
  refine wpAny_bind (wpAny_letGo (wpAny_pure ?_))
  refine wpAny_bind (wpAny_bind (wpAny_onRaise (m := zdraw b (.ref i3)) (zdraw_item (s := ⟨g2, g, d, tk2, os⟩) D3 hi3 t3_2 fun x3 d3 tk3 p3 n3 hd3 => ?_)))
  replace hd3 : Heap.SameBut i3 g2 d3 := hd3
  have hU3 : TupO d3 TO #[x1, x2, a3] := hd3.extBut _ _ (fun q => S.T3 (q ▸ S.m3)) hT2
  refine wpAny_bind (wpAny_seqItems (s := ⟨d3, g, d, tk3, os⟩) hU3 rfl ?_)
  refine wpAny_bind (upd_tup (s := ⟨d3, g, d, tk3, os⟩) hU3 (by simp) fun g3 hT3 hs3 => ?_)
  replace hs3 : Heap.SameBut TO d3 g3 := hs3
  replace hT3 : TupO g3 TO #[x1, x2, x3] := hT3
  have hz3 : ZipO g3 z TI TO .ellipsis b := hs3.extBut _ _ S.zTO (hd3.extBut _ _ (fun q => S.z3 (q ▸ S.m3)) hz2)
  have t1_3 : St1 (i + 1) g3 := D1.frame _ _ _ t1_2 fun c hc o e => hs3.extBut c o (fun q => S.T1 (q ▸ hc)) (hd3.extBut c o (fun q => S.s3_1 (q ▸ hc)) e)
  have t2_3 : St2 (i + 1) g3 := D2.frame _ _ _ t2_2 fun c hc o e => hs3.extBut c o (fun q => S.T2 (q ▸ hc)) (hd3.extBut c o (fun q => S.s3_2 (q ▸ hc)) e)
  have t3_3 : St3 (i + 1) g3 := D3.frame _ _ _ n3 fun c hc o e => hs3.extBut c o (fun q => S.T3 (q ▸ hc)) e
  have k3 : ∀ c o, c ≠ z → c ≠ TO → c ≠ i1 → c ≠ i2 → c ≠ i3 → hp.get? c = some o → g3.get? c = some o := fun c o qz qT q1 q2 q3 e => hs3.extBut c o qT (hd3.extBut c o q3 (k2 c o qz qT q1 q2 q3 e))
  have e3 : g3.objs.size = g2.objs.size := by rw [hs3.1, hd3.1]
  refine wpAny_bind (wpAny_letGo (wpAny_pure ?_))
  refine wpAny_pure ?_
  refine wpAny_bind (wpAny_seqItems (s := ⟨g3, g, d, tk3, os⟩) hT3 rfl ?_)
  refine wpAny_bind (wpAny_newTuple ?_)
  have hsz : g3.objs.size = hp.objs.size := by rw [e3, e2, e1, hs0.1]
  have hlt : z < g3.objs.size := Heap.lt_size hz3
  refine wpAny_bind ?_
  unfold Builtin.SmallTypes.ownedTupleHandOut
  have hy : ZipO (g3.push { cls := .type "tuple", data := .seq #[x1, x2, x3] }) z TI TO .ellipsis b := Heap.get?_push_of_some _ hz3
  refine wpAny_bind (wpAny_setField_rec hy (by simp) fun u1 hu1 hv1 => wpAny_setField_rec hu1 (by simp) fun u2 hu2 hv2 => ?_)
  have up : ∀ c o, c ≠ z → g3.get? c = some o → u2.get? c = some o := fun c o q e => hv2.extBut c o q (hv1.extBut c o q (Heap.get?_push_of_some _ e))
  have hN : TupO u2 g3.objs.size #[x1, x2, x3] := hv2.extBut _ _ (Nat.ne_of_gt hlt) (hv1.extBut _ _ (Nat.ne_of_gt hlt) (Heap.get?_push_size _ rfl))
  have hZ : ZipO u2 z TI TO (rawInt g3.objs.size) b := hu2
  rw [hsz] at hN hZ
  refine wpAny_pure ⟨_, rfl, ?_⟩
  show Q (.ref g3.objs.size) ⟨u2, g, d, tk3, os⟩
  rw [hsz]
  exact hQ x1 x2 x3 u2 tk3 p1 p2 p3 hZ (up _ _ S.zTO.symm hT3) (D1.frame _ _ _ t1_3 fun c hc o e => up c o (fun q => S.z1 (q ▸ hc)) e) (D2.frame _ _ _ t2_3 fun c hc o e => up c o (fun q => S.z2 (q ▸ hc)) e) (D3.frame _ _ _ t3_3 fun c hc o e => up c o (fun q => S.z3 (q ▸ hc)) e) hN fun c o qz qT q1 q2 q3 e => up c o qz (k3 c o qz qT q1 q2 q3 e)
theorem next_end3 {z TI TO i1 i2 i3 : Addr} {fp1 fp2 fp3 : List Addr} {n : Nat} {P1 P2 P3 : Nat → Value → Prop} {St1 St2 St3 : Nat → Heap → Prop} {a1 a2 a3 : Value} {Q : Fin → Shared → Prop} (hh : A.handled = none) (S : Sep3 z TI TO i1 i2 i3 fp1 fp2 fp3) (D1 : Draws prog w A i1 fp1 n P1 St1) (D2 : Draws prog w A i2 fp2 n P2 St2) (D3 : Draws prog w A i3 fp3 n P3 St3)
    (hz : ZipO s.heap z TI TO .none b) (hTI : TupO s.heap TI #[.ref i1, .ref i2, .ref i3]) (hTO : TupO s.heap TO #[a1, a2, a3]) (st1 : St1 n s.heap) (st2 : St2 n s.heap) (st3 : St3 n s.heap)
    (hE : ∀ h' e, (∀ c o, c ≠ z → c ≠ TO → c ≠ i1 → c ≠ i2 → c ≠ i3 → s.heap.get? c = some o → h'.get? c = some o) → (∃ o, h'.get? e = some o ∧ o.cls = .type "StopIteration") → E (.ref e) { s with heap := h' }) :
    wpAny (model prog w) A (Builtin.«zip.__next__» ⟨[.ref z], []⟩) Q E s := by
  obtain ⟨hp, g, d, tk0, os⟩ := s
  refine wpAny_bind (m := field (.ref z) 2) (wpAny_field hz rfl (x := .bool b) rfl ?_)
  refine wpAny_bind (m := field (.ref z) 3) (wpAny_field hz rfl (x := .ref TI) rfl ?_)
  refine wpAny_bind (wpAny_seqItems hTI rfl ?_)
  show wpAny _ _ (Builtin.SmallTypes.ownedTupleIsFree (.ref z) >>= _) _ _ _
  rw [val_b]
  refine wpAny_bind ?_
  unfold Builtin.SmallTypes.ownedTupleIsFree
  refine wpAny_bind (wpAny_field hz rfl (x := .none) rfl (wpAny_pure ?_))
  simp only [if_true]
  refine wpAny_bind (wpAny_rule (wpAny_bind (wpAny_field hz rfl (x := .ref TO) rfl ?_)))
  refine wpAny_bind (wpAny_setField_rec hz (by simp) fun g0 hz0 hs0 => wpAny_bind ?_)
  replace hs0 : Heap.SameBut z hp g0 := hs0
  replace hz0 : ZipO g0 z TI TO .ellipsis b := hz0
  have t1_0 : St1 n g0 := D1.frame _ _ _ st1 fun c hc o e => hs0.extBut c o (fun q => S.z1 (q ▸ hc)) e
  have t2_0 : St2 n g0 := D2.frame _ _ _ st2 fun c hc o e => hs0.extBut c o (fun q => S.z2 (q ▸ hc)) e
  have t3_0 : St3 n g0 := D3.frame _ _ _ st3 fun c hc o e => hs0.extBut c o (fun q => S.z3 (q ▸ hc)) e
  simp only [List.zipIdx_cons, List.zipIdx_nil, List.forIn_cons, List.forIn_nil]
  refine wpAny_bind (wpAny_bind (wpAny_onRaise ?_))
  cases b with
  | false =>
    refine wpAny_bind (m := Builtin.SmallTypes.nextOf (.ref i1)) (D1.done ⟨g0, g, d, tk0, os⟩ _ _ t1_0 fun y e hy he => ?_)
    replace hy : Heap.ExtBut i1 g0 y := hy
    obtain ⟨oe, hoe, hce⟩ := he
    replace hoe : y.get? e = some oe := hoe
    have hzy : ZipO y z TI TO .ellipsis false := hy _ _ (fun q => S.z1 (q ▸ S.m1)) hz0
    have hez : e ≠ z := fun x => by subst x; rw [hzy] at hoe; cases hoe; simp at hce
    refine wpAny_setField_rec (s := ⟨y, g, d, tk0, os⟩) hzy (by simp) fun y2 _ hv => ?_
    replace hv : Heap.SameBut z y y2 := hv
    exact hE y2 e (fun c o qz qT q1 q2 q3 x => hv.extBut c o qz (hy c o q1 (hs0.extBut c o qz x))) ⟨oe, hv.extBut _ _ hez hoe, hce⟩
  | true =>
    refine zend_strict (s := ⟨g0, g, d, tk0, os⟩) D1 t1_0 fun y hy => ?_
    replace hy : Heap.ExtBut i1 g0 y := hy
    have hzy : ZipO y z TI TO .ellipsis true := hy _ _ (fun q => S.z1 (q ▸ S.m1)) hz0
    have t2_1 : St2 n y := D2.frame _ _ _ t2_0 fun c hc o e => hy c o (fun q => S.s1_2 (q ▸ hc)) e
    have t3_1 : St3 n y := D3.frame _ _ _ t3_0 fun c hc o e => hy c o (fun q => S.s1_3 (q ▸ hc)) e
    refine wpAny_bind (wpAny_setField_rec (s := ⟨y, g, d, tk0, os⟩) hzy (by simp) fun y1 _ hv1 => ?_)
    replace hv1 : Heap.SameBut z y y1 := hv1
    have r2_1 : St2 n y1 := D2.frame _ _ _ t2_1 fun c hc o e => hv1.extBut c o (fun q => S.z2 (q ▸ hc)) e
    have r3_1 : St3 n y1 := D3.frame _ _ _ t3_1 fun c hc o e => hv1.extBut c o (fun q => S.z3 (q ▸ hc)) e
    have k1 : ∀ c o, c ≠ z → c ≠ TO → c ≠ i1 → c ≠ i2 → c ≠ i3 → hp.get? c = some o → y1.get? c = some o := fun c o qz qT q1 q2 q3 e => hv1.extBut c o qz (hy c o q1 (hs0.extBut c o qz e))
    refine wpAny_bind ?_
    refine wpAny_bind ?_
    simp only [List.drop_succ_cons, List.drop_zero, List.zipIdx_cons, List.zipIdx_nil, List.forIn_cons, List.forIn_nil]
    refine wpAny_bind (wpAny_bind (zend_strict (s := ⟨y1, g, d, tk0, os⟩) D2 r2_1 fun y2 hy2 => ?_))
    replace hy2 : Heap.ExtBut i2 y1 y2 := hy2
    have k2 : ∀ c o, c ≠ z → c ≠ TO → c ≠ i1 → c ≠ i2 → c ≠ i3 → hp.get? c = some o → y2.get? c = some o := fun c o qz qT q1 q2 q3 e => hy2 c o q2 (k1 c o qz qT q1 q2 q3 e)
    have r3_2 : St3 n y2 := D3.frame _ _ _ r3_1 fun c hc o e => hy2 c o (fun q => S.s2_3 (q ▸ hc)) e
    refine wpAny_pure ?_
    refine wpAny_bind (wpAny_bind (zend_strict (s := ⟨y2, g, d, tk0, os⟩) D3 r3_2 fun y3 hy3 => ?_))
    replace hy3 : Heap.ExtBut i3 y2 y3 := hy3
    have k3 : ∀ c o, c ≠ z → c ≠ TO → c ≠ i1 → c ≠ i2 → c ≠ i3 → hp.get? c = some o → y3.get? c = some o := fun c o qz qT q1 q2 q3 e => hy3 c o q3 (k2 c o qz qT q1 q2 q3 e)
    refine wpAny_pure ?_
    refine wpAny_pure ?_
    exact wpAny_bind (wpAny_rule (stop_it (s := ⟨y3, g, d, tk0, os⟩) hh fun h2 e kk he => hE h2 e (fun c o qz qT q1 q2 q3 x => kk c o (k3 c o qz qT q1 q2 q3 x)) he))
theorem py_item3 {z TI TO i1 i2 i3 : Addr} {fp1 fp2 fp3 : List Addr} {n1 n2 n3 i : Nat} {P1 P2 P3 : Nat → Value → Prop} {St1 St2 St3 : Nat → Heap → Prop} {a1 a2 a3 : Value} {Q : Option Value → Shared → Prop} (S : Sep3 z TI TO i1 i2 i3 fp1 fp2 fp3) (D1 : Draws prog w A.in1 i1 fp1 n1 P1 St1) (D2 : Draws prog w A.in1 i2 fp2 n2 P2 St2) (D3 : Draws prog w A.in1 i3 fp3 n3 P3 St3)
    (hz : ZipO s.heap z TI TO .none b) (hTI : TupO s.heap TI #[.ref i1, .ref i2, .ref i3]) (hTO : TupO s.heap TO #[a1, a2, a3]) (st1 : St1 i s.heap) (st2 : St2 i s.heap) (st3 : St3 i s.heap) (hi1 : i < n1) (hi2 : i < n2) (hi3 : i < n3)
    (hQ : ∀ x1 x2 x3 h' tk, P1 i x1 → P2 i x2 → P3 i x3 → ZipO h' z TI TO (rawInt s.heap.objs.size) b → TupO h' TO #[x1, x2, x3] → St1 (i + 1) h' → St2 (i + 1) h' → St3 (i + 1) h' → TupO h' s.heap.objs.size #[x1, x2, x3] →
      (∀ c o, c ≠ z → c ≠ TO → c ≠ i1 → c ≠ i2 → c ≠ i3 → s.heap.get? c = some o → h'.get? c = some o) → Q (some (.ref s.heap.objs.size)) { s with heap := h', toks := tk }) : wpAny (model prog w) A (pyNext (.ref z)) Q E s := by
  have hT : s.TypeIs (.ref z) "zip" := ⟨_, hz, rfl⟩
  unfold pyNext
  refine wpAny_bind (wpAny_attempt (wpAny_callSpecial?_slot (name := Str.ofString "__next__") hT F.slot_zip_next (wpAny_call_entry F.slot_zip_next hT F.entry_zip_next ?_ (F.args_zip_next_1 _))))
  exact next_item3 S D1 D2 D3 hz hTI hTO st1 st2 st3 hi1 hi2 hi3 fun x1 x2 x3 h2 tk p1 p2 p3 q1 q2 u1 u2 u3 q3 q4 => wpAny_pure (hQ x1 x2 x3 h2 tk p1 p2 p3 q1 q2 u1 u2 u3 q3 q4)
theorem py_end3 {z TI TO i1 i2 i3 : Addr} {fp1 fp2 fp3 : List Addr} {n : Nat} {P1 P2 P3 : Nat → Value → Prop} {St1 St2 St3 : Nat → Heap → Prop} {a1 a2 a3 : Value} {Q : Option Value → Shared → Prop} (hh : A.handled = none) (S : Sep3 z TI TO i1 i2 i3 fp1 fp2 fp3) (D1 : Draws prog w A.in1 i1 fp1 n P1 St1) (D2 : Draws prog w A.in1 i2 fp2 n P2 St2) (D3 : Draws prog w A.in1 i3 fp3 n P3 St3)
    (hz : ZipO s.heap z TI TO .none b) (hTI : TupO s.heap TI #[.ref i1, .ref i2, .ref i3]) (hTO : TupO s.heap TO #[a1, a2, a3]) (st1 : St1 n s.heap) (st2 : St2 n s.heap) (st3 : St3 n s.heap)
    (hQ : ∀ h', (∀ c o, c ≠ z → c ≠ TO → c ≠ i1 → c ≠ i2 → c ≠ i3 → s.heap.get? c = some o → h'.get? c = some o) → Q none { s with heap := h' }) : wpAny (model prog w) A (pyNext (.ref z)) Q E s := by
  have hT : s.TypeIs (.ref z) "zip" := ⟨_, hz, rfl⟩
  unfold pyNext
  refine wpAny_bind (wpAny_attempt (wpAny_callSpecial?_slot (name := Str.ofString "__next__") hT F.slot_zip_next (wpAny_call_entry F.slot_zip_next hT F.entry_zip_next ?_ (F.args_zip_next_1 _))))
  refine next_end3 (A := A.in1) hh S D1 D2 D3 hz hTI hTO st1 st2 st3 fun h2 e kk he => ?_
  obtain ⟨o, ho, hc⟩ := he
  exact wpAny_bind (wpAny_isInstance (T := "StopIteration") (b := true) ⟨o, ho, hc⟩ isSubtype_stop (wpAny_pure (hQ _ kk)))
theorem typeCall_strict3 (v1 v2 v3 x : Value) : checkTypeCall "zip" ⟨[v1, v2, v3], [(Str.ofString "strict", x)]⟩ = pure () := by kernel_rfl
theorem newCall_strict3 (v1 v2 v3 x : Value) : checkBuiltinCall "zip.__new__" ⟨[.type "zip", v1, v2, v3], [(Str.ofString "strict", x)]⟩ = pure () := by kernel_rfl
theorem initArgs_strict3 (obj v1 v2 v3 x : Value) : argsOk "object.__init__" ⟨[obj, v1, v2, v3], [(Str.ofString "strict", x)]⟩ := by unfold argsOk; kernel_rfl
abbrev sT3 (h : Heap) (o1 o2 o3 : Obj) : Heap := ((((h.push o1).push o2).push o3).push { cls := .type "tuple", data := .seq #[.ref h.objs.size, .ref (h.push o1).objs.size, .ref ((h.push o1).push o2).objs.size] })
abbrev sO3 (h : Heap) (o1 o2 o3 : Obj) : Heap := (sT3 h o1 o2 o3).push { cls := .type "tuple", data := .seq #[.none, .none, .none] }
abbrev sZ3 (h : Heap) (o1 o2 o3 : Obj) : Heap := (sO3 h o1 o2 o3).push { cls := .type "zip", data := .fields #[.none, .bool false, .bool true, .ref (((h.push o1).push o2).push o3).objs.size, .ref (sT3 h o1 o2 o3).objs.size] }
theorem meets_strict3 {v1 v2 v3 : Value} {o1 o2 o3 : Obj} {G1 G2 G3 : Heap → Prop} (B1 : Begins v1 o1 G1) (B2 : Begins v2 o2 G2) (B3 : Begins v3 o3 G3) :
    Meets (Builtin.«zip.__new__» ⟨[.type "zip", v1, v2, v3], [(Str.ofString "strict", .bool true)]⟩) (fun _ R s => (G1 s.heap ∧ G2 s.heap ∧ G3 s.heap) ∧ R (.ok (.ret (.ref (sO3 s.heap o1 o2 o3).objs.size))) { s with heap := (sZ3 s.heap o1 o2 o3) }) :=
  .of_wp fun prog w A R s h => by
    obtain ⟨hp, g, d, tk, os⟩ := s
    obtain ⟨⟨h1, h2, h3⟩, h⟩ := h
    have hsub := sub_zip
    have e1 : (Str.ofString "strict" != ("strict" : Str)) = false := by decide +kernel
    have w1 : ∀ {A' : Around} {E : Value → Shared → Prop} {Q : Value → Shared → Prop}, Q (.ref hp.objs.size) ⟨(hp.push o1), g, d, tk, os⟩ → wpAny (model prog w) A' (pyIter v1) Q E ⟨hp, g, d, tk, os⟩ := fun q => B1.iter prog w _ _ ⟨hp, g, d, tk, os⟩ _ (B1.keeps _ _ h1 fun c u e => e) q
    have w2 : ∀ {A' : Around} {E : Value → Shared → Prop} {Q : Value → Shared → Prop}, Q (.ref (hp.push o1).objs.size) ⟨((hp.push o1).push o2), g, d, tk, os⟩ → wpAny (model prog w) A' (pyIter v2) Q E ⟨(hp.push o1), g, d, tk, os⟩ := fun q => B2.iter prog w _ _ ⟨(hp.push o1), g, d, tk, os⟩ _ (B2.keeps _ _ h2 fun c u e => (Heap.get?_push_of_some _ e)) q
    have w3 : ∀ {A' : Around} {E : Value → Shared → Prop} {Q : Value → Shared → Prop}, Q (.ref ((hp.push o1).push o2).objs.size) ⟨(((hp.push o1).push o2).push o3), g, d, tk, os⟩ → wpAny (model prog w) A' (pyIter v3) Q E ⟨((hp.push o1).push o2), g, d, tk, os⟩ := fun q => B3.iter prog w _ _ ⟨((hp.push o1).push o2), g, d, tk, os⟩ _ (B3.keeps _ _ h3 fun c u e => (Heap.get?_push_of_some _ (Heap.get?_push_of_some _ e))) q
    wp_walk using w1, w2, w3
    exact ⟨_, rfl, h⟩
/-- zip(.., strict=True) of 3: its new cells -/
theorem begins_strict3 {v1 v2 v3 : Value} {o1 o2 o3 : Obj} {G1 G2 G3 : Heap → Prop} {Q : Value → Shared → Prop} (B1 : Begins v1 o1 G1) (B2 : Begins v2 o2 G2) (B3 : Begins v3 o3 G3) (h1 : G1 s.heap) (h2 : G2 s.heap) (h3 : G3 s.heap)
    (h : ∀ h', ZipO h' (s.heap.objs.size + 5) (s.heap.objs.size + 3) (s.heap.objs.size + 4) .none true → TupO h' (s.heap.objs.size + 3) #[.ref s.heap.objs.size, .ref (s.heap.objs.size + 1), .ref (s.heap.objs.size + 2)] → TupO h' (s.heap.objs.size + 4) #[.none, .none, .none] → h'.get? s.heap.objs.size = some o1 → h'.get? (s.heap.objs.size + 1) = some o2 → h'.get? (s.heap.objs.size + 2) = some o3 → (∀ c o, s.heap.get? c = some o → h'.get? c = some o) → Q (.ref (s.heap.objs.size + 5)) { s with heap := h' }) :
    wpAny (model prog w) A (call (.type "zip") [v1, v2, v3] [(Str.ofString "strict", .bool true)]) Q E s := by
  refine callType_newKw F.called_zip (by decide) (typeCall_strict3 _ _ _ _) (newCall_strict3 _ _ _ _) (fun obj => initArgs_strict3 obj _ _ _ _) F.entry_zip_new (meets_strict3 B1 B2 B3) ⟨⟨h1, h2, h3⟩, ?_⟩
  have z1 : (s.heap.push o1).objs.size = s.heap.objs.size + 1 := by rw [Heap.size_push]
  have z2 : ((s.heap.push o1).push o2).objs.size = s.heap.objs.size + 2 := by rw [Heap.size_push, z1]
  have z3 : (((s.heap.push o1).push o2).push o3).objs.size = s.heap.objs.size + 3 := by rw [Heap.size_push, z2]
  have z4 : (sT3 s.heap o1 o2 o3).objs.size = s.heap.objs.size + 4 := by rw [Heap.size_push, z3]
  have z5 : (sO3 s.heap o1 o2 o3).objs.size = s.heap.objs.size + 5 := by rw [Heap.size_push, z4]
  have z6 : (sZ3 s.heap o1 o2 o3).objs.size = s.heap.objs.size + 6 := by rw [Heap.size_push, z5]
  have q0 : (sZ3 s.heap o1 o2 o3).get? s.heap.objs.size = some o1 := (Heap.get?_push_of_some _ (Heap.get?_push_of_some _ (Heap.get?_push_of_some _ (Heap.get?_push_of_some _ (Heap.get?_push_of_some _ (Heap.get?_push_size _ B1.free))))))
  have q1 : (sZ3 s.heap o1 o2 o3).get? (s.heap.push o1).objs.size = some o2 := (Heap.get?_push_of_some _ (Heap.get?_push_of_some _ (Heap.get?_push_of_some _ (Heap.get?_push_of_some _ (Heap.get?_push_size _ B2.free)))))
  rw [z1] at q1
  have q2 : (sZ3 s.heap o1 o2 o3).get? ((s.heap.push o1).push o2).objs.size = some o3 := (Heap.get?_push_of_some _ (Heap.get?_push_of_some _ (Heap.get?_push_of_some _ (Heap.get?_push_size _ B3.free))))
  rw [z2] at q2
  have q3 : (sZ3 s.heap o1 o2 o3).get? (((s.heap.push o1).push o2).push o3).objs.size = some ({ cls := .type "tuple", data := .seq #[.ref s.heap.objs.size, .ref (s.heap.push o1).objs.size, .ref ((s.heap.push o1).push o2).objs.size] } : Obj) := (Heap.get?_push_of_some _ (Heap.get?_push_of_some _ (Heap.get?_push_size _ rfl)))
  rw [z3] at q3
  have q4 : (sZ3 s.heap o1 o2 o3).get? (sT3 s.heap o1 o2 o3).objs.size = some ({ cls := .type "tuple", data := .seq #[.none, .none, .none] } : Obj) := (Heap.get?_push_of_some _ (Heap.get?_push_size _ rfl))
  rw [z4] at q4
  have q5 : (sZ3 s.heap o1 o2 o3).get? (sO3 s.heap o1 o2 o3).objs.size = some ({ cls := .type "zip", data := .fields #[.none, .bool false, .bool true, .ref (((s.heap.push o1).push o2).push o3).objs.size, .ref (sT3 s.heap o1 o2 o3).objs.size] } : Obj) := (Heap.get?_push_size _ rfl)
  rw [z5] at q5
  rw [z2, z1] at q3
  rw [z4, z3] at q5
  show _ ∧ _
  rw [z5]
  exact ⟨⟨_, q5, rfl⟩, h _ q5 q3 q4 q0 q1 q2 fun c o e => (Heap.get?_push_of_some _ (Heap.get?_push_of_some _ (Heap.get?_push_of_some _ (Heap.get?_push_of_some _ (Heap.get?_push_of_some _ (Heap.get?_push_of_some _ e))))))⟩
end
end CZ

namespace CZ
open PySem PySem.Spec PyProof.Rows L2
/-- a list (false) or a tuple (true) that is read -/
def SqK (K : PySem.W.Frag) (H : Hp) (p : Bool × Addr) (xs : List V) : Prop := if p.1 = true then SqT K H p.2 xs else SqL K H p.2 xs
def SqIt (h : Heap) (it : Addr) (p : Bool × Addr) (i : Nat) : Prop := if p.1 = true then h.IsTupleIter it p.2 i else h.IsListIter it p.2 i
def SeqIs (h : Heap) (p : Bool × Addr) (its : List Value) : Prop := if p.1 = true then h.IsTuple p.2 its.toArray else h.IsList p.2 its.toArray
/-- the iterator's object as it begins -/
def itO (p : Bool × Addr) : Obj := if p.1 = true then { cls := .type "tuple_iterator", data := .fields #[.ref p.2, .int 0 0] } else { cls := .type "list_iterator", data := .fields #[.ref p.2, .int 0 0] }
theorem SqIt.at {h h' : Heap} {it : Addr} {p : Bool × Addr} {i : Nat} (x : SqIt h it p i) (k : ∀ o, h.get? it = some o → h'.get? it = some o) : SqIt h' it p i := by
  obtain ⟨b, a⟩ := p
  cases b
  · exact Heap.IsListIter.at (show h.IsListIter it a i from x) k
  · exact Heap.IsTupleIter.at (show h.IsTupleIter it a i from x) k
theorem SqIt.obj {h : Heap} {it : Addr} {p : Bool × Addr} {i : Nat} (x : SqIt h it p i) : ∃ o, h.get? it = some o ∧ ∀ v, o.data ≠ .cell v := by
  obtain ⟨b, a⟩ := p
  cases b
  · obtain ⟨o, e, _, d⟩ := (show h.IsListIter it a i from x)
    exact ⟨o, e, fun v q => by rw [d] at q; cases q⟩
  · obtain ⟨o, e, _, d⟩ := (show h.IsTupleIter it a i from x)
    exact ⟨o, e, fun v q => by rw [d] at q; cases q⟩
theorem SqIt.begin {h : Heap} {it : Addr} {p : Bool × Addr} (e : h.get? it = some (itO p)) : SqIt h it p 0 := by
  obtain ⟨b, a⟩ := p
  cases b
  · exact ⟨_, e, rfl, rfl⟩
  · exact ⟨_, e, rfl, rfl⟩
theorem begins_of (p : Bool × Addr) (its : List Value) : Begins (.ref p.2) (itO p) (fun h => SeqIs h p its) := by
  obtain ⟨b, a⟩ := p
  cases b
  · exact begins_list a its.toArray
  · exact begins_tuple a its.toArray
theorem draws_of {prog : Program} {w : World} {A : Around} (hh : A.handled = none) (it : Addr) (p : Bool × Addr) (ne : p.2 ≠ it) (its : List Value) :
    Draws prog w A it [it, p.2] its.toArray.size (fun i v => its.toArray[i]? = some v) (fun i h => SqIt h it p i ∧ SeqIs h p its) := by
  obtain ⟨b, a⟩ := p
  cases b
  · exact Draws.list hh it a ne its.toArray
  · exact Draws.tuple hh it a ne its.toArray
section
variable {X : Cx} {pins : List (Addr × Obj)} {σ : L2.St} {H : Hp} {s : Shared} {p : Bool × Addr} {xs ys : List V}
theorem sq_seq (I : Inv X pins σ H s) (h : SqK X.K H p xs) : ∃ its : List Value, Vals xs its ∧ SeqIs s.heap p its ∧ p.2 < s.heap.objs.size := by
  obtain ⟨b, a⟩ := p
  cases b
  · obtain ⟨its, rv, q, _⟩ := I.list (show SqL X.K H a xs from h)
    exact ⟨its, rv, q.isList, q.lt⟩
  · obtain ⟨its, rv, q, _⟩ := I.tuple (show SqT X.K H a xs from h)
    obtain ⟨o, ho, _⟩ := id q
    exact ⟨its, rv, q, Heap.lt_size ho⟩
theorem sq_inj (I : Inv X pins σ H s) (h : SqK X.K H p xs) (h2 : SqK X.K H p ys) : xs = ys := by
  obtain ⟨b, a⟩ := p
  cases b
  · exact I.list_inj (show SqL X.K H a xs from h) h2
  · exact I.tuple_inj (show SqT X.K H a xs from h) h2
end
/-- what a zip of lists and tuples of one length gives -/
def ItZ (K : PySem.W.Frag) (l : List (Bool × Addr)) : It :=
  ⟨fun i H => ∃ vs : List V, Paired (fun p v => ∃ xs, SqK K H p xs ∧ xs[i]? = some v) l vs,
    fun i H v H2 => ∃ (T : Addr) (vs : List V), v = .ref T ∧ H T = none ∧ H2 = upd H T (.tup vs) ∧ Paired (fun p v => ∀ xs, SqK K H p xs → xs[i]? = some v) l vs,
    fun i H => ∀ p ∈ l, ∃ xs, SqK K H p xs ∧ xs.length = i⟩
def YRow (xss : List (List V)) : Nat → Hp → V → Hp → Prop := fun i H v H2 => ∃ (T : Addr) (vs : List V), v = .ref T ∧ H T = none ∧ H2 = upd H T (.tup vs) ∧ Paired (fun (xs : List V) v => xs[i]? = some v) xss vs
theorem pair_go {K : PySem.W.Frag} {H : Hp} {i : Nat} : ∀ {l : List (Bool × Addr)} {xss : List (List V)}, Paired (fun p xs => SqK K H p xs) l xss → (∀ xs ∈ xss, i < xs.length) → ∃ vs, Paired (fun p v => ∃ xs, SqK K H p xs ∧ xs[i]? = some v) l vs
  | _, _, .nil, _ => ⟨[], .nil⟩
  | _, _, .cons (b := xs) r t, h => by
    obtain ⟨vs, q⟩ := pair_go t fun ys hy => h ys (List.mem_cons_of_mem _ hy)
    have hi := h xs List.mem_cons_self
    exact ⟨xs[i] :: vs, .cons ⟨xs, r, List.getElem?_eq_getElem hi⟩ q⟩
theorem pair_row {K : PySem.W.Frag} {H : Hp} {i : Nat} : ∀ {l : List (Bool × Addr)} {xss : List (List V)} {vs : List V}, Paired (fun p xs => SqK K H p xs) l xss → Paired (fun p v => ∀ xs, SqK K H p xs → xs[i]? = some v) l vs → Paired (fun (xs : List V) v => xs[i]? = some v) xss vs
  | _, _, _, .nil, .nil => .nil
  | _, _, _, .cons r t, .cons q u => .cons (q _ r) (pair_row t u)
theorem pair_stop {K : PySem.W.Frag} {H : Hp} {n : Nat} : ∀ {l : List (Bool × Addr)} {xss : List (List V)}, Paired (fun p xs => SqK K H p xs) l xss → (∀ xs ∈ xss, xs.length = n) → ∀ p ∈ l, ∃ xs, SqK K H p xs ∧ xs.length = n
  | _, _, .nil, _, _, hp => nomatch hp
  | _, _, .cons r t, h, p, hp => by
    rcases List.mem_cons.mp hp with e | hp
    · rw [e]
      exact ⟨_, r, h _ List.mem_cons_self⟩
    · exact pair_stop t (fun ys hy => h ys (List.mem_cons_of_mem _ hy)) p hp
theorem walk_rows {K : PySem.W.Frag} {l : List (Bool × Addr)} {xss : List (List V)} {n : Nat} (hn : ∀ xs ∈ xss, xs.length = n) : Walk (ItZ K l) n (fun H => Paired (fun p xs => SqK K H p xs) l xss) (YRow xss) :=
  ⟨fun i H hi q => pair_go q fun xs hx => by rw [hn xs hx]; exact hi, fun H q => pair_stop q hn, fun i H x H2 _ q y => by
    obtain ⟨T, vs, h1, h2, h3, h4⟩ := y
    exact ⟨T, vs, h1, h2, h3, pair_row q h4⟩⟩
/-- the reading of zip(..): which are tuples is told by the flags -/
def iZ (K : PySem.W.Frag) (fl : List Bool) (ta : TA) : TI := fun σ H R => ta σ H fun vs H1 => ∃ l : List Addr, vs = l.map V.ref ∧ l.length = fl.length ∧ (∀ p ∈ fl.zip l, ∃ xs, SqK K H1 p xs) ∧ R (ItZ K (fl.zip l)) H1
theorem nin_new {M a : Nat} (j k : Nat) (h : a < M) (hjk : j ≠ k) : M + j ∉ [M + k, a] := by
  simp only [List.mem_cons, List.mem_nil_iff, or_false, not_or]
  omega
theorem looks_ty {M : Model} {h : Heap} (T : String) (_ : True) : ∃ k, (k = Keeper.frame ∨ k = Keeper.machine ∨ k = Keeper.boundFrame) ∧ PySem.W.Looks M h (keeperOf (.type T)) k := ⟨_, .inr (.inl rfl), PySem.W.Looks.of_pure rfl⟩
end CZ

namespace CZ
open PySem PySem.Spec PyProof.Rows L2
theorem turn_z2 {P : Program} {w : World} {K : PySem.W.Frag} {elts : List Expr} {kk : Nat} {tpos : Pos} {z TI TO i1 i2 : Addr} {p1 p2 : Bool × Addr} {b : Bool} (S : Sep2 z TI TO i1 i2 [i1, p1.2] [i2, p2.2]) (ne1 : p1.2 ≠ i1) (ne2 : p2.2 ≠ i2) :
    Turn P w K (.Tuple elts kk tpos) (ItZ K [p1, p2]) [z, TI, TO, i1, i2] z (fun i h => ZipO h z TI TO .none b ∧ TupO h TI #[.ref i1, .ref i2] ∧ (∃ a1 a2, TupO h TO #[a1, a2]) ∧ SqIt h i1 p1 i ∧ SqIt h i2 p2 i) where
  mem := by simp
  obj := fun i h st c hc => by
    obtain ⟨hz, hTI, ⟨a1, a2, hTO⟩, h1, h2⟩ := st
    have e : c = z ∨ c = TI ∨ c = TO ∨ c = i1 ∨ c = i2 := by simpa using hc
    rcases e with q | q | q | q | q
    · rw [q]; exact ⟨_, hz, fun v q => nomatch q⟩
    · rw [q]; exact ⟨_, hTI, fun v q => nomatch q⟩
    · rw [q]; exact ⟨_, hTO, fun v q => nomatch q⟩
    · rw [q]; exact h1.obj
    · rw [q]; exact h2.obj
  keep := fun i h h2 st k => by
    obtain ⟨hz, hTI, ⟨a1, a2, hTO⟩, h1, h2⟩ := st
    exact ⟨k z (by simp) _ hz, k TI (by simp) _ hTI, ⟨a1, a2, k TO (by simp) _ hTO⟩, h1.at fun o q => k i1 (by simp) o q, h2.at fun o q => k i2 (by simp) o q⟩
  item := by
    intro X hP hw hK hc i pins s σ H E I hf st hg
    subst hP hw hK
    obtain ⟨hz, hTI, ⟨a1, a2, hTO⟩, h1, h2⟩ := st
    obtain ⟨vs, hv⟩ := hg
    cases hv with
    | cons r1 hv1 =>
      rename_i v1 ws1
      obtain ⟨xs1, hq1, hx1⟩ := r1
      obtain ⟨its1, rv1, q1, _⟩ := sq_seq I hq1
      obtain ⟨u1, hu1, ru1⟩ := rv1.get hx1
      have g1 : its1.toArray[i]? = some u1 := by simpa using hu1
      have l1 : i < its1.toArray.size := by have := (List.getElem?_eq_some_iff.mp hu1).1; simpa using this
      cases hv1 with
      | cons r2 hv2 =>
        rename_i v2 ws2
        obtain ⟨xs2, hq2, hx2⟩ := r2
        obtain ⟨its2, rv2, q2, _⟩ := sq_seq I hq2
        obtain ⟨u2, hu2, ru2⟩ := rv2.get hx2
        have g2 : its2.toArray[i]? = some u2 := by simpa using hu2
        have l2 : i < its2.toArray.size := by have := (List.getElem?_eq_some_iff.mp hu2).1; simpa using this
        cases hv2
        have hzl : z < s.heap.objs.size := Heap.lt_size hz
        refine py_item2 S (draws_of (A := X.A.in1) (I.ok.hd hc) i1 p1 ne1 its1) (draws_of (A := X.A.in1) (I.ok.hd hc) i2 p2 ne2 its2) hz hTI hTO ⟨h1, q1⟩ ⟨h2, q2⟩ l1 l2 fun x1 x2 hA tk y1 y2 z2 TO2 n1 n2 hT hk => ?_
        obtain rfl : u1 = x1 := Option.some.inj (g1.symm.trans y1)
        obtain rfl : u2 = x2 := Option.some.inj (g2.symm.trans y2)
        refine ⟨_, rfl, go_zip (s := { s with heap := hA, toks := tk }) z2 fun hB z3 sb => ?_⟩
        replace sb : Heap.SameBut z hA hB := sb
        have hT2 : hB.get? s.heap.objs.size = some { cls := .type "tuple", data := .seq #[u1, u2] } := (sb.2 _ (Nat.ne_of_gt hzl)).trans hT
        have new : ObjOk X.prog X.w (upd H s.heap.objs.size (.tup [v1, v2])) hB s.heap.objs.size (.tup [v1, v2]) := ⟨by show 2 ≤ sizeLine; decide, [u1, u2], (.cons ru1 (.cons ru2 .nil)), ⟨_, hT2, rfl, _, rfl⟩⟩
        have I1 : Inv X pins σ (upd H s.heap.objs.size (.tup [v1, v2])) { s with heap := hB, toks := tk } := I.turnedNew (t' := tk) (ch := [z, TI, TO, i1, i2]) (fun c o hb q => (sb.2 c (fun q => hb (by simp [q]))).trans (hk c o (fun q => hb (by simp [q])) (fun q => hb (by simp [q])) (fun q => hb (by simp [q])) (fun q => hb (by simp [q])) q)) hf (Nat.le_refl _) new
        refine ⟨.ref s.heap.objs.size, _, I1, rfl, ⟨_, _, rfl, I.hok.fresh (Nat.le_refl _), rfl, (.cons (fun l hl => by rw [sq_inj I hl hq1]; exact hx1) (.cons (fun l hl => by rw [sq_inj I hl hq2]; exact hx2) .nil))⟩, ⟨z3, (sb.2 _ S.zTI.symm).trans (hk _ _ S.zTI.symm S.TOTI.symm S.I1 S.I2 hTI), ⟨u1, u2, (sb.2 _ S.zTO.symm).trans TO2⟩, (n1.1.at fun o q => (sb.2 _ (fun q => S.z1 (by rw [← q]; exact S.m1))).trans q), (n2.1.at fun o q => (sb.2 _ (fun q => S.z2 (by rw [← q]; exact S.m2))).trans q)⟩, fun c hcm => ?_⟩
        have hlt : c < s.heap.objs.size := by
          have e : c = z ∨ c = TI ∨ c = TO ∨ c = i1 ∨ c = i2 := by simpa using hcm
          rcases e with q | q | q | q | q
          · rw [q]; exact hzl
          · rw [q]; exact Heap.lt_size hTI
          · rw [q]; exact Heap.lt_size hTO
          · rw [q]; obtain ⟨_, e1, _⟩ := h1.obj; exact Heap.lt_size e1
          · rw [q]; obtain ⟨_, e1, _⟩ := h2.obj; exact Heap.lt_size e1
        rw [upd_ne (Nat.ne_of_lt hlt)]
        exact (hf c hcm).1
  done := by
    intro X hP hw hK hc i pins s σ H E I hf st hg
    subst hP hw hK
    obtain ⟨hz, hTI, ⟨a1, a2, hTO⟩, h1, h2⟩ := st
    obtain ⟨xs1, hq1, hx1⟩ := hg p1 (by simp)
    obtain ⟨its1, rv1, q1, _⟩ := sq_seq I hq1
    have l1 : its1.toArray.size = i := by have := rv1.length; simp; omega
    have D1 := draws_of (prog := X.prog) (w := X.w) (A := X.A.in1) (I.ok.hd hc) i1 p1 ne1 its1
    rw [l1] at D1
    obtain ⟨xs2, hq2, hx2⟩ := hg p2 (by simp)
    obtain ⟨its2, rv2, q2, _⟩ := sq_seq I hq2
    have l2 : its2.toArray.size = i := by have := rv2.length; simp; omega
    have D2 := draws_of (prog := X.prog) (w := X.w) (A := X.A.in1) (I.ok.hd hc) i2 p2 ne2 its2
    rw [l2] at D2
    exact py_end2 (I.ok.hd hc) S D1 D2 hz hTI hTO ⟨h1, q1⟩ ⟨h2, q2⟩ fun h2 hk => ⟨rfl, I.turnedL (t' := s.toks) (ch := [z, TI, TO, i1, i2]) (fun c o hb q => hk c o (fun q => hb (by simp [q])) (fun q => hb (by simp [q])) (fun q => hb (by simp [q])) (fun q => hb (by simp [q])) q) hf⟩
  self := fun A i s Q E st h => iter_zip st.1 h
theorem sep_new2 {M : Nat} {p1 p2 : Bool × Addr} (h1 : p1.2 < M) (h2 : p2.2 < M) : Sep2 (M + 4) (M + 2) (M + 3) M (M + 1) [M, p1.2] [M + 1, p2.2] where
  zTO := by show (M + 4 : Nat) ≠ M + 3; omega
  zTI := by show (M + 4 : Nat) ≠ M + 2; omega
  TOTI := by show (M + 3 : Nat) ≠ M + 2; omega
  m1 := by simp
  z1 := nin_new (a := p1.2) 4 0 h1 (by decide)
  T1 := nin_new (a := p1.2) 3 0 h1 (by decide)
  I1 := by show (M + 2 : Nat) ≠ M; omega
  s2_1 := nin_new (a := p1.2) 1 0 h1 (by decide)
  m2 := by simp
  z2 := nin_new (a := p2.2) 4 1 h2 (by decide)
  T2 := nin_new (a := p2.2) 3 1 h2 (by decide)
  I2 := by show (M + 2 : Nat) ≠ M + 1; omega
  s1_2 := nin_new (a := p2.2) 0 1 h2 (by decide)
theorem pi_z2s {X : Cx} {e1 e2 : Expr} {ta : TA} {p pos tpos : Pos} {elts : List Expr} {kk : Nat} {jj : Nat} {kp kp2 : Pos} {fl : List Bool} (hfl : fl.length = 2) (hg : Gl X "zip") (hm : X.mg "zip" = none) (ha : PA X [e1, e2] ta)
    (hs : starEach [e1, e2] X.env = (false, eval e1 X.env) :: starEach [e2] X.env := by rfl) (hpl : (backTo pos (starEach [e2] X.env)).any (·.1) = false := by rfl) :
    PI X (.Tuple elts kk tpos) (.Call (.Name "zip" p) [e1, e2] [⟨some "strict", .Constant (.bool true) jj kp, kp2⟩] pos) (iZ X.K fl ta) := by
  refine ⟨fun pins s σ H R I h => ?_⟩
  refine wpAny_Call_Name_kw (ld_blt I hg hm PyProof.Rows.boot_zip ?_)
  refine PySem.W.callWith_of (P := fun _ => True) ?_ (fun h _ => looks_ty "zip" True.intro) ?_
  · show ((backTo pos (starEach _ X.env)).any (·.1) || false) = false
    rw [hs, Bool.or_false]
    exact hpl
  have he : backTo pos (starEach [e1, e2] X.env) = (false, eval e1 X.env) :: backTo pos (starEach [e2] X.env) := by rw [hs]; rfl
  rw [he]
  refine PyProof.Rows.evalArgs_kwB rfl ?_
  rw [← he]
  refine thn (ha.run pos pins s σ H _ I h) fun us s0 ⟨vs, H1, I0, r1, q1⟩ => ?_
  refine PyProof.Rows.kws_cons (Constant_bool (PyProof.Rows.kws_nil ⟨True.intro, ?_⟩))
  have I1 := I0
  obtain ⟨l, ev, el, hl, q1⟩ := q1
  subst ev
  obtain ⟨b1, b2, rfl⟩ : ∃ b1 b2 : Bool, fl = [b1, b2] := match fl, hfl with | [_, _], _ => ⟨_, _, rfl⟩
  obtain ⟨c1, c2, rfl⟩ : ∃ c1 c2 : Addr, l = [c1, c2] := match l, el with | [_, _], _ => ⟨_, _, rfl⟩
  cases r1 with
  | cons r_1 rr1 =>
    cases r_1
    cases rr1 with
    | cons r_2 rr2 =>
      cases r_2
      cases rr2
      obtain ⟨xs1, hq1⟩ := hl (b1, c1) (by simp)
      obtain ⟨its1, rv1, g1, lt1⟩ := sq_seq I1 hq1
      obtain ⟨xs2, hq2⟩ := hl (b2, c2) (by simp)
      obtain ⟨its2, rv2, g2, lt2⟩ := sq_seq I1 hq2
      have frs : ∀ c, c ∈ [s0.heap.objs.size + 4, s0.heap.objs.size + 2, s0.heap.objs.size + 3, s0.heap.objs.size, s0.heap.objs.size + 1] → FpOk X pins H1 c := fun c hcm => by
        have e : c = s0.heap.objs.size + 4 ∨ c = s0.heap.objs.size + 2 ∨ c = s0.heap.objs.size + 3 ∨ c = s0.heap.objs.size ∨ c = s0.heap.objs.size + 1 := by simpa using hcm
        have hle : s0.heap.objs.size ≤ c := by
          rcases e with q | q | q | q | q
          · rw [q]; exact Nat.le_add_right _ _
          · rw [q]; exact Nat.le_add_right _ _
          · rw [q]; exact Nat.le_add_right _ _
          · rw [q]; exact Nat.le_refl _
          · rw [q]; exact Nat.le_add_right _ _
        exact I1.fpOk hle (I1.hok.fresh hle)
      refine begins_strict2 (begins_of (b1, c1) its1) (begins_of (b2, c2) its2) g1 g2 fun hA hz hTI hTO y1 y2 kk => iter_zip hz ?_
      have I2 : Inv X pins σ H1 { s0 with heap := hA } := I1.kept (t' := s0.toks) kk
      exact ⟨_, [s0.heap.objs.size + 4, s0.heap.objs.size + 2, s0.heap.objs.size + 3, s0.heap.objs.size, s0.heap.objs.size + 1], _, _, H1, rfl, I2, turn_z2 (sep_new2 lt1 lt2) (Nat.ne_of_lt lt1) (Nat.ne_of_lt (Nat.lt_of_lt_of_le lt2 (Nat.le_add_right _ 1))), ⟨hz, hTI, ⟨_, _, hTO⟩, SqIt.begin y1, SqIt.begin y2⟩, frs, q1⟩
theorem pi_z2 {X : Cx} {e1 e2 : Expr} {ta : TA} {p pos tpos : Pos} {elts : List Expr} {kk : Nat} {fl : List Bool} (hfl : fl.length = 2) (hg : Gl X "zip") (hm : X.mg "zip" = none) (ha : PA X [e1, e2] ta)
    (hs : starEach [e1, e2] X.env = (false, eval e1 X.env) :: starEach [e2] X.env := by rfl) (hpl : (backTo pos (starEach [e2] X.env)).any (·.1) = false := by rfl) :
    PI X (.Tuple elts kk tpos) (.Call (.Name "zip" p) [e1, e2] [] pos) (iZ X.K fl ta) := by
  refine ⟨fun pins s σ H R I h => ?_⟩
  refine Call_ (ld_blt I hg hm PyProof.Rows.boot_zip (PyProof.Rows.callWith_type1 (thn (ha.run pos pins s σ H _ I h) fun us s0 ⟨vs, H1, I1, r1, q1⟩ => ?_) hs hpl))
  obtain ⟨l, ev, el, hl, q1⟩ := q1
  subst ev
  obtain ⟨b1, b2, rfl⟩ : ∃ b1 b2 : Bool, fl = [b1, b2] := match fl, hfl with | [_, _], _ => ⟨_, _, rfl⟩
  obtain ⟨c1, c2, rfl⟩ : ∃ c1 c2 : Addr, l = [c1, c2] := match l, el with | [_, _], _ => ⟨_, _, rfl⟩
  cases r1 with
  | cons r_1 rr1 =>
    cases r_1
    cases rr1 with
    | cons r_2 rr2 =>
      cases r_2
      cases rr2
      obtain ⟨xs1, hq1⟩ := hl (b1, c1) (by simp)
      obtain ⟨its1, rv1, g1, lt1⟩ := sq_seq I1 hq1
      obtain ⟨xs2, hq2⟩ := hl (b2, c2) (by simp)
      obtain ⟨its2, rv2, g2, lt2⟩ := sq_seq I1 hq2
      have frs : ∀ c, c ∈ [s0.heap.objs.size + 4, s0.heap.objs.size + 2, s0.heap.objs.size + 3, s0.heap.objs.size, s0.heap.objs.size + 1] → FpOk X pins H1 c := fun c hcm => by
        have e : c = s0.heap.objs.size + 4 ∨ c = s0.heap.objs.size + 2 ∨ c = s0.heap.objs.size + 3 ∨ c = s0.heap.objs.size ∨ c = s0.heap.objs.size + 1 := by simpa using hcm
        have hle : s0.heap.objs.size ≤ c := by
          rcases e with q | q | q | q | q
          · rw [q]; exact Nat.le_add_right _ _
          · rw [q]; exact Nat.le_add_right _ _
          · rw [q]; exact Nat.le_add_right _ _
          · rw [q]; exact Nat.le_refl _
          · rw [q]; exact Nat.le_add_right _ _
        exact I1.fpOk hle (I1.hok.fresh hle)
      refine zip_begins2 (begins_of (b1, c1) its1) (begins_of (b2, c2) its2) g1 g2 fun hA hz hTI hTO y1 y2 _ kk => iter_zip (b := false) hz ?_
      have I2 : Inv X pins σ H1 { s0 with heap := hA } := I1.kept (t' := s0.toks) kk
      exact ⟨_, [s0.heap.objs.size + 4, s0.heap.objs.size + 2, s0.heap.objs.size + 3, s0.heap.objs.size, s0.heap.objs.size + 1], _, _, H1, rfl, I2, turn_z2 (sep_new2 lt1 lt2) (Nat.ne_of_lt lt1) (Nat.ne_of_lt (Nat.lt_of_lt_of_le lt2 (Nat.le_add_right _ 1))), ⟨hz, hTI, ⟨_, _, hTO⟩, SqIt.begin y1, SqIt.begin y2⟩, frs, q1⟩
theorem turn_z3 {P : Program} {w : World} {K : PySem.W.Frag} {elts : List Expr} {kk : Nat} {tpos : Pos} {z TI TO i1 i2 i3 : Addr} {p1 p2 p3 : Bool × Addr} {b : Bool} (S : Sep3 z TI TO i1 i2 i3 [i1, p1.2] [i2, p2.2] [i3, p3.2]) (ne1 : p1.2 ≠ i1) (ne2 : p2.2 ≠ i2) (ne3 : p3.2 ≠ i3) :
    Turn P w K (.Tuple elts kk tpos) (ItZ K [p1, p2, p3]) [z, TI, TO, i1, i2, i3] z (fun i h => ZipO h z TI TO .none b ∧ TupO h TI #[.ref i1, .ref i2, .ref i3] ∧ (∃ a1 a2 a3, TupO h TO #[a1, a2, a3]) ∧ SqIt h i1 p1 i ∧ SqIt h i2 p2 i ∧ SqIt h i3 p3 i) where
  mem := by simp
  obj := fun i h st c hc => by
    obtain ⟨hz, hTI, ⟨a1, a2, a3, hTO⟩, h1, h2, h3⟩ := st
    have e : c = z ∨ c = TI ∨ c = TO ∨ c = i1 ∨ c = i2 ∨ c = i3 := by simpa using hc
    rcases e with q | q | q | q | q | q
    · rw [q]; exact ⟨_, hz, fun v q => nomatch q⟩
    · rw [q]; exact ⟨_, hTI, fun v q => nomatch q⟩
    · rw [q]; exact ⟨_, hTO, fun v q => nomatch q⟩
    · rw [q]; exact h1.obj
    · rw [q]; exact h2.obj
    · rw [q]; exact h3.obj
  keep := fun i h h2 st k => by
    obtain ⟨hz, hTI, ⟨a1, a2, a3, hTO⟩, h1, h2, h3⟩ := st
    exact ⟨k z (by simp) _ hz, k TI (by simp) _ hTI, ⟨a1, a2, a3, k TO (by simp) _ hTO⟩, h1.at fun o q => k i1 (by simp) o q, h2.at fun o q => k i2 (by simp) o q, h3.at fun o q => k i3 (by simp) o q⟩
  item := by
    intro X hP hw hK hc i pins s σ H E I hf st hg
    subst hP hw hK
    obtain ⟨hz, hTI, ⟨a1, a2, a3, hTO⟩, h1, h2, h3⟩ := st
    obtain ⟨vs, hv⟩ := hg
    cases hv with
    | cons r1 hv1 =>
      rename_i v1 ws1
      obtain ⟨xs1, hq1, hx1⟩ := r1
      obtain ⟨its1, rv1, q1, _⟩ := sq_seq I hq1
      obtain ⟨u1, hu1, ru1⟩ := rv1.get hx1
      have g1 : its1.toArray[i]? = some u1 := by simpa using hu1
      have l1 : i < its1.toArray.size := by have := (List.getElem?_eq_some_iff.mp hu1).1; simpa using this
      cases hv1 with
      | cons r2 hv2 =>
        rename_i v2 ws2
        obtain ⟨xs2, hq2, hx2⟩ := r2
        obtain ⟨its2, rv2, q2, _⟩ := sq_seq I hq2
        obtain ⟨u2, hu2, ru2⟩ := rv2.get hx2
        have g2 : its2.toArray[i]? = some u2 := by simpa using hu2
        have l2 : i < its2.toArray.size := by have := (List.getElem?_eq_some_iff.mp hu2).1; simpa using this
        cases hv2 with
        | cons r3 hv3 =>
          rename_i v3 ws3
          obtain ⟨xs3, hq3, hx3⟩ := r3
          obtain ⟨its3, rv3, q3, _⟩ := sq_seq I hq3
          obtain ⟨u3, hu3, ru3⟩ := rv3.get hx3
          have g3 : its3.toArray[i]? = some u3 := by simpa using hu3
          have l3 : i < its3.toArray.size := by have := (List.getElem?_eq_some_iff.mp hu3).1; simpa using this
          cases hv3
          have hzl : z < s.heap.objs.size := Heap.lt_size hz
          refine py_item3 S (draws_of (A := X.A.in1) (I.ok.hd hc) i1 p1 ne1 its1) (draws_of (A := X.A.in1) (I.ok.hd hc) i2 p2 ne2 its2) (draws_of (A := X.A.in1) (I.ok.hd hc) i3 p3 ne3 its3) hz hTI hTO ⟨h1, q1⟩ ⟨h2, q2⟩ ⟨h3, q3⟩ l1 l2 l3 fun x1 x2 x3 hA tk y1 y2 y3 z2 TO2 n1 n2 n3 hT hk => ?_
          obtain rfl : u1 = x1 := Option.some.inj (g1.symm.trans y1)
          obtain rfl : u2 = x2 := Option.some.inj (g2.symm.trans y2)
          obtain rfl : u3 = x3 := Option.some.inj (g3.symm.trans y3)
          refine ⟨_, rfl, go_zip (s := { s with heap := hA, toks := tk }) z2 fun hB z3 sb => ?_⟩
          replace sb : Heap.SameBut z hA hB := sb
          have hT2 : hB.get? s.heap.objs.size = some { cls := .type "tuple", data := .seq #[u1, u2, u3] } := (sb.2 _ (Nat.ne_of_gt hzl)).trans hT
          have new : ObjOk X.prog X.w (upd H s.heap.objs.size (.tup [v1, v2, v3])) hB s.heap.objs.size (.tup [v1, v2, v3]) := ⟨by show 3 ≤ sizeLine; decide, [u1, u2, u3], (.cons ru1 (.cons ru2 (.cons ru3 .nil))), ⟨_, hT2, rfl, _, rfl⟩⟩
          have I1 : Inv X pins σ (upd H s.heap.objs.size (.tup [v1, v2, v3])) { s with heap := hB, toks := tk } := I.turnedNew (t' := tk) (ch := [z, TI, TO, i1, i2, i3]) (fun c o hb q => (sb.2 c (fun q => hb (by simp [q]))).trans (hk c o (fun q => hb (by simp [q])) (fun q => hb (by simp [q])) (fun q => hb (by simp [q])) (fun q => hb (by simp [q])) (fun q => hb (by simp [q])) q)) hf (Nat.le_refl _) new
          refine ⟨.ref s.heap.objs.size, _, I1, rfl, ⟨_, _, rfl, I.hok.fresh (Nat.le_refl _), rfl, (.cons (fun l hl => by rw [sq_inj I hl hq1]; exact hx1) (.cons (fun l hl => by rw [sq_inj I hl hq2]; exact hx2) (.cons (fun l hl => by rw [sq_inj I hl hq3]; exact hx3) .nil)))⟩, ⟨z3, (sb.2 _ S.zTI.symm).trans (hk _ _ S.zTI.symm S.TOTI.symm S.I1 S.I2 S.I3 hTI), ⟨u1, u2, u3, (sb.2 _ S.zTO.symm).trans TO2⟩, (n1.1.at fun o q => (sb.2 _ (fun q => S.z1 (by rw [← q]; exact S.m1))).trans q), (n2.1.at fun o q => (sb.2 _ (fun q => S.z2 (by rw [← q]; exact S.m2))).trans q), (n3.1.at fun o q => (sb.2 _ (fun q => S.z3 (by rw [← q]; exact S.m3))).trans q)⟩, fun c hcm => ?_⟩
          have hlt : c < s.heap.objs.size := by
            have e : c = z ∨ c = TI ∨ c = TO ∨ c = i1 ∨ c = i2 ∨ c = i3 := by simpa using hcm
            rcases e with q | q | q | q | q | q
            · rw [q]; exact hzl
            · rw [q]; exact Heap.lt_size hTI
            · rw [q]; exact Heap.lt_size hTO
            · rw [q]; obtain ⟨_, e1, _⟩ := h1.obj; exact Heap.lt_size e1
            · rw [q]; obtain ⟨_, e1, _⟩ := h2.obj; exact Heap.lt_size e1
            · rw [q]; obtain ⟨_, e1, _⟩ := h3.obj; exact Heap.lt_size e1
          rw [upd_ne (Nat.ne_of_lt hlt)]
          exact (hf c hcm).1
  done := by
    intro X hP hw hK hc i pins s σ H E I hf st hg
    subst hP hw hK
    obtain ⟨hz, hTI, ⟨a1, a2, a3, hTO⟩, h1, h2, h3⟩ := st
    obtain ⟨xs1, hq1, hx1⟩ := hg p1 (by simp)
    obtain ⟨its1, rv1, q1, _⟩ := sq_seq I hq1
    have l1 : its1.toArray.size = i := by have := rv1.length; simp; omega
    have D1 := draws_of (prog := X.prog) (w := X.w) (A := X.A.in1) (I.ok.hd hc) i1 p1 ne1 its1
    rw [l1] at D1
    obtain ⟨xs2, hq2, hx2⟩ := hg p2 (by simp)
    obtain ⟨its2, rv2, q2, _⟩ := sq_seq I hq2
    have l2 : its2.toArray.size = i := by have := rv2.length; simp; omega
    have D2 := draws_of (prog := X.prog) (w := X.w) (A := X.A.in1) (I.ok.hd hc) i2 p2 ne2 its2
    rw [l2] at D2
    obtain ⟨xs3, hq3, hx3⟩ := hg p3 (by simp)
    obtain ⟨its3, rv3, q3, _⟩ := sq_seq I hq3
    have l3 : its3.toArray.size = i := by have := rv3.length; simp; omega
    have D3 := draws_of (prog := X.prog) (w := X.w) (A := X.A.in1) (I.ok.hd hc) i3 p3 ne3 its3
    rw [l3] at D3
    exact py_end3 (I.ok.hd hc) S D1 D2 D3 hz hTI hTO ⟨h1, q1⟩ ⟨h2, q2⟩ ⟨h3, q3⟩ fun h2 hk => ⟨rfl, I.turnedL (t' := s.toks) (ch := [z, TI, TO, i1, i2, i3]) (fun c o hb q => hk c o (fun q => hb (by simp [q])) (fun q => hb (by simp [q])) (fun q => hb (by simp [q])) (fun q => hb (by simp [q])) (fun q => hb (by simp [q])) q) hf⟩
  self := fun A i s Q E st h => iter_zip st.1 h
theorem sep_new3 {M : Nat} {p1 p2 p3 : Bool × Addr} (h1 : p1.2 < M) (h2 : p2.2 < M) (h3 : p3.2 < M) : Sep3 (M + 5) (M + 3) (M + 4) M (M + 1) (M + 2) [M, p1.2] [M + 1, p2.2] [M + 2, p3.2] where
  zTO := by show (M + 5 : Nat) ≠ M + 4; omega
  zTI := by show (M + 5 : Nat) ≠ M + 3; omega
  TOTI := by show (M + 4 : Nat) ≠ M + 3; omega
  m1 := by simp
  z1 := nin_new (a := p1.2) 5 0 h1 (by decide)
  T1 := nin_new (a := p1.2) 4 0 h1 (by decide)
  I1 := by show (M + 3 : Nat) ≠ M; omega
  s2_1 := nin_new (a := p1.2) 1 0 h1 (by decide)
  s3_1 := nin_new (a := p1.2) 2 0 h1 (by decide)
  m2 := by simp
  z2 := nin_new (a := p2.2) 5 1 h2 (by decide)
  T2 := nin_new (a := p2.2) 4 1 h2 (by decide)
  I2 := by show (M + 3 : Nat) ≠ M + 1; omega
  s1_2 := nin_new (a := p2.2) 0 1 h2 (by decide)
  s3_2 := nin_new (a := p2.2) 2 1 h2 (by decide)
  m3 := by simp
  z3 := nin_new (a := p3.2) 5 2 h3 (by decide)
  T3 := nin_new (a := p3.2) 4 2 h3 (by decide)
  I3 := by show (M + 3 : Nat) ≠ M + 2; omega
  s1_3 := nin_new (a := p3.2) 0 2 h3 (by decide)
  s2_3 := nin_new (a := p3.2) 1 2 h3 (by decide)
theorem pi_z3s {X : Cx} {e1 e2 e3 : Expr} {ta : TA} {p pos tpos : Pos} {elts : List Expr} {kk : Nat} {jj : Nat} {kp kp2 : Pos} {fl : List Bool} (hfl : fl.length = 3) (hg : Gl X "zip") (hm : X.mg "zip" = none) (ha : PA X [e1, e2, e3] ta)
    (hs : starEach [e1, e2, e3] X.env = (false, eval e1 X.env) :: starEach [e2, e3] X.env := by rfl) (hpl : (backTo pos (starEach [e2, e3] X.env)).any (·.1) = false := by rfl) :
    PI X (.Tuple elts kk tpos) (.Call (.Name "zip" p) [e1, e2, e3] [⟨some "strict", .Constant (.bool true) jj kp, kp2⟩] pos) (iZ X.K fl ta) := by
  refine ⟨fun pins s σ H R I h => ?_⟩
  refine wpAny_Call_Name_kw (ld_blt I hg hm PyProof.Rows.boot_zip ?_)
  refine PySem.W.callWith_of (P := fun _ => True) ?_ (fun h _ => looks_ty "zip" True.intro) ?_
  · show ((backTo pos (starEach _ X.env)).any (·.1) || false) = false
    rw [hs, Bool.or_false]
    exact hpl
  have he : backTo pos (starEach [e1, e2, e3] X.env) = (false, eval e1 X.env) :: backTo pos (starEach [e2, e3] X.env) := by rw [hs]; rfl
  rw [he]
  refine PyProof.Rows.evalArgs_kwB rfl ?_
  rw [← he]
  refine thn (ha.run pos pins s σ H _ I h) fun us s0 ⟨vs, H1, I0, r1, q1⟩ => ?_
  refine PyProof.Rows.kws_cons (Constant_bool (PyProof.Rows.kws_nil ⟨True.intro, ?_⟩))
  have I1 := I0
  obtain ⟨l, ev, el, hl, q1⟩ := q1
  subst ev
  obtain ⟨b1, b2, b3, rfl⟩ : ∃ b1 b2 b3 : Bool, fl = [b1, b2, b3] := match fl, hfl with | [_, _, _], _ => ⟨_, _, _, rfl⟩
  obtain ⟨c1, c2, c3, rfl⟩ : ∃ c1 c2 c3 : Addr, l = [c1, c2, c3] := match l, el with | [_, _, _], _ => ⟨_, _, _, rfl⟩
  cases r1 with
  | cons r_1 rr1 =>
    cases r_1
    cases rr1 with
    | cons r_2 rr2 =>
      cases r_2
      cases rr2 with
      | cons r_3 rr3 =>
        cases r_3
        cases rr3
        obtain ⟨xs1, hq1⟩ := hl (b1, c1) (by simp)
        obtain ⟨its1, rv1, g1, lt1⟩ := sq_seq I1 hq1
        obtain ⟨xs2, hq2⟩ := hl (b2, c2) (by simp)
        obtain ⟨its2, rv2, g2, lt2⟩ := sq_seq I1 hq2
        obtain ⟨xs3, hq3⟩ := hl (b3, c3) (by simp)
        obtain ⟨its3, rv3, g3, lt3⟩ := sq_seq I1 hq3
        have frs : ∀ c, c ∈ [s0.heap.objs.size + 5, s0.heap.objs.size + 3, s0.heap.objs.size + 4, s0.heap.objs.size, s0.heap.objs.size + 1, s0.heap.objs.size + 2] → FpOk X pins H1 c := fun c hcm => by
          have e : c = s0.heap.objs.size + 5 ∨ c = s0.heap.objs.size + 3 ∨ c = s0.heap.objs.size + 4 ∨ c = s0.heap.objs.size ∨ c = s0.heap.objs.size + 1 ∨ c = s0.heap.objs.size + 2 := by simpa using hcm
          have hle : s0.heap.objs.size ≤ c := by
            rcases e with q | q | q | q | q | q
            · rw [q]; exact Nat.le_add_right _ _
            · rw [q]; exact Nat.le_add_right _ _
            · rw [q]; exact Nat.le_add_right _ _
            · rw [q]; exact Nat.le_refl _
            · rw [q]; exact Nat.le_add_right _ _
            · rw [q]; exact Nat.le_add_right _ _
          exact I1.fpOk hle (I1.hok.fresh hle)
        refine begins_strict3 (begins_of (b1, c1) its1) (begins_of (b2, c2) its2) (begins_of (b3, c3) its3) g1 g2 g3 fun hA hz hTI hTO y1 y2 y3 kk => iter_zip hz ?_
        have I2 : Inv X pins σ H1 { s0 with heap := hA } := I1.kept (t' := s0.toks) kk
        exact ⟨_, [s0.heap.objs.size + 5, s0.heap.objs.size + 3, s0.heap.objs.size + 4, s0.heap.objs.size, s0.heap.objs.size + 1, s0.heap.objs.size + 2], _, _, H1, rfl, I2, turn_z3 (sep_new3 lt1 lt2 lt3) (Nat.ne_of_lt lt1) (Nat.ne_of_lt (Nat.lt_of_lt_of_le lt2 (Nat.le_add_right _ 1))) (Nat.ne_of_lt (Nat.lt_of_lt_of_le lt3 (Nat.le_add_right _ 2))), ⟨hz, hTI, ⟨_, _, _, hTO⟩, SqIt.begin y1, SqIt.begin y2, SqIt.begin y3⟩, frs, q1⟩
theorem pi_z3 {X : Cx} {e1 e2 e3 : Expr} {ta : TA} {p pos tpos : Pos} {elts : List Expr} {kk : Nat} {fl : List Bool} (hfl : fl.length = 3) (hg : Gl X "zip") (hm : X.mg "zip" = none) (ha : PA X [e1, e2, e3] ta)
    (hs : starEach [e1, e2, e3] X.env = (false, eval e1 X.env) :: starEach [e2, e3] X.env := by rfl) (hpl : (backTo pos (starEach [e2, e3] X.env)).any (·.1) = false := by rfl) :
    PI X (.Tuple elts kk tpos) (.Call (.Name "zip" p) [e1, e2, e3] [] pos) (iZ X.K fl ta) := by
  refine ⟨fun pins s σ H R I h => ?_⟩
  refine Call_ (ld_blt I hg hm PyProof.Rows.boot_zip (PyProof.Rows.callWith_type1 (thn (ha.run pos pins s σ H _ I h) fun us s0 ⟨vs, H1, I1, r1, q1⟩ => ?_) hs hpl))
  obtain ⟨l, ev, el, hl, q1⟩ := q1
  subst ev
  obtain ⟨b1, b2, b3, rfl⟩ : ∃ b1 b2 b3 : Bool, fl = [b1, b2, b3] := match fl, hfl with | [_, _, _], _ => ⟨_, _, _, rfl⟩
  obtain ⟨c1, c2, c3, rfl⟩ : ∃ c1 c2 c3 : Addr, l = [c1, c2, c3] := match l, el with | [_, _, _], _ => ⟨_, _, _, rfl⟩
  cases r1 with
  | cons r_1 rr1 =>
    cases r_1
    cases rr1 with
    | cons r_2 rr2 =>
      cases r_2
      cases rr2 with
      | cons r_3 rr3 =>
        cases r_3
        cases rr3
        obtain ⟨xs1, hq1⟩ := hl (b1, c1) (by simp)
        obtain ⟨its1, rv1, g1, lt1⟩ := sq_seq I1 hq1
        obtain ⟨xs2, hq2⟩ := hl (b2, c2) (by simp)
        obtain ⟨its2, rv2, g2, lt2⟩ := sq_seq I1 hq2
        obtain ⟨xs3, hq3⟩ := hl (b3, c3) (by simp)
        obtain ⟨its3, rv3, g3, lt3⟩ := sq_seq I1 hq3
        have frs : ∀ c, c ∈ [s0.heap.objs.size + 5, s0.heap.objs.size + 3, s0.heap.objs.size + 4, s0.heap.objs.size, s0.heap.objs.size + 1, s0.heap.objs.size + 2] → FpOk X pins H1 c := fun c hcm => by
          have e : c = s0.heap.objs.size + 5 ∨ c = s0.heap.objs.size + 3 ∨ c = s0.heap.objs.size + 4 ∨ c = s0.heap.objs.size ∨ c = s0.heap.objs.size + 1 ∨ c = s0.heap.objs.size + 2 := by simpa using hcm
          have hle : s0.heap.objs.size ≤ c := by
            rcases e with q | q | q | q | q | q
            · rw [q]; exact Nat.le_add_right _ _
            · rw [q]; exact Nat.le_add_right _ _
            · rw [q]; exact Nat.le_add_right _ _
            · rw [q]; exact Nat.le_refl _
            · rw [q]; exact Nat.le_add_right _ _
            · rw [q]; exact Nat.le_add_right _ _
          exact I1.fpOk hle (I1.hok.fresh hle)
        refine zip_begins3 (begins_of (b1, c1) its1) (begins_of (b2, c2) its2) (begins_of (b3, c3) its3) g1 g2 g3 fun hA hz hTI hTO y1 y2 y3 _ kk => iter_zip (b := false) hz ?_
        have I2 : Inv X pins σ H1 { s0 with heap := hA } := I1.kept (t' := s0.toks) kk
        exact ⟨_, [s0.heap.objs.size + 5, s0.heap.objs.size + 3, s0.heap.objs.size + 4, s0.heap.objs.size, s0.heap.objs.size + 1, s0.heap.objs.size + 2], _, _, H1, rfl, I2, turn_z3 (sep_new3 lt1 lt2 lt3) (Nat.ne_of_lt lt1) (Nat.ne_of_lt (Nat.lt_of_lt_of_le lt2 (Nat.le_add_right _ 1))) (Nat.ne_of_lt (Nat.lt_of_lt_of_le lt3 (Nat.le_add_right _ 2))), ⟨hz, hTI, ⟨_, _, _, hTO⟩, SqIt.begin y1, SqIt.begin y2, SqIt.begin y3⟩, frs, q1⟩
end CZ

namespace CS
open PySem PySem.Spec PyProof.Rows L2
/-! ### rules beside the layer's -/
section
variable {X : Cx}
/-- a product, whatever the reason that it fits -/
theorem op_mulI : OpR X (binaryOp .Mult) (rI IntMulOk fun i j => .int (i * j)) := opI fun _ _ _ _ _ _ _ hc q => mul_int q hc
/-- list + list, however each is known -/
def rCatR (K : PySem.W.Frag) : R2 := fun x y H Q => ∃ l b xs zs, x = .ref l ∧ y = .ref b ∧ SqL K H l xs ∧ SqL K H b zs ∧ xs.length + zs.length ≤ sizeLine ∧ ∀ p, H p = none → Q (.ref p) (upd H p (.lst (xs ++ zs)))
theorem op_catR : OpR X (binaryOp .Add) (rCatR X.K) := by
  intro pins s σ H x y v u Q I rx ry h
  obtain ⟨l, b, xs, zs, rfl, rfl, hH, hB, hz, q⟩ := h
  cases rx
  cases ry
  obtain ⟨its, r, p1, _⟩ := I.list hH
  obtain ⟨its2, r2, p2, _⟩ := I.list hB
  obtain ⟨⟨cls, dd, data, sl⟩, ho, hc, n, hd⟩ := id p1.isList
  obtain ⟨⟨cls2, dd2, data2, sl2⟩, ho2, hc2, n2, hd2⟩ := id p2.isList
  simp only at hc hd hc2 hd2
  subst hc hd hc2 hd2
  have l1 := r.length
  have l2 := r2.length
  have ea : its.toArray ++ its2.toArray = (its ++ its2).toArray := by simp
  refine concat_meets ⟨_, ho, rfl⟩ ⟨_, ho2, rfl⟩ noFill_list_add seq_list_add PySem.F.slot_list_add PySem.F.entry_list_add (PySem.F.args_list_add_2 _ _) (list_addW l b its.toArray its2.toArray n n2 dd dd2 sl sl2 (by rw [List.size_toArray, List.size_toArray]; omega)) ⟨ho, ho2, ?_⟩
  rw [ea]
  exact ⟨.ref _, _, I.lnew (t' := s.toks) (r.append r2) (by rw [List.length_append]; omega), rfl, q _ I.fresh⟩
theorem pi_or {tg it : Expr} {w1 w2 : TI} (h1 : PI X tg it w1) (h2 : PI X tg it w2) : PI X tg it (fun σ H R => w1 σ H R ∨ w2 σ H R) :=
  ⟨fun pins s σ H R I h => h.elim (fun z => h1.run pins s σ H R I z) fun z => h2.run pins s σ H R I z⟩
end
/-! ### calls by keywords alone -/
def pick {α : Type} (js : List Nat) (l : List α) : List α := js.filterMap fun j => l[j]?
theorem vals_pick {xs : List V} {us : List Value} (r : Vals xs us) : ∀ js : List Nat, Vals (pick js xs) (pick js us)
  | [] => .nil
  | j :: js => by
    have ih := vals_pick r js
    unfold pick at ih ⊢
    cases e : xs[j]? with
    | none =>
      have e2 := r.none_of e
      rw [List.filterMap_cons_none (by rw [e]), List.filterMap_cons_none (by rw [e2])]
      exact ih
    | some x =>
      obtain ⟨u, e2, ru⟩ := r.get e
      rw [List.filterMap_cons_some (by rw [e]), List.filterMap_cons_some (by rw [e2])]
      exact .cons ru ih
theorem kbn_of {K : PySem.W.Frag} {x qual : Str} {st : Stmt} {f : Addr} {fd : FuncData} {ps : List Str} (F : Fun K x qual st f fd) (n : Nat) (ks : List Str) (js : List Nat)
    (h : ∀ (kV doc pm : Value) (an : Option Addr) (cdv ct : Value) (us ws : List Value), us.length = n → ws.length = ks.length → bindArgs (PySem.W.fnOf x qual (defArgs st) (defBody st) (defScope st) .none kV doc pm an cdv ct) ⟨us, ks.zip ws⟩ = pure (ps.zip (pick js (us ++ ws)))) :
    KBn K fd ps n ks (fun us ws => pick js (us ++ ws)) (fun vs zs => pick js (vs ++ zs)) := by
  obtain ⟨oc, od, kV, doc, pm, an, cdv, ct, osl, rfl, lk, hcd⟩ := F.ex
  exact ⟨fun s us ws _ h1 h2 => .of_eq (h kV doc pm an cdv ct us ws h1 h2), fun r1 r2 => vals_pick (r1.append r2) js⟩
section
variable {X : Cx} {CX : CXT} {k n : Nat} {f C : Addr} {fd : FuncData} {ps ks : List Str} {sp : Sp} {E : XK} {x m : Str} {p pos apos : Pos} {o : Expr} {kws : List Keyword} {ta : TE} {tk : TA} {g : List Value → List Value → List Value} {gV : List V → List V → List V}
theorem run_kw {pins : List (Addr × Obj)} {σ : L2.St} {H : Hp} {s : Shared} {Q : VK} {us ws : List Value} {vs zs : List V} (F : FnOk X.prog X.w X.K X.mg X.base CX k f fd ps sp) (hr : Room k X.A) (hb : KBn X.K fd ps n ks g gV) (hx : Passes CX X E)
    (I : Inv X pins σ H s) (r : Vals vs us) (rz : Vals zs ws) (l1 : vs.length = n) (l2 : zs.length = ks.length) (h : sp (gV vs zs) H Q E) : wpAny (model X.prog X.w) X.A (call (.ref f) us (ks.zip ws)) (EP X pins σ Q) X.xe s := by
  refine wpAny_call (codeAny_mono (F.run X.A X.stack s H ⟨us, ks.zip ws⟩ (g us ws) (gV vs zs) Q E hr I.env0 (hb.to s us ws I.kIn (r.length.symm.trans l1) (rz.length.symm.trans l2)) (hb.rel r rz) h) fun res s2 hq => ?_)
  cases res with
  | error e => exact hx pins σ H s e s2 I hq
  | ok fl =>
    cases fl with
    | ret u => exact I.after hq
    | next => exact False.elim hq
    | brk => exact False.elim hq
    | cont => exact False.elim hq
/-- f(k = v, ..) -/
def tCallKw (m : Nat) (sp : Sp) (gV : List V → List V → List V) (E : XK) (tk : TA) : TE := fun σ H Q => tk σ H fun zs H1 => zs.length = m ∧ sp (gV [] zs) H1 Q E
theorem pe_callKw (F : FnOk X.prog X.w X.K X.mg X.base CX k f fd ps sp) (hr : Room k X.A) (hg : Gl X x) (hm : X.mg x = some (.ref f)) (hk : PySem.W.keepIn X.K (.ref f) = true) (hb : KBn X.K fd ps 0 ks g gV) (hx : Passes CX X E) (hkw : PK X kws tk)
    (hall : (backToKw pos (keywordEach kws X.env)).all (·.1.isSome) = true := by rfl) (hks : (backToKw pos (keywordEach kws X.env)).filterMap (·.1) = ks := by rfl) (hdb : (x == ("__debug__" : Str)) = false := by decide)
    (hpl : ((backTo pos (starEach [] X.env)).any (·.1) || (backToKw pos (keywordEach kws X.env)).any (·.1.isNone)) = false := by rfl) :
    PE X (.Call (.Name x p) [] kws pos) (tCallKw ks.length sp gV E tk) := by
  refine ⟨fun pins s σ H Q I h => ?_⟩
  refine wpAny_Call_Name_kw (ld_glob I hg hm ?_ hdb)
  refine PySem.W.callWith_KW0 (h₀ := X.base) I.ok.mod.kin hk hall (thn (hkw.run pos pins s σ H _ I h) fun ws s2 ⟨zs, H2, I2, rz, l2, q2⟩ => ⟨I2.kIn, ?_⟩) hpl
  rw [hks]
  exact run_kw (us := []) (vs := []) F hr hb hx I2 .nil rz rfl l2 q2
/-- o.m(k = v, ..) -/
def tMethKw (C : Addr) (m : Str) (n : Nat) (sp : Sp) (gV : List V → List V → List V) (E : XK) (ta : TE) (tk : TA) : TE := fun σ H Q => ta σ H fun x H1 => ∃ a dx fs, x = .ref a ∧ H1 a = some (.ins C dx fs) ∧ fs.lookup m = none ∧
  tk σ H1 fun zs H2 => zs.length = n ∧ sp (gV [x] zs) H2 Q E
theorem pe_methKw {pl : Sem Bool} (he : PE X o ta) (c : Cls X.K C) (hm : Meth X.K C m f) (F : FnOk X.prog X.w X.K X.mg X.base CX k f fd ps sp) (hr : Room k X.A) (hb : KBn X.K fd ps 1 ks g gV) (hx : Passes CX X E) (hkw : PK X kws tk)
    (hall : (backToKw pos (keywordEach kws X.env)).all (·.1.isSome) = true := by rfl) (hks : (backToKw pos (keywordEach kws X.env)).filterMap (·.1) = ks := by rfl)
    (hpl : ((backTo pos (starEach [] X.env)).any (·.1) || (backToKw pos (keywordEach kws X.env)).any (·.1.isNone)) = false := by rfl)
    (ht : eval (.Call (.Attribute o m apos) [] kws pos) X.env = (do
      let ov ← eval o X.env
      standAt apos.atName
      let (f, first) ← holding [ov] (getMethod ov m pl)
      callWith pos f first (backTo pos (starEach [] X.env)) (backToKw pos (keywordEach kws X.env))) := by rfl) :
    PE X (.Call (.Attribute o m apos) [] kws pos) (tMethKw C m ks.length sp gV E ta tk) := by
  refine ⟨fun pins s σ H Q I h => ?_⟩
  refine PySem.W.methodCall_KW (pl := pl) (thn (he.run pins s σ H _ I h) fun u s1 ⟨x, H1, I1, rx, a, dx, fs, ex, ea, l, q⟩ => ?_) ht
  subst ex
  obtain rfl : u = Value.ref a := rx
  refine getmeth_ok I1 ea c hm l ?_
  refine PySem.W.callWith_KW0 (first := [.ref a]) (h₀ := X.base) I.ok.mod.kin hm.kp hall (thn (hkw.run pos pins s1 σ H1 _ I1 q) fun ws s2 ⟨zs, H2, I2, rz, l2, q2⟩ => ⟨I2.kIn, ?_⟩) hpl
  rw [hks]
  exact run_kw (us := [.ref a]) (vs := [.ref a]) F hr hb hx I2 (.cons rfl .nil) rz rfl l2 q2
end
/-! ### heaps that grow -/
abbrev Ex (H H2 : Hp) : Prop := Evl.Ex H H2
theorem exr {H : Hp} : Ex H H := fun _ _ h => h
theorem exn {H : Hp} {p : Addr} {o : HO} (h : H p = none) : Ex H (upd H p o) := Evl.Ex.new h
theorem SqK.mono {K : PySem.W.Frag} {H H2 : Hp} {p : Bool × Addr} {xs : List V} (e : Ex H H2) (h : CZ.SqK K H p xs) : CZ.SqK K H2 p xs := by
  obtain ⟨b, a⟩ := p
  cases b
  · exact Evl.ex_l e h
  · exact Evl.ex_t e h
/-- a comprehension whose element and tests leave all that stood: out i is what stands behind i turns -/
theorem lc_out {J : It} {n : Nat} {G : Hp → Prop} {Y : Nat → Hp → V → Hp → Prop} (w : Walk J n G Y) {g : TG} {tt : TT} {te : TE} {vs : List Nat} {σ : L2.St} {H1 : Hp} {D : Addr} {Qd : Hp → Prop} (out : Nat → List V) (h0 : out 0 = []) (hD : H1 D = none)
    (hlen : ∀ i, i < n → (out i).length < sizeLine) (hG : ∀ H, Ex H1 H → G H)
    (hs : ∀ i x H H2 (Nx : Hp → Prop), i < n → Ex H1 H → H D = some (.lst (out i)) → Y i H x H2 →
      (∀ y H5, Ex H H5 → out (i + 1) = out i ++ [y] → ∃ acc, H5 D = some (.lst acc) ∧ acc.length < sizeLine ∧ Nx (upd H5 D (.lst (acc ++ [y])))) → (∀ H4, Ex H H4 → out (i + 1) = out i → Nx H4) →
      g x (wipe σ vs) H2 fun σ2 H3 => wipe σ2 vs = wipe σ vs ∧ tt σ2 H3 fun b H4 => if b = true then te σ2 H4 fun y H5 => ∃ acc, H5 D = some (.lst acc) ∧ acc.length < sizeLine ∧ Nx (upd H5 D (.lst (acc ++ [y]))) else Nx H4)
    (hd : ∀ H, Ex H1 H → H D = some (.lst (out n)) → Qd H) :
    ∃ W : Nat → Nat → Hp → Prop, (∃ m, W 0 m (upd H1 D (.lst []))) ∧ ∀ i m H, W i m H →
      (J.stop i H ∧ Qd H) ∨ (J.go i H ∧ ∃ Nx : Hp → Prop, (∀ H2, Nx H2 → ∃ m2, m2 < m ∧ W (i + 1) m2 H2) ∧ ∀ x H2, J.yld i H x H2 → g x (wipe σ vs) H2 fun σ2 H3 => wipe σ2 vs = wipe σ vs ∧ tt σ2 H3 fun b H4 =>
        if b = true then te σ2 H4 fun y H5 => ∃ acc, H5 D = some (.lst acc) ∧ acc.length < sizeLine ∧ Nx (upd H5 D (.lst (acc ++ [y]))) else Nx H4) := by
  refine lc_it w (fun i H => Ex H1 H ∧ H D = some (.lst (out i))) ⟨exn hD, by rw [upd_same, h0]⟩ (fun i H _ p => hG H p.1) (fun i x H H2 hi p y => ?_) (fun H p => hd H p.1 p.2)
  refine hs i x H H2 _ hi p.1 p.2 y (fun y2 H5 e eo => ⟨out i, e D _ p.2, hlen i hi, fun b o q => ?_, by rw [upd_same, eo]⟩) (fun H4 e eo => ⟨fun b o q => e b o (p.1 b o q), by rw [eo]; exact e D _ p.2⟩)
  rw [upd_ne (ne_of_none q hD)]
  exact e b o (p.1 b o q)
/-- .. whose list is known: vals -/
theorem lc_vals {J : It} {n : Nat} {G : Hp → Prop} {Y : Nat → Hp → V → Hp → Prop} (w : Walk J n G Y) {g : TG} {te : TE} {vs : List Nat} {σ : L2.St} {H1 : Hp} {D : Addr} {Qd : Hp → Prop} (vals : List V) (hn : vals.length = n) (hl : n ≤ 10000000) (hD : H1 D = none)
    (hG : ∀ H, Ex H1 H → G H)
    (hs : ∀ i x H H2 (R : VK), i < n → Ex H1 H → Y i H x H2 → (∀ y H5, Ex H H5 → vals[i]? = some y → R y H5) → g x (wipe σ vs) H2 fun σ2 H3 => wipe σ2 vs = wipe σ vs ∧ te σ2 H3 R)
    (hg : ∀ x σ2 H2 (R R2 : L2.St → Hp → Prop), (∀ σ3 H3, R σ3 H3 → R2 σ3 H3) → g x σ2 H2 R → g x σ2 H2 R2)
    (hd : ∀ H, Ex H1 H → H D = some (.lst vals) → Qd H) :
    ∃ W : Nat → Nat → Hp → Prop, (∃ m, W 0 m (upd H1 D (.lst []))) ∧ ∀ i m H, W i m H →
      (J.stop i H ∧ Qd H) ∨ (J.go i H ∧ ∃ Nx : Hp → Prop, (∀ H2, Nx H2 → ∃ m2, m2 < m ∧ W (i + 1) m2 H2) ∧ ∀ x H2, J.yld i H x H2 → g x (wipe σ vs) H2 fun σ2 H3 => wipe σ2 vs = wipe σ vs ∧ tYes σ2 H3 fun b H4 =>
        if b = true then te σ2 H4 fun y H5 => ∃ acc, H5 D = some (.lst acc) ∧ acc.length < sizeLine ∧ Nx (upd H5 D (.lst (acc ++ [y]))) else Nx H4) := by
  refine lc_out w (fun i => vals.take i) rfl hD (fun i hi => ?_) hG (fun i x H H2 Nx hi e hDi y kA _ => ?_) (fun H e h => hd H e ?_)
  · rw [List.length_take]
    exact Nat.lt_of_le_of_lt (Nat.le_trans (Nat.min_le_right _ _) (by rw [hn]; exact hl)) (by decide)
  · refine hg _ _ _ _ _ (fun σ3 H3 q => ⟨q.1, ?_⟩) (hs i x H H2 (fun y H5 => ∃ acc, H5 D = some (.lst acc) ∧ acc.length < sizeLine ∧ Nx (upd H5 D (.lst (acc ++ [y])))) hi e y fun y2 H5 e5 ev => kA y2 H5 e5 ?_)
    · exact q.2
    · rw [List.take_add_one, ev]
      rfl
  · rw [h, List.take_of_length_le (by rw [hn]; exact Nat.le_refl _)]
theorem gmono_name {i : Nat} : ∀ x σ2 H2 (R R2 : L2.St → Hp → Prop), (∀ σ3 H3, R σ3 H3 → R2 σ3 H3) → gName i x σ2 H2 R → gName i x σ2 H2 R2 := fun _ _ _ _ _ h q => h _ _ q
theorem gmono_nil : ∀ vs σ2 H2 (R R2 : L2.St → Hp → Prop), (∀ σ3 H3, R σ3 H3 → R2 σ3 H3) → gNil vs σ2 H2 R → gNil vs σ2 H2 R2 := fun _ _ _ _ _ h q => ⟨q.1, h _ _ q.2⟩
theorem gmono_cons {t : TG} {u : TGs} (ht : ∀ x σ2 H2 (R R2 : L2.St → Hp → Prop), (∀ σ3 H3, R σ3 H3 → R2 σ3 H3) → t x σ2 H2 R → t x σ2 H2 R2) (hu : ∀ x σ2 H2 (R R2 : L2.St → Hp → Prop), (∀ σ3 H3, R σ3 H3 → R2 σ3 H3) → u x σ2 H2 R → u x σ2 H2 R2) :
    ∀ vs σ2 H2 (R R2 : L2.St → Hp → Prop), (∀ σ3 H3, R σ3 H3 → R2 σ3 H3) → gCons t u vs σ2 H2 R → gCons t u vs σ2 H2 R2 := fun vs σ2 H2 R R2 h q => by
  obtain ⟨v, r, e, q⟩ := q
  exact ⟨v, r, e, ht _ _ _ _ _ (fun σ3 H3 z => hu _ _ _ _ _ h z) q⟩
theorem gmono_tup {K : PySem.W.Frag} {n : Nat} {t : TGs} (ht : ∀ x σ2 H2 (R R2 : L2.St → Hp → Prop), (∀ σ3 H3, R σ3 H3 → R2 σ3 H3) → t x σ2 H2 R → t x σ2 H2 R2) :
    ∀ v σ2 H2 (R R2 : L2.St → Hp → Prop), (∀ σ3 H3, R σ3 H3 → R2 σ3 H3) → gTup K n t v σ2 H2 R → gTup K n t v σ2 H2 R2 := fun v σ2 H2 R R2 h q => by
  obtain ⟨a, xs, e, h1, h2, q⟩ := q
  exact ⟨a, xs, e, h1, h2, ht _ _ _ _ _ h q⟩
/-! ### a list or a tuple walked -/
def ItS (K : PySem.W.Frag) (p : Bool × Addr) : It := if p.1 = true then Itt K p.2 else Itl K p.2
def iSeq (K : PySem.W.Frag) (tl : TE) : TI := fun σ H R => tl σ H fun x H1 => ∃ p : Bool × Addr, x = .ref p.2 ∧ (∃ xs, CZ.SqK K H1 p xs) ∧ R (ItS K p) H1
theorem pi_seq {X : Cx} {tg l : Expr} {tl : TE} (hl : PE X l tl) : PI X tg l (iSeq X.K tl) := by
  refine ⟨fun pins s σ H R I h => ?_⟩
  refine thn (hl.run pins s σ H _ I h) fun v s1 ⟨x, H1, I1, r1, q1⟩ => ?_
  obtain ⟨⟨b, a⟩, ex, ⟨xs, hq⟩, q⟩ := q1
  subst ex
  cases r1
  obtain ⟨its, rv, g, lt⟩ := CZ.sq_seq I1 hq
  have fp : ∀ c ∈ [s1.heap.objs.size], FpOk X pins H1 c := fun c hc => by
    have e : c = s1.heap.objs.size := by simpa using hc
    rw [e]
    exact I1.fpOk (Nat.le_refl _) (I1.hok.fresh (Nat.le_refl _))
  refine (CZ.begins_of (b, a) its).iter _ _ _ _ s1 _ g ?_
  have I2 : Inv X pins σ H1 { s1 with heap := s1.heap.push (CZ.itO (b, a)) } := I1.kept (t' := s1.toks) fun c o e => Heap.get?_push_of_some _ e
  cases b
  · exact ⟨_, [s1.heap.objs.size], _, _, H1, rfl, I2, turn_list a _, ⟨_, Heap.get?_push_size _ rfl, rfl, rfl⟩, fp, q⟩
  · exact ⟨_, [s1.heap.objs.size], _, _, H1, rfl, I2, turn_tuple a _, ⟨_, Heap.get?_push_size _ rfl, rfl, rfl⟩, fp, q⟩
theorem walk_seq {K : PySem.W.Frag} {p : Bool × Addr} {xs : List V} : Walk (ItS K p) xs.length (fun H => CZ.SqK K H p xs) (YAt xs) := by
  obtain ⟨b, a⟩ := p
  cases b
  · exact walk_list
  · exact walk_tup
theorem itt {c : Bool} {A B : Prop} (h : c = true) (a : A) : if c = true then A else B := by rw [if_pos h]; exact a
theorem itf {c : Bool} {A B : Prop} (h : c = false) (b : B) : if c = true then A else B := by rw [h, if_neg Bool.false_ne_true]; exact b
theorem map_get {α : Type} {f : α → V} {l : List α} {i : Nat} {x : V} (h : (l.map f)[i]? = some x) : ∃ n, l[i]? = some n ∧ x = f n := by
  rw [List.getElem?_map] at h
  cases e : l[i]? with
  | none => rw [e] at h; cases h
  | some n => rw [e] at h; exact ⟨n, rfl, (Option.some.inj h).symm⟩
end CS

namespace CE
open PySem PySem.Spec PyProof.Rows L2 CZ
/-! ### enumerate over a list or a tuple -/
theorem enumO_new {v : Value} {oo : Obj} {Hq : Heap → Prop} (bg : Begins v oo Hq) :
    Meets (Builtin.«enumerate.__new__» ⟨[.type "enumerate", v], []⟩) (fun _ R t => Hq t.heap ∧
      R (.ok (.ret (.ref (t.heap.push oo).objs.size))) { t with heap := (t.heap.push oo).push { cls := .type "enumerate", data := .fields #[.none, .bool false, .ref t.heap.objs.size, rawInt 0, .none, .none] } }) :=
  .of_wp fun pg wo Ar R t hyp => by
    obtain ⟨hh, gg, dd, tt, oq⟩ := t
    obtain ⟨start, goal⟩ := hyp
    have es := PySem.sub_enumerate
    have go1 : ∀ {A2 : Around} {E2 : Value → Shared → Prop} {Q2 : Value → Shared → Prop}, Q2 (.ref hh.objs.size) ⟨hh.push oo, gg, dd, tt, oq⟩ → wpAny (model pg wo) A2 (pyIter v) Q2 E2 ⟨hh, gg, dd, tt, oq⟩ :=
      fun z => bg.iter pg wo _ _ ⟨hh, gg, dd, tt, oq⟩ _ start z
    wp_walk using go1
    refine wpAny_stack_any fun stk => wpAny_pure ?_
    split
    · rename_i cc _ _ _ _ _
      cases (cc == Value.type "enumerate")
      all_goals
        wp_walk using go1
        exact ⟨_, rfl, goal⟩
    · wp_walk using go1
      exact ⟨_, rfl, goal⟩
theorem enum_of {pg : Program} {wo : World} {Ar : Around} {Ex1 : Value → Shared → Prop} {t : Shared} {v : Value} {oo : Obj} {Hq : Heap → Prop} {Qe : Value → Shared → Prop} (bg : Begins v oo Hq) (start : Hq t.heap)
    (goal : ∀ hN, IsEnum hN (t.heap.objs.size + 1) t.heap.objs.size 0 .none → hN.get? t.heap.objs.size = some oo → (∀ c ob, t.heap.get? c = some ob → hN.get? c = some ob) → Qe (.ref (t.heap.objs.size + 1)) { t with heap := hN }) :
    wpAny (model pg wo) Ar (call (.type "enumerate") [v]) Qe Ex1 t := by
  refine callType_new F.called_enumerate (by decide) (F.typeCall_enumerate_1 _) (F.newCall_enumerate_1 _) (fun ob => F.args_object_init_2 ob _) F.entry_enumerate_new (enumO_new bg) ⟨start, ?_⟩
  have size1 : (t.heap.push oo).objs.size = t.heap.objs.size + 1 := Heap.size_push ..
  have isE : IsEnum ((t.heap.push oo).push { cls := .type "enumerate", data := .fields #[.none, .bool false, .ref t.heap.objs.size, rawInt 0, .none, .none] }) (t.heap.objs.size + 1) t.heap.objs.size 0 .none := by
    have at1 := Heap.get?_push_size (t.heap.push oo) (o := { cls := .type "enumerate", data := .fields #[.none, .bool false, .ref t.heap.objs.size, rawInt 0, .none, .none] }) rfl
    rw [size1] at at1
    exact at1
  show _ ∧ _
  rw [size1]
  exact ⟨⟨_, isE, rfl⟩, goal _ isE (Heap.get?_push_of_some _ (Heap.get?_push_size _ bg.free)) fun c ob z => Heap.get?_push_of_some _ (Heap.get?_push_of_some _ z)⟩
/-- what stands at p, each item in a new pair -/
def ItE (K : PySem.W.Frag) (p : Bool × Addr) : It :=
  ⟨fun i H => ∃ (xs : List V) (x : V), SqK K H p xs ∧ xs[i]? = some x, fun i H v H2 => ∃ T x, v = .ref T ∧ H T = none ∧ H2 = upd H T (.tup [.int (i : Nat), x]) ∧ ∀ xs, SqK K H p xs → xs[i]? = some x, fun i H => ∃ xs : List V, SqK K H p xs ∧ xs.length = i⟩
theorem turn_e {P : Program} {w : World} {K : PySem.W.Frag} {elts : List Expr} {kk : Nat} {tpos : Pos} {en it : Addr} {p : Bool × Addr} (n1 : p.2 ≠ it) (n2 : en ≠ it) (n3 : en ≠ p.2) :
    Turn P w K (.Tuple elts kk tpos) (ItE K p) [en, it] en (fun i h => (∃ old, IsEnum h en it ((i : Nat) : Int) old) ∧ SqIt h it p i) where
  mem := by simp
  obj := fun i h st c hc => by
    obtain ⟨⟨old, ie⟩, si⟩ := st
    have e : c = en ∨ c = it := by simpa using hc
    rcases e with q | q
    · rw [q]; exact ⟨_, ie, fun v q => nomatch q⟩
    · rw [q]; exact si.obj
  keep := fun i h h2 st k => by
    obtain ⟨⟨old, ie⟩, si⟩ := st
    exact ⟨⟨old, k en (by simp) _ ie⟩, si.at fun o q => k it (by simp) o q⟩
  item := by
    intro X hP hw hK hc i pins s σ H E I hf st hg
    subst hP hw hK
    obtain ⟨⟨old, ie⟩, si⟩ := st
    obtain ⟨xs, x, hq, hx⟩ := hg
    obtain ⟨its, rv, sq, _⟩ := sq_seq I hq
    obtain ⟨u, hu, ru⟩ := rv.get hx
    have gu : its.toArray[i]? = some u := by simpa using hu
    have lu : i < its.toArray.size := by
      have := (List.getElem?_eq_some_iff.mp hu).1
      simpa using this
    have enl : en < s.heap.objs.size := Heap.lt_size ie
    have itl : it < s.heap.objs.size := by
      obtain ⟨_, q, _⟩ := si.obj
      exact Heap.lt_size q
    refine PySem.wpAny_pyNext_enum_itemD (draws_of (A := X.A.in1) (I.ok.hd hc) it p n1 its) ie ⟨si, sq⟩ lu n2 (by simp [n2, n3]) fun x1 hA tk hx1 out ⟨si2, _⟩ hT hsz hk => ?_
    obtain rfl : u = x1 := Option.some.inj (gu.symm.trans hx1)
    refine ⟨_, rfl, wpAny_letOwnedTupleGo_enum (s := { s with heap := hA, toks := tk + 1 }) out fun hB isB sb => ?_⟩
    replace sb : Heap.SameBut en hA hB := sb
    have hT2 : hB.get? s.heap.objs.size = some { cls := .type "tuple", data := .seq #[.int i tk, u] } := (sb.2 _ (Nat.ne_of_gt enl)).trans hT
    have made : ObjOk X.prog X.w (upd H s.heap.objs.size (.tup [.int (i : Nat), x])) hB s.heap.objs.size (.tup [.int (i : Nat), x]) := ⟨by show 2 ≤ sizeLine; decide, [.int i tk, u], .cons ⟨_, rfl⟩ (.cons ru .nil), ⟨_, hT2, rfl, _, rfl⟩⟩
    have I1 : Inv X pins σ (upd H s.heap.objs.size (.tup [.int (i : Nat), x])) { s with heap := hB, toks := tk + 1 } :=
      I.turnedNew (t' := tk + 1) (ch := [en, it]) (fun c ob hb q => (sb.2 c (fun z => hb (by simp [z]))).trans (hk c ob (fun z => hb (by simp [z])) (fun z => hb (by simp [z])) q)) hf (Nat.le_refl _) made
    refine ⟨.ref s.heap.objs.size, _, I1, rfl, ⟨_, x, rfl, I.hok.fresh (Nat.le_refl _), rfl, fun ys hy => by rw [sq_inj I hy hq]; exact hx⟩, ⟨⟨u, ?_⟩, si2.at fun o q => (sb.2 it n2.symm).trans q⟩, fun c hcm => ?_⟩
    · have next : ((i + 1 : Nat) : Int) = (i : Int) + 1 := by omega
      rw [next]
      exact isB
    · have small : c < s.heap.objs.size := by
        have e : c = en ∨ c = it := by simpa using hcm
        rcases e with q | q
        · rw [q]; exact enl
        · rw [q]; exact itl
      rw [upd_ne (Nat.ne_of_lt small)]
      exact (hf c hcm).1
  done := by
    intro X hP hw hK hc i pins s σ H E I hf st hg
    subst hP hw hK
    obtain ⟨⟨old, ie⟩, si⟩ := st
    obtain ⟨xs, hq, hx⟩ := hg
    obtain ⟨its, rv, sq, _⟩ := sq_seq I hq
    have li : its.toArray.size = i := by
      have := rv.length
      simp
      omega
    have dr := draws_of (prog := X.prog) (w := X.w) (A := X.A.in1) (I.ok.hd hc) it p n1 its
    rw [li] at dr
    exact PySem.wpAny_pyNext_enum_endD dr ie ⟨si, sq⟩ fun hA eb => ⟨rfl, I.turnedL (t' := s.toks) (ch := [en, it]) (fun c ob hb q => eb c ob (fun z => hb (by simp [z])) q) hf⟩
  self := fun A i s Q E st h => let ⟨⟨_, ie⟩, _⟩ := st; wpAny_pyIter_enum ie h
theorem walk_e {K : PySem.W.Frag} {p : Bool × Addr} {xs : List V} : Walk (ItE K p) xs.length (fun H => SqK K H p xs) (YPair (fun i => some (.int (i : Nat))) (fun i => xs[i]?)) :=
  ⟨fun i _ hi q => ⟨xs, xs[i], q, by simp [hi]⟩, fun _ q => ⟨xs, q, rfl⟩, fun i H v H2 _ q y => by
    obtain ⟨T, x, h1, h2, h3, h4⟩ := y
    exact ⟨T, _, x, h1, h2, h3, rfl, h4 xs q⟩⟩
/-- enumerate(e), e a list or a tuple -/
def iE (K : PySem.W.Frag) (ta : TA) : TI := fun σ H R => ta σ H fun vs H1 => ∃ p : Bool × Addr, vs = [.ref p.2] ∧ (∃ xs, SqK K H1 p xs) ∧ R (ItE K p) H1
theorem pi_e {X : Cx} {e : Expr} {ta : TA} {po pos tpos : Pos} {elts : List Expr} {kk : Nat} (hg : Gl X "enumerate") (hm : X.mg "enumerate" = none) (ha : PA X [e] ta) (hs : starEach [e] X.env = [(false, eval e X.env)] := by rfl) :
    PI X (.Tuple elts kk tpos) (.Call (.Name "enumerate" po) [e] [] pos) (iE X.K ta) := by
  refine ⟨fun pins s σ H R I h => ?_⟩
  refine Call_ (ld_blt I hg hm boot_enumerate (PyProof.Rows.callWith_type1 (thn (ha.run pos pins s σ H _ I h) fun us s0 ⟨vs, H1, I1, r1, q1⟩ => ?_) hs rfl))
  obtain ⟨p, ev, ⟨xs, hq⟩, q1⟩ := q1
  subst ev
  cases r1 with
  | cons r rr =>
    cases rr
    cases r
    obtain ⟨its, rv, sq, lt⟩ := sq_seq I1 hq
    refine enum_of (begins_of p its) sq fun hN ie io kk2 => wpAny_pyIter_enum ie ?_
    have I2 : Inv X pins σ H1 { s0 with heap := hN } := I1.kept (t' := s0.toks) kk2
    refine ⟨s0.heap.objs.size + 1, [s0.heap.objs.size + 1, s0.heap.objs.size], _, _, H1, rfl, I2, turn_e (Nat.ne_of_lt lt) (Nat.succ_ne_self _) (Nat.ne_of_gt (Nat.lt_succ_of_lt lt)), ⟨⟨.none, ie⟩, SqIt.begin io⟩, fun c hc => ?_, q1⟩
    have le : s0.heap.objs.size ≤ c := by
      have e : c = s0.heap.objs.size + 1 ∨ c = s0.heap.objs.size := by simpa using hc
      rcases e with z | z
      · rw [z]; exact Nat.le_add_right _ _
      · rw [z]; exact Nat.le_refl _
    exact I1.fpOk le (I1.hok.fresh le)
end CE

namespace CL
open PySem PySem.Spec PyProof.Rows L2
/-! ### set(l) of a list of ints -/
section
variable {pg : Program} {wo : World} {Ar : Around} {Ee : Value → Shared → Prop} {t : Shared}
set_option maxRecDepth 100000 in
set_option maxHeartbeats 3200000 in
theorem set_of_list {l : Addr} {its : Array Value} (ns : List Int) {Qe : Value → Shared → Prop} (calm : Ar.handled = none) (isl : t.heap.IsList l its) (intsA : IntsAre its.toList ns) (few : ns.length + 1 < scanBound)
    (goal : ∀ (hN : Heap) (k c : Nat), SetR wo hN t.heap.objs.size (fun j => decide (j ∈ ns)) c → c ≤ ns.length → (∀ b ob, t.heap.get? b = some ob → hN.get? b = some ob) → Qe (.ref t.heap.objs.size) { t with heap := hN, toks := k }) :
    wpAny (model pg wo) Ar (call (.type "set") [.ref l]) Qe Ee t := by
  have len : its.size = ns.length := by
    have z := IntsAre.length intsA
    rw [Array.length_toList] at z
    exact z
  obtain ⟨cc, tail, mro⟩ := PySem.F.called_set.mro
  have made := PySem.F.called_set.made
  have sub := PySem.F.called_set.sub
  refine wpAny_call (codeAny_of_tree ?_)
  show wpAny _ _ (callAny (.type "set") _) _ _ _
  refine wpAny_pure ⟨Code.quiet_builtin _ (by decide +kernel), codeAny_builtin PySem.F.entry_type_call ?_⟩
  rw [Around.under_plain (weight_type_call_type "set" [.ref l] []) rfl]
  have noType := PySem.F.called_set.notType
  have creates := PySem.F.called_set.canCreate
  have checked := PySem.F.typeCall_set_1 (.ref l)
  repeat (any_goals (first | assumption | wp_step))
  refine codeAny_mono (code_set_led1 (.ref l) (E := Ee) (Q₁ := fun ob t1 => ob = .ref t.heap.objs.size ∧ t1 = { t with heap := t.heap.push { cls := .type "set", dict := none, data := .set #[] 0 (.fresh 0 0 (!wo.params.followText "set-order")) } }) ⟨rfl, rfl⟩) fun r t1 hr => ?_
  cases r with
  | error e => exact hr
  | ok fl =>
    cases fl with
    | ret ob =>
      obtain ⟨rfl, rfl⟩ := hr
      have hS : (t.heap.push { cls := .type "set", dict := none, data := .set #[] 0 (.fresh 0 0 (!wo.params.followText "set-order")) }).get? t.heap.objs.size = some { cls := .type "set", dict := none, data := .set #[] 0 (.fresh 0 0 (!wo.params.followText "set-order")) } := Heap.get?_push_size _ rfl
      have tS : Shared.TypeIs { t with heap := t.heap.push { cls := .type "set", dict := none, data := .set #[] 0 (.fresh 0 0 (!wo.params.followText "set-order")) } } (.ref t.heap.objs.size) "set" := ⟨_, hS, rfl⟩
      have ini := PySem.F.called_set.init.lookup
      have bnd := PySem.F.called_set.init.bind (.ref t.heap.objs.size)
      repeat (any_goals (first | assumption | wp_step))
      refine codeAny_mono (codeAny_call_builtin (R := wants (fun r t2 => r = .none ∧ ∃ hN k c, t2 = { t with heap := hN, toks := k } ∧ SetR wo hN t.heap.objs.size (fun j => decide (j ∈ ns)) c ∧ c ≤ ns.length ∧
          (∀ b ob, t.heap.get? b = some ob → hN.get? b = some ob)) Ee) PySem.F.called_set.init.plain PySem.F.entry_set_init (check_set_init_1 tS ?_)) fun r2 t2 hr2 => ?_
      · obtain ⟨ol, hol, hcl, nl, hdl⟩ := id isl
        obtain ⟨ocls, odict, odata, oslots⟩ := ol
        simp only at hcl hdl
        subst hcl
        subst hdl
        have hol2 : (t.heap.push { cls := .type "set", dict := none, data := .set #[] 0 (.fresh 0 0 (!wo.params.followText "set-order")) }).get? l = some { cls := .type "list", dict := odict, data := .seq its nl, slots := oslots } := Heap.get?_push_of_some _ hol
        have s1 := PySem.F.sub_list_set
        have s2 := PySem.F.sub_list_frozenset
        have nd : (Value.type "list" == Value.type "dict") = false := by decide
        have isl2 : (t.heap.push { cls := .type "set", dict := none, data := .set #[] 0 (.fresh 0 0 (!wo.params.followText "set-order")) }).IsList l its := ⟨_, hol2, rfl, nl, rfl⟩
        unfold Builtin.«set.__init__» noKeywords Builtin.Frozenset.updateFrom
        generalize hPI : pyIter = PIt
        wp_walk
        subst hPI
        refine wpAny_pyIter_list isl2 ?_
        refine wpAny_bind (wpAny_runValue ?_)
        have lS : l < t.heap.objs.size := Heap.lt_size hol
        have calm3 : Ar.in1.in1.in1.handled = none := by simp [calm]
        have neI : l ≠ (t.heap.push { cls := .type "set", dict := none, data := .set #[] 0 (.fresh 0 0 (!wo.params.followText "set-order")) }).objs.size := by
          rw [Heap.size_push]
          exact Nat.ne_of_lt (Nat.lt_succ_of_lt lS)
        have notF : t.heap.objs.size ∉ [(t.heap.push { cls := .type "set", dict := none, data := .set #[] 0 (.fresh 0 0 (!wo.params.followText "set-order")) }).objs.size, l] := by
          rw [Heap.size_push]
          simp only [List.mem_cons, List.not_mem_nil, or_false, not_or]
          exact ⟨Nat.ne_of_lt (Nat.lt_succ_self _), Nat.ne_of_gt lS⟩
        have vals : ∀ (i : Nat) (v : Value), its[i]? = some v → ∃ k u, ns[i]? = some k ∧ v = .int k u := fun i v hv => by
          have hi : i < ns.length := by
            rw [← len]
            exact (Array.getElem?_eq_some_iff.mp hv).1
          obtain ⟨u, e⟩ := PyProof.Rows.IntsAre.int_at intsA i v (by rw [Array.getElem?_toList]; exact hv)
          refine ⟨ns[i], u, List.getElem?_eq_getElem hi, ?_⟩
          rw [e, List.getD_eq_getElem?_getD, List.getElem?_eq_getElem hi] <;> rfl
        refine set_update_ints ((Walks.list calm3 _ l neI its).toS) t.heap.objs.size notF ns len few vals (its.size - 0) 0 _ (by omega) (Nat.zero_le _) ⟨⟨_, Heap.get?_push_size _ rfl, rfl, rfl⟩, (isl2.push _)⟩ ?first ?last
        case first =>
          exact ⟨0, Nat.le_refl 0, setR_new_at (Heap.get?_push_of_some _ hS)⟩
        case last =>
          intro t3 c3 mv hc3 hS3
          obtain ⟨hN, g3, d3, k3, os3⟩ := t3
          obtain rfl : g3 = t.gens := mv.gens
          obtain rfl : d3 = t.drawn := mv.drawn
          obtain rfl : os3 = t.os := mv.os
          show wpAny _ _ _ _ _ _
          refine wpAny_pure ?_
          show wpAny _ _ (ret Value.none) _ _ _
          rw [len] at hc3
          refine wpAny_pure ⟨rfl, hN, k3, c3, rfl, hS3, hc3, fun b ob e => ?_⟩
          have b0 : b < t.heap.objs.size := Heap.lt_size e
          have b2 : b ≠ (t.heap.push { cls := .type "set", dict := none, data := .set #[] 0 (.fresh 0 0 (!wo.params.followText "set-order")) }).objs.size := by
            rw [Heap.size_push]
            exact Nat.ne_of_lt (Nat.lt_succ_of_lt b0)
          exact mv.heap b ob (by simp only [List.mem_cons, List.not_mem_nil, or_false, not_or]; exact ⟨Nat.ne_of_lt b0, b2⟩) (Heap.get?_push_of_some _ (Heap.get?_push_of_some _ e))
      · cases r2 with
        | error e => exact hr2
        | ok fl2 =>
          cases fl2 with
          | ret r =>
            obtain ⟨rfl, hN, k, c2, rfl, hS2, hc2, hk2⟩ := hr2
            repeat (any_goals (first | assumption | wp_step))
            exact goal _ _ _ hS2 hc2 hk2
          | _ => exact hr2.elim
    | _ => exact hr.elim
end
/-- set(l), l a list of ints -/
def rSetI (K : PySem.W.Frag) (w : World) : List V → Hp → VK → Prop := fun vs H Q => ∃ (a : Addr) (ns : List Int), vs = [V.ref a] ∧ SqL K H a (ns.map V.int) ∧ ns.length + 1 < scanBound ∧ ∀ p c, H p = none → c ≤ ns.length → Q (.ref p) (upd H p (SetO w p (fun j => decide (j ∈ ns)) c))
theorem call_setI {X : Cx} (hc : X.calm = true) : CallR X (.type "set") (rSetI X.K X.w) := by
  intro pins s σ H vs us Q I r h
  obtain ⟨a, ns, rfl, hl, few, q⟩ := h
  rw [Vals.ref1 r]
  obtain ⟨its, rv, pl, _⟩ := I.list hl
  refine set_of_list ns (I.ok.hd hc) pl.isList (by rw [List.toList_toArray]; exact intsAre_of rv) few fun hN k c new hcl keep => ?_
  exact ⟨.ref _, upd H s.heap.objs.size (SetO X.w s.heap.objs.size (fun j => decide (j ∈ ns)) c), I.laid (t' := k) keep (Nat.le_refl _) (setO_new new), rfl, q _ c (I.hok.fresh (Nat.le_refl _)) hcl⟩
end CL

namespace CS
open PySem PySem.Spec PyProof.Rows L2
/-! ### more rules beside the layer's -/
section
variable {X : Cx}
/-- o.f as a target -/
def gFld (K : PySem.W.Frag) (to : TE) (f : Str) : TG := fun v σ H Q => to σ H fun x H1 => ∃ a C dx fs, x = .ref a ∧ H1 a = some (.ins C dx fs) ∧ Cls K C ∧ NoAttr K C f ∧ fs.length < 1000 ∧ Q σ (upd H1 a (.ins C dx (putF f v fs)))
theorem pg_fld {o : Expr} {f : Str} {pos : Pos} {to : TE} (ho : PE X o to) : PG X (.Attribute o f pos) (gFld X.K to f) := by
  refine ⟨fun pins s σ H v u Q I r h => ?_⟩
  rw [assign_Attribute]
  refine wpAny_bind (wpAny_holding (thn (ho.run pins s σ H _ I h) fun ov s1 ⟨x, H1, I1, r1, a, C, dx, fs, ex, ea, c, n, l, q⟩ => ?_))
  subst ex
  obtain rfl : ov = Value.ref a := r1
  refine wpAny_bind (wpAny_standAt (wpAny_bind (wpAny_holding (setattr_ok I1 ea c n l r fun s3 I3 => ?_))))
  exact wpAny_release ⟨σ, _, I3, q⟩
theorem pe_fldK {e : Expr} {f : Str} {pos : Pos} {ta : TE} (K : PySem.W.Frag) (hk : X.K = K) (he : PE X e ta) (hb : attributeBase e f X.env (eval e X.env) = eval e X.env) : PE X (.Attribute e f pos) (tFld K ta f) := by
  subst hk
  exact pe_fld he hb
def rLenQ (K : PySem.W.Frag) : List V → Hp → VK → Prop := fun xs H Q => ∃ p ys, xs = [.ref p] ∧ (SqL K H p ys ∨ SqT K H p ys) ∧ Q (.int ys.length) H
def rListQ (K : PySem.W.Frag) : List V → Hp → VK → Prop := fun xs H Q => ∃ p ys, xs = [.ref p] ∧ (SqL K H p ys ∨ SqT K H p ys) ∧ ∀ l, H l = none → Q (.ref l) (upd H l (.lst ys))
def rTupleQ (K : PySem.W.Frag) : List V → Hp → VK → Prop := fun xs H Q => ∃ p ys, xs = [.ref p] ∧ ((SqL K H p ys ∧ ∀ l, H l = none → Q (.ref l) (upd H l (.tup ys))) ∨ (SqT K H p ys ∧ Q (.ref p) H))
/-- // by a divisor of either sign -/
def CDivNW (_ j : Int) : Prop := j ≠ 0 ∧ j.natAbs.log2 < 9000
theorem op_fdivNW : OpR X (binaryOp .FloorDiv) (rI CDivNW fun i j => .int (i.fdiv j)) := opI fun _ _ _ _ _ _ _ hc q => floordiv_int hc.1 q (.inl (PyProof.noPylong_of_log2 hc.2))
theorem wide_divN {i j : Int} {b : Nat} (h : j ≠ 0) (hb : j.natAbs < 2 ^ b) (h0 : 0 < b) (h9 : b ≤ 9000) : CDivNW i j := ⟨h, Nat.lt_of_lt_of_le (PySem.Flt.log2_lt_of h0 hb) h9⟩
theorem kit_self {K : PySem.W.Frag} {C : Addr} : PySem.W.kitOne K (.ref C) (.ref C) = some true := by
  unfold PySem.W.kitOne
  rw [if_pos (by simp)]
theorem pe_revLK {e : Expr} {te : TE} {k : Nat} {p1 p2 p3 pos : Pos} (K : PySem.W.Frag) (hk : X.K = K) (he : PE X e te) : PE X (.Subscript e (.Slice none none (some (.UnaryOp .USub (.Constant (.int 1) k p1) p2)) p3) pos) (tRevL K te) := by
  subst hk
  exact pe_revL he
/-- x in s, a list or a tuple of data -/
def rInQ (K : PySem.W.Frag) : R2 := fun x y H Q => ∃ d ds, Dp K H x d ∧ (Dp K H y (.list ds) ∨ Dp K H y (.tuple ds)) ∧ SeqAt.shaped d = true ∧ SeqAt.shaped (.list ds) = true ∧ Q (.bl (ds.any fun z => PyData.eqv z d)) H
def rNotInQ (K : PySem.W.Frag) : R2 := fun x y H Q => ∃ d ds, Dp K H x d ∧ (Dp K H y (.list ds) ∨ Dp K H y (.tuple ds)) ∧ SeqAt.shaped d = true ∧ SeqAt.shaped (.list ds) = true ∧ Q (.bl (!ds.any fun z => PyData.eqv z d)) H
theorem op_inQ (hu : X.A.units + 65 < cLine) : OpR X (compareOp .In) (rInQ X.K) := by
  intro pins s σ H x y v u Q I rx ry h
  obtain ⟨d, ds, hd, he, sd, se, q⟩ := h
  obtain ⟨as, r1⟩ := Dp.reads I d x v hd rx
  rcases he with he | he
  · obtain ⟨bs, r2⟩ := Dp.reads I (.list ds) y u he ry
    exact SeqAt.in_list_reads r2 r1 (SeqAt.canLay_of_shaped se) (SeqAt.canLay_of_shaped sd) (room_in_shaped sd hu) ⟨.bl _, H, I, rfl, q⟩
  · obtain ⟨bs, r2⟩ := Dp.reads I (.tuple ds) y u he ry
    exact SeqAt.in_tuple_reads r2 r1 (SeqAt.canLay_of_shaped se) (SeqAt.canLay_of_shaped sd) (room_in_shaped sd hu) ⟨.bl _, H, I, rfl, q⟩
theorem op_notInQ (hu : X.A.units + 65 < cLine) : OpR X (compareOp .NotIn) (rNotInQ X.K) := by
  intro pins s σ H x y v u Q I rx ry h
  obtain ⟨d, ds, hd, he, sd, se, q⟩ := h
  obtain ⟨as, r1⟩ := Dp.reads I d x v hd rx
  rcases he with he | he
  · obtain ⟨bs, r2⟩ := Dp.reads I (.list ds) y u he ry
    exact SeqAt.notIn_list_reads r2 r1 (SeqAt.canLay_of_shaped se) (SeqAt.canLay_of_shaped sd) (room_in_shaped sd hu) ⟨.bl _, H, I, rfl, q⟩
  · obtain ⟨bs, r2⟩ := Dp.reads I (.tuple ds) y u he ry
    exact SeqAt.notIn_tuple_reads r2 r1 (SeqAt.canLay_of_shaped se) (SeqAt.canLay_of_shaped sd) (room_in_shaped sd hu) ⟨.bl _, H, I, rfl, q⟩
end
end CS

-- dictcomps
namespace CD
open PySem PySem.Spec PyProof.Rows L2
/-- d[key] = v where the key is a tuple, within a comprehension -/
theorem putT {X : Cx} {pins : List (Addr × Obj)} {σ : L2.St} {H : Hp} {s : Shared} {E : Value → Shared → Prop} {D b : Addr} {kvs : List (List L2.Key × V)} {k : List L2.Key} {v : V} {r : Value} {Q : Unit → Shared → Prop} (hu : X.A.units + 1 < cLine)
    (I : Inv X pins σ H s) (hD : H D = some (.dT kvs)) (hz : kvs.length < sizeLine) (hb : H b = some (.tup (k.map kV))) (rv : RelV v r) (h : ∀ s2, Inv X pins σ (upd H D (.dT (putK kvs k v))) s2 → Q () s2) : wpAny (model X.prog X.w) X.A (dictSet D (.ref b) r) Q E s := by
  obtain ⟨z, hd, xs, rel, dd⟩ := dt_of I.hok hD
  have l1 : xs.length ≤ sizeLine := Paired.length rel ▸ z
  have l2 : (putK kvs k v).length ≤ sizeLine := Nat.le_trans (length_putK kvs k v) hz
  have hroom : (tupleKind (mixKind X.prog X.w)).room X.A := Nat.lt_of_succ_lt hu
  refine wpAny_dictSet_heap (hsz := l1) hroom (key_of I.hok hb) dd fun g dg sb => h _ ?_
  obtain ⟨q, es, ep, hq, c2, c3, c4, _, c5⟩ := dg
  refine d_write I (by rw [hD]; exact True.intro) sb ⟨q, hq⟩ ⟨l2, hd, _, (rel.put k hb rv).keeps (fun c ys ec => ?_), q, es, ep, hq, c2, c3, c4, c5⟩
  rw [upd_ne (ne_of ec hD (fun z => nomatch z))]
  exact ec
section
variable {X : Cx}
/-- {k: v for target in iter if ..} where the keys are tuples -/
def tDcT (wi : TI) (g : TG) (tt : TT) (tk tv : TE) (vs : List Nat) : TE := fun σ H Q => wi σ H fun J H1 => ∀ D, H1 D = none → ∃ W : Nat → Nat → Hp → Prop, (∃ m, W 0 m (upd H1 D (.dT []))) ∧ ∀ i m H, W i m H →
  (J.stop i H ∧ Q (.ref D) H) ∨ (J.go i H ∧ ∃ Nx : Hp → Prop, (∀ H', Nx H' → ∃ m', m' < m ∧ W (i + 1) m' H') ∧ ∀ x H', J.yld i H x H' → g x (wipe σ vs) H' fun σ2 H2 => wipe σ2 vs = wipe σ vs ∧ tt σ2 H2 fun b H3 =>
    if b = true then tk σ2 H3 fun y H4 => tv σ2 H4 fun z H5 => ∃ kvs k b, y = .ref b ∧ H5 b = some (.tup (k.map kV)) ∧ H5 D = some (.dT kvs) ∧ kvs.length < sizeLine ∧ Nx (upd H5 D (.dT (putK kvs k z))) else Nx H3)
theorem dcT_run {pins : List (Addr × Obj)} {s : Shared} {σ : L2.St} {H : Hp} {Q : VK} {kx vx tg iter : Expr} {ifs : List Expr} {scope : Scope} {own : List (Str × Nat)} {pos pos' : Pos} {wi : TI} {g : TG} {tt : TT} {tk tv : TE} {use : Option (Value → Sem Unit)} {Qf : Value → Shared → Prop}
    (hu : X.A.units + 1 < cLine) (calm : X.calm = true) (nod : X.N.Nodup) (I : Inv X pins σ H s) (hi : PI X tg iter wi) (ok : BlkOk X.N X.env.scope scope own)
    (gg : ∀ (s : Shared) (H : Hp) (C : Addr) (cl : List (Str × Addr)) (fp : List Addr), PG (X.blk s H scope (compEnvC scope cl C X.env) fp) tg g)
    (gt : ∀ (s : Shared) (H : Hp) (C : Addr) (cl : List (Str × Addr)) (fp : List Addr), PTs (X.blk s H scope (compEnvC scope cl C X.env) fp) ifs tt)
    (gk : ∀ (s : Shared) (H : Hp) (C : Addr) (cl : List (Str × Addr)) (fp : List Addr), PE (X.blk s H scope (compEnvC scope cl C X.env) fp) kx tk)
    (gv : ∀ (s : Shared) (H : Hp) (C : Addr) (cl : List (Str × Addr)) (fp : List Addr), PE (X.blk s H scope (compEnvC scope cl C X.env) fp) vx tv) (fold : ∀ x, foldedSetIterable iter X.env x = pure x)
    (h : tDcT wi g tt tk tv (own.map (·.2)) σ H Q)
    (post : ∀ D C s' m H', Inv X pins σ H' s' → Q (.ref D) H' → s'.heap.Ns C m → FpOk X pins H' C → compPost (model X.prog X.w) X.A X.xe use Qf (.ref D) C (.ok .next) s') :
    wpAny (model X.prog X.w) X.A (comprehension (.DictComp kx vx [⟨tg, iter, ifs, 0⟩] scope pos) scope X.env pos' newDict false (eval iter X.env) use) Qf X.xe s := by
  have hasC : ∀ y ∈ scope.names, y.2 = .free → ∃ c, X.env.cells.lookup y.1 = some c := fun y hy e => I.ok.has _ (ok.free y hy e)
  refine wpAny_comprehension_free (use := use) rfl fold (closure_ok hasC) ok.kind (fun y hy e => by rw [ok.uniq y hy, e]) (thn (hi.run pins s σ H _ I h) fun xv s1 hx => thn hx fun itv s2 h2 => ?_)
  obtain ⟨it, fp, tn, J, H2, rfl, I2, T, at2, free2, q⟩ := h2
  refine wpAny_newObj_type (newEnv_comp ?_)
  generalize eD : s2.heap.objs.size = D
  have newD : H2 D = none := I2.hok.fresh (Nat.le_of_eq eD)
  obtain ⟨W, ⟨m0, w0⟩, turn⟩ := q D newD
  generalize es3 : ({ s2 with heap := s2.heap.push { cls := .type "dict", data := .dict #[] } } : Shared) = s3
  have hp3 : s3.heap = s2.heap.push { cls := .type "dict", data := .dict #[] } := by rw [← es3]
  generalize eH3 : upd H2 D (.dT []) = H3
  have I3 : Inv X pins σ H3 s3 := by
    subst es3 eH3
    refine I2.laid (t' := s2.toks) (fun b o e => Heap.get?_push_of_some _ e) (Nat.le_of_eq eD) ?_
    subst eD
    exact dt_empty s2.heap I2.big
  have low : ∀ b ∈ fp, b < s2.heap.objs.size := fun b hb => let ⟨_, e, _⟩ := T.obj _ _ at2 b hb; Heap.lt_size e
  have free3 : ∀ b ∈ fp, FpOk X pins H3 b ∧ b < s3.heap.objs.size := fun b hb => by
    have lt := low b hb
    refine ⟨⟨?_, (free2 b hb).2⟩, by rw [hp3, Heap.size_push]; exact Nat.lt_succ_of_lt lt⟩
    rw [← eH3, upd_ne (by rw [← eD]; exact Nat.ne_of_lt lt)]
    exact (free2 b hb).1
  have at3 : tn 0 s3.heap := T.keep _ _ _ at2 fun b _ o e => hp3 ▸ Heap.get?_push_of_some _ e
  have I4 := block_start I3 ok nod free3
  generalize eC : s3.heap.objs.size = C at I4
  generalize ecl : cellsFrom (C + 1) scope.names (cloFrom X.env.cells scope.names []) = cl at I4
  have pg := gg s3 H3 C cl fp
  have pt := gt s3 H3 C cl fp
  have pk := gk s3 H3 C cl fp
  have pv := gv s3 H3 C cl fp
  have none3 : ∀ b ∈ fp, H3 b = none := fun b hb => (free3 b hb).1.1
  subst ecl eC
  generalize ece : compEnvC scope (cellsFrom (s3.heap.objs.size + 1) scope.names (cloFrom X.env.cells scope.names [])) s3.heap.objs.size X.env = ce at I4 pg pt pk pv
  have loc : ce.locals = s3.heap.objs.size := by subst ece; rfl
  generalize es4 : ({ s3 with heap := pushCells (s3.heap.push { cls := .type "dict", data := .dict #[] }) scope.names } : Shared) = s4 at I4
  have at4 : tn 0 s4.heap := T.keep _ _ _ at3 fun b _ o e => es4 ▸ pushCells_keeps _ _ _ _ (Heap.get?_push_of_some _ e)
  have wEq : W 0 m0 H3 := eH3 ▸ w0
  have quiet : ∀ {τ : L2.St} {G : Hp} {t : Shared}, Inv (X.blk s3 H3 scope ce fp) [] τ G t → (∀ b ∈ fp, G b = none) → ∀ b ∈ fp, FpOk (X.blk s3 H3 scope ce fp) [] G b := fun {τ G t} J hn b hb =>
    ⟨hn b hb, (J.ok.exf b hb).1, J.ok.exfs b hb, .inl hb, (J.ok.exf b hb).2, fun p hp => absurd (show p ∈ ([] : List (Addr × Obj)) ++ [] from hp) (by simp)⟩
  have run : codeAny (model X.prog X.w) X.A (.compLoop (.DictComp kx vx [⟨tg, iter, ifs, 0⟩] scope pos) 0 (.ref it) (.ref D) ce) (compPost (model X.prog X.w) X.A X.xe use Qf (.ref D) s3.heap.objs.size) s4 := by
    refine compLoop_anyD (fun n t => ∃ i G, Inv (X.blk s3 H3 scope ce fp) [] (wipe σ (own.map (·.2))) G t ∧ tn i t.heap ∧ (∀ b ∈ fp, G b = none) ∧ W i n G) ?_ m0 ⟨0, H3, I4, at4, none3, wEq⟩
    rintro n t5 ⟨i, G5, I5, at5, n5, w5⟩
    rcases turn i n G5 w5 with ⟨stop, qq⟩ | ⟨go, Nx, hNx, step⟩
    · refine thnF (T.done (X.blk s3 H3 scope ce fp) rfl rfl rfl calm i [] t5 _ G5 (fun _ _ => False) I5 (quiet I5 n5) at5 stop) fun r t6 ⟨er, I6⟩ => ?_
      subst er
      have I7 : Inv X pins σ G5 t6 := I3.call' (ch := fp) I6.os I6.base I6.hok I6.bare fun b hb => let z := (free3 b hb).1.2; ⟨z.2.2.1, z.1, z.2.2.2.1, z.2.2.2.2⟩
      have nC : G5 s3.heap.objs.size = none := loc ▸ (show G5 ce.locals = none from I6.free)
      obtain ⟨m, hn, _⟩ := I6.loc
      replace hn : t6.heap.Ns s3.heap.objs.size m := loc ▸ (show t6.heap.Ns ce.locals m from hn)
      exact post D s3.heap.objs.size t6 m G5 I7 qq hn (I3.fpOk (Nat.le_refl _) nC)
    · refine thnF (T.item (X.blk s3 H3 scope ce fp) rfl rfl rfl calm i [] t5 _ G5 (fun _ _ => False) I5 (quiet I5 n5) at5 go) fun r t6 ⟨u, er, h6⟩ => ?_
      subst er
      refine thnF h6 fun _ t7 ⟨x, G7, I7, r7, y7, at7, n7⟩ => ?_
      refine thnF (pg.run _ t7 _ G7 x u _ (I7.pinned (quiet I7 n7) (T.obj _ _ at7)) r7 (step x G7 y7)) fun _ t8 ⟨σ8, G8, I8, hw, q8⟩ => ?_
      refine thnF (pt.run _ t8 σ8 G8 _ I8 q8) fun b t9 ⟨G9, I9, q9⟩ => ?_
      have fin : ∀ {t : Shared} {G : Hp}, Inv (X.blk s3 H3 scope ce fp) ([] ++ pinsAt fp t7.heap) σ8 G t → Nx G → ∃ m, m < n ∧ ∃ j G2, Inv (X.blk s3 H3 scope ce fp) [] (wipe σ (own.map (·.2))) G2 t ∧ tn j t.heap ∧ (∀ b ∈ fp, G2 b = none) ∧ W j m G2 := fun {t G} IG nx => by
        obtain ⟨m2, lt, w2⟩ := hNx G nx
        have stay : ∀ b ∈ fp, ∀ o, t7.heap.get? b = some o → t.heap.get? b = some o ∧ G b = none := fun b hb o e => ⟨(IG.pin (b, o) (List.mem_append_right _ (List.mem_append_right _ (mem_pinsAt hb e)))).1, (IG.pin (b, o) (List.mem_append_right _ (List.mem_append_right _ (mem_pinsAt hb e)))).2.1⟩
        have len : (wipe σ (own.map (·.2))).length = σ8.length := by rw [← hw, wipe_length]
        refine ⟨m2, lt, i + 1, G, (IG.unpinned (pins := [])).weak len (fun j v e => (wipe_some (hw ▸ e)).1), T.keep _ _ _ at7 fun b hb o e => (stay b hb o e).1, fun b hb => ?_, w2⟩
        obtain ⟨o, e, _⟩ := T.obj _ _ at7 b hb
        exact (stay b hb o e).2
      cases b with
      | false =>
        rw [if_neg Bool.false_ne_true] at q9 ⊢
        exact fin I9 q9
      | true =>
        rw [if_pos rfl] at q9 ⊢
        refine thnF (pk.run _ t9 σ8 G9 _ I9 q9) fun z ta ⟨yk, Ga, Ia, ra, qa⟩ => ?_
        refine thnF (pv.run _ ta σ8 Ga _ Ia qa) fun z2 tb ⟨yv, Gb, Ib, rb, kvs, k, bb, ek, hbb, hDb, hz, nx⟩ => ?_
        subst ek
        cases (show z = Value.ref bb from ra)
        exact putT (X := X.blk s3 H3 scope ce fp) hu Ib hDb hz hbb rb fun tc Ic => fin Ic nx
  subst ece
  exact codeAny_compStart_dict run (T.self X.A 0 _ _ _ at4 run)
theorem pe_dcT {kx vx tg iter : Expr} {ifs : List Expr} {scope : Scope} {own : List (Str × Nat)} {pos : Pos} {wi : TI} {g : TG} {tt : TT} {tk tv : TE} (hu : X.A.units + 1 < cLine) (calm : X.calm = true) (nod : X.N.Nodup) (hi : PI X tg iter wi) (ok : BlkOk X.N X.env.scope scope own)
    (gg : ∀ (s : Shared) (H : Hp) (C : Addr) (cl : List (Str × Addr)) (fp : List Addr), PG (X.blk s H scope (compEnvC scope cl C X.env) fp) tg g)
    (gt : ∀ (s : Shared) (H : Hp) (C : Addr) (cl : List (Str × Addr)) (fp : List Addr), PTs (X.blk s H scope (compEnvC scope cl C X.env) fp) ifs tt)
    (gk : ∀ (s : Shared) (H : Hp) (C : Addr) (cl : List (Str × Addr)) (fp : List Addr), PE (X.blk s H scope (compEnvC scope cl C X.env) fp) kx tk)
    (gv : ∀ (s : Shared) (H : Hp) (C : Addr) (cl : List (Str × Addr)) (fp : List Addr), PE (X.blk s H scope (compEnvC scope cl C X.env) fp) vx tv) (fold : ∀ x, foldedSetIterable iter X.env x = pure x := by intro _; rfl) :
    PE X (.DictComp kx vx [⟨tg, iter, ifs, 0⟩] scope pos) (tDcT wi g tt tk tv (own.map (·.2))) := by
  refine ⟨fun pins s σ H Q I h => ?_⟩
  rw [arm_eval_DictComp]
  refine dcT_run hu calm nod I hi ok gg gt gk gv fold h fun D C t m G IG q hn f => ⟨m, hn, fun g2 sb => ?_⟩
  exact ⟨.ref D, G, IG.turned (t' := t.toks) (fun b o hb e => (sb.2 b hb).trans e) f.1 f.2.1 f.2.2.2.1 f.2.2.2.2.1 f.2.2.2.2.2, rfl, q⟩
end
/-- over anything that is walked: the keys and values are known from the start -/
theorem dcT_it {J : It} {n : Nat} {G : Hp → Prop} {Y : Nat → Hp → V → Hp → Prop} (w : Walk J n G Y) {g : TG} {tt : TT} {tk tv : TE} {vs : List Nat} {σ : L2.St} {H1 : Hp} {D : Addr} {Qd : Hp → Prop} (Pv : Nat → Hp → Prop) (h0 : Pv 0 (upd H1 D (.dT []))) (hl : ∀ i H, i ≤ n → Pv i H → G H)
    (hs : ∀ i x H H2, i < n → Pv i H → Y i H x H2 → g x (wipe σ vs) H2 fun σ2 H3 => wipe σ2 vs = wipe σ vs ∧ tt σ2 H3 fun b H4 =>
      if b = true then tk σ2 H4 fun y H5 => tv σ2 H5 fun z H6 => ∃ kvs k b, y = .ref b ∧ H6 b = some (.tup (k.map kV)) ∧ H6 D = some (.dT kvs) ∧ kvs.length < sizeLine ∧ Pv (i + 1) (upd H6 D (.dT (putK kvs k z))) else Pv (i + 1) H4)
    (hd : ∀ H, Pv n H → Qd H) :
    ∃ W : Nat → Nat → Hp → Prop, (∃ m, W 0 m (upd H1 D (.dT []))) ∧ ∀ i m H, W i m H →
      (J.stop i H ∧ Qd H) ∨ (J.go i H ∧ ∃ Nx : Hp → Prop, (∀ H', Nx H' → ∃ m', m' < m ∧ W (i + 1) m' H') ∧ ∀ x H', J.yld i H x H' → g x (wipe σ vs) H' fun σ2 H2 => wipe σ2 vs = wipe σ vs ∧ tt σ2 H2 fun b H3 =>
        if b = true then tk σ2 H3 fun y H4 => tv σ2 H4 fun z H5 => ∃ kvs k b, y = .ref b ∧ H5 b = some (.tup (k.map kV)) ∧ H5 D = some (.dT kvs) ∧ kvs.length < sizeLine ∧ Nx (upd H5 D (.dT (putK kvs k z))) else Nx H3) := by
  refine ⟨fun i m H => m = n - i ∧ i ≤ n ∧ Pv i H, ⟨n, rfl, Nat.zero_le _, h0⟩, ?_⟩
  rintro i m H ⟨rfl, hi, p⟩
  have q := hl i H hi p
  by_cases c : i < n
  · exact .inr ⟨w.goes i H c q, Pv (i + 1), fun H2 p2 => ⟨n - (i + 1), by omega, rfl, c, p2⟩, fun x H2 y => hs i x H H2 c p (w.yields i H x H2 c q y)⟩
  · obtain rfl : i = n := by omega
    exact .inl ⟨w.stops H q, hd H p⟩
/-- kvs with the pairs of more put in -/
def mergeT (kvs more : List (List L2.Key × V)) : List (List L2.Key × V) := more.foldl (fun acc p => putK acc p.1 p.2) kvs
theorem mergeT_len (kvs : List (List L2.Key × V)) : ∀ more : List (List L2.Key × V), (mergeT kvs more).length ≤ kvs.length + more.length := fun more => by
  induction more generalizing kvs with
  | nil => exact Nat.le_refl _
  | cons p r ih =>
    have a := ih (putK kvs p.1 p.2)
    have b := length_putK kvs p.1 p.2
    simp only [mergeT, List.foldl_cons, List.length_cons] at *
    omega
theorem KT.merge {H : Hp} : ∀ {more : List (List L2.Key × V)} {ys : List (List L2.Key × Addr × Value)} {kvs : List (List L2.Key × V)} {xs : List (List L2.Key × Addr × Value)}, KT H more ys → KT H kvs xs → KT H (mergeT kvs more) (storedAllH xs ys)
  | _, _, _, _, .nil, h => h
  | (k, v) :: _, (k2, b, u) :: _, kvs, xs, .cons ⟨e, hb, rv⟩ t, h => by
    obtain rfl : k = k2 := e
    exact KT.merge (kvs := putK kvs k v) (xs := storedH xs k b u) t (h.put k hb rv)
section
variable {X : Cx}
/-- d.update(e), both keyed by tuples -/
def rUpdT : V → List V → Hp → VK → Prop := fun x xs H Q => ∃ (a b : Addr) (kvs more : List (List L2.Key × V)), x = .ref a ∧ xs = [.ref b] ∧ a ≠ b ∧ H a = some (.dT kvs) ∧ H b = some (.dT more) ∧ (kvs ≠ [] ∨ more = []) ∧ kvs.length + more.length ≤ sizeLine ∧ Q .non (upd H a (.dT (mergeT kvs more)))
theorem mt_updT (hu : X.A.units + 1 < cLine) : MtR X "dict.update" rUpdT := by
  intro pins s σ H x xs v us Q I rx rxs h
  obtain ⟨a, b, kvs, more, rfl, rfl, ne, ha, hb, nn, le, q⟩ := h
  cases rx
  cases rxs with
  | cons r1 r2 =>
    cases r1
    cases r2
    obtain ⟨z, hd, xs1, rel, dd⟩ := dt_of I.hok ha
    obtain ⟨z2, hd2, xs2, rel2, dd2⟩ := dt_of I.hok hb
    have l1 : kvs.length = xs1.length := Paired.length rel
    have l2 : more.length = xs2.length := Paired.length rel2
    refine call_update_dictH (tupleKind_room_in1 hu) ne hd2 dd dd2 (nn.imp (fun nn e => nn (List.length_eq_zero_iff.mp (by rw [l1, e]; rfl))) fun e => (by
      have e2 : xs2 = [] := List.length_eq_zero_iff.mp (by rw [← l2, e]; rfl)
      rw [e2]
      exact ⟨(fun x hx => by cases hx), .nil⟩)) (by omega) fun h' dd' _ hs => ?_
    obtain ⟨o, es, ep, hq, h2, h3, h4, _, h5⟩ := dd'
    refine ⟨.non, _, d_write (ob := .dT (mergeT kvs more)) (t' := s.toks) I (by rw [ha]; exact True.intro) hs ⟨o, hq⟩ ⟨Nat.le_trans (mergeT_len kvs more) le, hd, _, (KT.merge rel2 rel).keeps (fun c ys ec => (by rw [upd_ne (ne_of ec ha (fun z => nomatch z))]; exact ec)), o, es, ep, hq, h2, h3, h4, h5⟩, rfl, q⟩
end
end CD

namespace CD
open PySem PySem.Spec PyProof.Rows L2
/-- the view d.values() -/
def valsO (p d : Addr) : HO := .ext fun h => h.IsValuesView p d
theorem DTpget {α β : Type} {F : α → β → Prop} : ∀ {l₁ : List α} {l₂ : List β} {j : Nat} {x : β}, Paired F l₁ l₂ → l₂[j]? = some x → ∃ y, l₁[j]? = some y ∧ F y x
  | _, _, _, _, .nil, h => by simp at h
  | _, _, 0, _, .cons r _, h => ⟨_, rfl, by obtain rfl := Option.some.inj h; exact r⟩
  | _, _, j + 1, _, .cons _ t, h => DTpget (j := j) t h
section
variable {X : Cx}
def rValuesT : V → List V → Hp → VK → Prop := fun x xs H Q => ∃ (a : Addr) (kvs : List (List L2.Key × V)), x = .ref a ∧ xs = [] ∧ H a = some (.dT kvs) ∧ ∀ p, H p = none → Q (.ref p) (upd H p (valsO p a))
theorem mt_valuesT : MtR X "dict.values" rValuesT := by
  intro pins s σ H x xs v us Q I rx rxs h
  obtain ⟨a, kvs, rfl, rfl, ha, q⟩ := h
  cases rx
  cases rxs
  obtain ⟨z, hd, ys, rel, o, es, ep, ho, hx, hdat, _⟩ := dt_of I.hok ha
  have raw : s.heap.DictRaw a es ep := ⟨o, ho, hx, hdat⟩
  refine call_meetsIn PySem.F.slot_dict_values raw.typeIs PySem.F.entry_dict_values (PySem.F.args_dict_values_1 _) (meets_dict_values_raw a hd) ⟨⟨es, ep, raw⟩, ?_⟩
  have new : ObjOk X.prog X.w (upd H s.heap.objs.size (valsO s.heap.objs.size a)) (s.heap.push { cls := .type "dict_values", data := .fields #[.ref a] }) s.heap.objs.size (valsO s.heap.objs.size a) :=
    ⟨⟨_, Heap.get?_push_size _ rfl, rfl, rfl⟩, ⟨_, Heap.get?_push_size _ rfl⟩, fun h1 h2 y k => let ⟨u, hu, r⟩ := y; ⟨u, k u hu, r⟩⟩
  exact ⟨.ref s.heap.objs.size, _, I.laid (t' := s.toks) (fun b u e => Heap.get?_push_of_some _ e) (Nat.le_refl _) new, rfl, q _ (I.hok.fresh (Nat.le_refl _))⟩
/-- max(d.values()), whole numbers -/
def rMaxT : List V → Hp → VK → Prop := fun xs H Q => ∃ (p a : Addr) (kvs : List (List L2.Key × V)) (is : List Int), xs = [.ref p] ∧ H p = some (valsO p a) ∧ H a = some (.dT kvs) ∧ kvs.map (·.2) = is.map V.int ∧ is ≠ [] ∧ ∀ m, m ∈ is → (∀ j ∈ is, j ≤ m) → Q (.int m) H
theorem cr_maxT (calm : X.calm = true) : CallR X (.builtin "max") rMaxT := by
  intro pins s σ H xs us Q I r h
  obtain ⟨p, a, kvs, is, rfl, hp, ha, hv, hne, q⟩ := h
  rw [Vals.ref1 r]
  obtain ⟨z, hd, ys, rel, o, es, ep, ho, hx, hdat, hes, _⟩ := dt_of I.hok ha
  have raw : s.heap.DictRaw a es ep := ⟨o, ho, hx, hdat⟩
  have view : s.heap.IsValuesView p a := (show ObjOk X.prog X.w H s.heap p (valsO p a) from I.hok p _ hp).1
  have l1 : es.size = ys.length := by rw [← Array.length_toList, hes, List.length_map]
  have l2 : kvs.length = ys.length := Paired.length rel
  have l3 : is.length = kvs.length := by
    have := congrArg List.length hv
    rw [List.length_map, List.length_map] at this
    exact this.symm
  have hval : ∀ (i : Nat) (v : Value), (∃ hi : i < es.size, v = es[i].val) → ∃ t, v = Value.int (is.getD i 0) t := fun i v ⟨hi, e⟩ => by
    subst e
    have iy : i < ys.length := by omega
    have e1 : es[i] = entryOfKey (tupleKind (mixKind X.prog X.w)) ys[i] := by
      have : es.toList[i]? = some es[i] := by rw [Array.getElem?_toList, Array.getElem?_eq_getElem hi]
      rw [hes, List.getElem?_map, List.getElem?_eq_getElem iy] at this
      exact (Option.some.inj this).symm
    obtain ⟨y, hy, f1, f2, f3⟩ := DTpget rel (List.getElem?_eq_getElem iy)
    have e2 : (kvs.map (·.2))[i]? = some y.2 := by rw [List.getElem?_map, hy]; rfl
    rw [hv, List.getElem?_map] at e2
    obtain ⟨j, hj, e3⟩ := Option.map_eq_some_iff.mp e2
    rw [← e3] at f3
    obtain ⟨t, f3⟩ := f3
    refine ⟨t, ?_⟩
    rw [e1, List.getD_eq_getElem?_getD, hj]
    exact f3
  refine call_max_walk (wpAny_pyIter_values_raw view raw ?_)
  generalize hI : s.heap.objs.size = it
  have al : a < s.heap.objs.size := Heap.lt_size ho
  generalize hh : s.heap.push { cls := .type "dict_valueiterator", data := .fields #[.ref a, .int 0 0, .int es.size 0, .int ep 0] } = h2
  have keep : ∀ b u, s.heap.get? b = some u → h2.get? b = some u := fun b u e => hh ▸ Heap.get?_push_of_some _ e
  have raw2 : h2.DictRaw a es ep := ⟨o, keep _ _ ho, hx, hdat⟩
  have at2 : h2.get? it = some { cls := .type "dict_valueiterator", data := .fields #[.ref a, .int 0 0, .int es.size 0, .int ep 0] } := by rw [← hh, ← hI]; exact Heap.get?_push_size _ rfl
  have sz2 : h2.objs.size = it + 1 := by rw [← hh, Heap.size_push, hI]
  have nea : a ≠ it := by rw [← hI]; exact Nat.ne_of_lt al
  refine ⟨it, _, _, _, _, _, _, rfl, Walks.rawValues (A := X.A.in1) (I.ok.hd calm) it a nea es ep, ⟨⟨_, at2, rfl, rfl⟩, raw2⟩, fun b hb => ?_, by have := List.length_pos_iff.mpr hne; omega, CmpOf.ints_gt (fun i => is.getD i 0) hval, fun v h3 tk hP hk => ?_⟩
  · show b < h2.objs.size
    rw [sz2]
    rcases List.mem_cons.mp hb with e | hb
    · rw [e]
      exact Nat.lt_succ_self _
    · rw [List.mem_singleton.mp hb, ← hI]
      exact Nat.lt_succ_of_lt al
  · obtain ⟨t, rfl⟩ := hval _ v hP
    obtain ⟨b1, b2⟩ := argBest_gt (fun i => is.getD i 0) (es.size - 1)
    have inb : argBest (fun i j => decide (is.getD i 0 > is.getD j 0)) (es.size - 1) < is.length := by
      have := List.length_pos_iff.mpr hne
      omega
    refine ⟨.int _, H, I.kept (t' := tk) fun b u e => hk b u (fun hm => ?_) (keep b u e), ⟨t, rfl⟩, q _ ?_ fun j hj => ?_⟩
    · have e1 : b = it := List.mem_singleton.mp hm
      have e2 := Heap.lt_size e
      rw [e1, hI] at e2
      exact absurd e2 (Nat.lt_irrefl _)
    · rw [List.getD_eq_getElem?_getD, List.getElem?_eq_getElem inb]
      exact List.getElem_mem inb
    · obtain ⟨i, hi⟩ := List.mem_iff_getElem?.mp hj
      have il := (List.getElem?_eq_some_iff.mp hi).1
      have := b2 i (by omega)
      rw [List.getD_eq_getElem?_getD, hi] at this
      exact this
end
end CD

namespace CD
open PySem PySem.Spec PyProof.Rows L2
/-- a slice's part that may be None -/
def tPartO (t : TE) : TO := fun σ H Q => t σ H fun x H1 => (x = .non ∧ Q none H1) ∨ ∃ i, x = .int i ∧ Q (some i) H1
theorem po_opt {X : Cx} {e : Expr} {te : TE} (h : PE X e te) : PO X (some e) (tPartO te) := by
  refine ⟨fun pins s σ H Q I hw => ?_⟩
  rw [evalPart_some]
  refine thn (h.run pins s σ H _ I hw) fun u s1 ⟨x, H1, I1, r1, q1⟩ => ?_
  rcases q1 with ⟨rfl, q⟩ | ⟨i, rfl, q⟩
  · obtain rfl : u = Value.none := r1
    exact ⟨none, H1, I1, .none, q⟩
  · obtain ⟨t, rfl⟩ := r1
    exact ⟨some i, H1, I1, .int i t, q⟩
end CD

-- dictcomps
namespace CD
open PySem PySem.Spec PyProof.Rows L2
/-! ### name = {k: v for ..} on one line, the name a local -/
theorem sw_trueD {kx vx : Expr} {gs : List Comprehension} {scope : Scope} {pos py : Pos} {y : Str} {l : Nat} {env : Env} (hk : env.scope.kind = .function) (hy : env.scope.names.lookup y = some .local) (hl : (py.line == pos.line) = true)
    (ha : (scope.names.any fun (n, k) => n == y && (k == .local || k == .cell)) = false) : swapsWith (.DictComp kx vx gs scope pos) (some (.Name y py)) l env = pure true := by
  have ky : env.kindOf y = some .local := hy
  have hb : env.blockKind = .function := by unfold Env.blockKind; rw [hk]; rfl
  unfold swapsWith
  simp only [hb, ky, ha, Expr.pos, hl]
  rfl
section
variable {X : Cx}
theorem ps_setDcT {i : Nat} {y : Str} {py : Pos} {kx vx tg iter : Expr} {ifs : List Expr} {scope : Scope} {own : List (Str × Nat)} {pos spos : Pos} {wi : TI} {g : TG} {tt : TT} {tk tv : TE} (hu : X.A.units + 1 < cLine) (calm : X.calm = true) (nod : X.N.Nodup) (hy : X.N[i]? = some y) (hyl : X.env.scope.names.lookup y = some .local)
    (hsw : swapsWith (.DictComp kx vx [⟨tg, iter, ifs, 0⟩] scope pos) (some (.Name y py)) spos.line X.env = pure true) (hi : PI X tg iter wi) (ok : BlkOk X.N X.env.scope scope own)
    (gg : ∀ (s : Shared) (H : Hp) (C : Addr) (cl : List (Str × Addr)) (fp : List Addr), PG (X.blk s H scope (compEnvC scope cl C X.env) fp) tg g)
    (gt : ∀ (s : Shared) (H : Hp) (C : Addr) (cl : List (Str × Addr)) (fp : List Addr), PTs (X.blk s H scope (compEnvC scope cl C X.env) fp) ifs tt)
    (gk : ∀ (s : Shared) (H : Hp) (C : Addr) (cl : List (Str × Addr)) (fp : List Addr), PE (X.blk s H scope (compEnvC scope cl C X.env) fp) kx tk)
    (gv : ∀ (s : Shared) (H : Hp) (C : Addr) (cl : List (Str × Addr)) (fp : List Addr), PE (X.blk s H scope (compEnvC scope cl C X.env) fp) vx tv) (fold : ∀ x, foldedSetIterable iter X.env x = pure x := by intro _; rfl) :
    PS X (.Assign [.Name y py] (.DictComp kx vx [⟨tg, iter, ifs, 0⟩] scope pos) spos) (tAsg (tDcT wi g tt tk tv (own.map (·.2))) (gName i)) := by
  refine ⟨fun pins s σ H D I h => ?_⟩
  rw [exec_Assign_Name_used _ _ _ _ hsw]
  refine wpAny_bind (wpAny_standAt (wpAny_bind ?_))
  show wpAny _ X.A (do let _ ← comprehension (.DictComp kx vx [⟨tg, iter, ifs, 0⟩] scope pos) scope X.env (firstIterPos [⟨tg, iter, ifs, 0⟩] pos) newDict false (eval iter X.env) (some (assign (.Name y py) X.env))) _ _ s
  have h : tDcT wi g tt tk tv (own.map (·.2)) σ H (fun x H1 => gName i x σ H1 D.nx) := h
  refine wpAny_bind (thn (dcT_run (Qf := fun _ s' => SP X pins D .next s') hu calm nod I hi ok gg gt gk gv fold h fun L C s' m H' I' q hn f => ?_) fun _ s' hq => wpAny_pure (wpAny_pure hq))
  show wpAny _ _ (assign (.Name y py) X.env (.ref L)) _ _ _
  refine wpAny_assign_Name (store_ok2 (v := V.ref L) I' nod hy (.inl hyl) rfl (fun s2 I2 ⟨a, sb, ha⟩ => ?_) (.inr hyl))
  obtain ⟨f0, f1, f2, f3, f4, f5⟩ := f
  have haC : C ≠ a := by
    rcases ha with z | z
    · rw [z]; exact f1
    · exact fun e => f4 y a z e.symm
  refine ⟨m, hn.sameBut sb haC, fun h3 sb3 => ?_⟩
  exact ⟨_, H', I2.turned (t' := s2.toks) (fun b o hb e => (sb3.2 b hb).trans e) f0 f1 f3 f4 f5, q⟩
end
end CD

namespace CD
open PySem PySem.Spec PyProof.Rows L2
/-! ### dict(xs) of a list of pairs whose keys are tuples -/
def PrT (H : Hp) (x : V) (kv : List L2.Key × V) : Prop := ∃ p b, x = V.ref p ∧ H p = some (.tup [.ref b, kv.2]) ∧ H b = some (.tup (kv.1.map kV))
section
variable {X : Cx}
def rDictT (K : PySem.W.Frag) : List V → Hp → VK → Prop := fun xs H Q => ∃ (a : Addr) (ps : List V) (kvs : List (List L2.Key × V)), xs = [.ref a] ∧ SqL K H a ps ∧ Paired (PrT H) ps kvs ∧ ∀ d, H d = none → Q (.ref d) (upd H d (.dT (mergeT [] kvs)))
theorem pairs_ofT {pins : List (Addr × Obj)} {σ : L2.St} {H : Hp} {s : Shared} (I : Inv X pins σ H s) : ∀ {ps : List V} {us : List Value} {kvs : List (List L2.Key × V)}, Paired (PrT H) ps kvs → Vals ps us →
    ∃ ys : List (List L2.Key × Addr × Value), KT H kvs ys ∧ ys.length = us.length ∧ ∀ (j : Nat) (y : List L2.Key × Addr × Value), ys[j]? = some y → ∃ p, us[j]? = some (Value.ref p) ∧ s.heap.IsTuple p #[.ref y.2.1, y.2.2]
  | _, _, _, .nil, r => by
    cases r
    exact ⟨[], .nil, rfl, fun j q e => by simp at e⟩
  | _, _, _, .cons (a := x) (b := kv) h t, r => by
    obtain ⟨p, b, rfl, hp, hb⟩ := h
    cases r with
    | cons r1 r2 =>
      cases r1
      obtain ⟨ys, rk, hl, hh⟩ := pairs_ofT I t r2
      obtain ⟨its, rv, ht, _⟩ := I.tuple (SqT.of hp)
      obtain ⟨u, y, ei, ru, ry⟩ := vals2 rv
      subst ei
      cases ru
      refine ⟨(kv.1, b, y) :: ys, .cons ⟨rfl, hb, ry⟩ rk, by rw [List.length_cons, List.length_cons, hl], fun j q e => ?_⟩
      cases j with
      | zero =>
        obtain rfl := Option.some.inj e
        obtain ⟨o, ho, hc, n, hd⟩ := ht
        exact ⟨p, rfl, o, ho, hc, n, hd⟩
      | succ j =>
        obtain ⟨p2, e1, e2⟩ := hh j q (by simpa using e)
        exact ⟨p2, by simpa using e1, e2⟩
theorem call_dictT (hcalm : X.calm = true) (hu : X.A.units + 65 < cLine) : CallR X (.type "dict") (rDictT X.K) := by
  intro pins s σ H xs us Q I r q
  obtain ⟨a, ps, kvs, rfl, hq, hp, q⟩ := q
  obtain ⟨u, rfl, rx⟩ := vals1 r
  cases rx
  obtain ⟨its, rv, pl, hz⟩ := I.list hq
  obtain ⟨ys, rk, hl, hpr⟩ := pairs_ofT I hp rv
  obtain ⟨o, n, ho, hc, hd, hdat⟩ := pl
  let Ts : Nat → Addr := fun j => match its[j]? with
    | some (.ref p) => p
    | _ => 0
  let prs : List (Value × Value) := ys.map fun y => (Value.ref y.2.1, y.2.2)
  have lp : prs.length = its.length := by simp [prs, hl]
  have hTs : ∀ {j : Nat} {p : Addr}, its[j]? = some (.ref p) → Ts j = p := fun {j p} e => by
    show (match its[j]? with | some (.ref p) => p | _ => 0) = p
    rw [e]
  have P := PairArg.list (prog := X.prog) (w := X.w) a its.toArray Ts prs
  have ok : PlainSeq "list" s.heap a its.toArray ∧ PairItems s.heap its.toArray Ts prs := by
    refine ⟨⟨o, n, ho, hc, hd, hdat⟩, by rw [List.size_toArray, lp], fun j k v e => ?_⟩
    have e2 : (ys.map fun y => (Value.ref y.2.1, y.2.2))[j]? = some (k, v) := e
    rw [List.getElem?_map] at e2
    obtain ⟨y, hy, ey⟩ := Option.map_eq_some_iff.mp e2
    obtain ⟨p, h1, h2⟩ := hpr j y hy
    obtain ⟨rfl, rfl⟩ := Prod.mk.inj ey
    rw [hTs h1]
    exact ⟨by simpa using h1, .inl h2⟩
  have hroom : (tupleKind (mixKind X.prog X.w)).room X.A.in1.in1 := by
    show X.A.units + 1 + 1 < cLine
    omega
  have keyed : ∀ x ∈ ys, (tupleKind (mixKind X.prog X.w)).is s.heap x.1 x.2.1 := by
    clear hpr P ok hl lp q hp
    intro x hx
    obtain ⟨i, hi⟩ := List.mem_iff_getElem?.mp hx
    induction rk generalizing i with
    | nil => cases hx
    | cons h t ih =>
      rcases List.mem_cons.mp hx with rfl | hx2
      · obtain ⟨h1, h2, _⟩ := h
        exact key_of I.hok (by rw [← h1]; exact h2)
      · obtain ⟨i2, hi2⟩ := List.mem_iff_getElem?.mp hx2
        exact ih hx2 i2 hi2
  refine call_dict_pairsH (knd := tupleKind (mixKind X.prog X.w)) (ps := ys) P (I.ok.hd hcalm) hroom ok ⟨by simp [prs], fun i key v e => ?_⟩ (fun h' hk x hx => ?_) (by rw [lp, ← rv.length]; exact hz) fun h' tk dd k => ?_
  · have e2 : (ys.map fun y => (Value.ref y.2.1, y.2.2))[i]? = some (key, v) := e
    rw [List.getElem?_map] at e2
    obtain ⟨⟨y1, y2, y3⟩, hy, ey⟩ := Option.map_eq_some_iff.mp e2
    obtain ⟨rfl, rfl⟩ := Prod.mk.inj ey
    exact ⟨y1, y2, hy, rfl⟩
  · exact tupleKind_stays.stays (fun b o vs n e _ => hk b o (Nat.ne_of_lt (Heap.lt_size e)) (by simp) e) (keyed x hx)
  · have hm : (s.heap.objs.size == sysModules) = false := beq_eq_false_iff_ne.mpr (Nat.ne_of_gt I.big)
    have fr : H s.heap.objs.size = none := I.hok.fresh (Nat.le_refl _)
    have hlen : (mergeT [] kvs).length ≤ sizeLine := by
      have h1 := mergeT_len [] kvs
      have h2 : kvs.length = ys.length := Paired.length rk
      rw [List.length_nil, h2, hl] at h1
      have : its.length ≤ sizeLine := by rw [← rv.length]; exact hz
      omega
    obtain ⟨o2, es, ep, hq2, h2, h3, h4, _, h5⟩ := dd
    refine ⟨.ref s.heap.objs.size, upd H s.heap.objs.size (.dT (mergeT [] kvs)), I.laid (t' := tk) (fun b o e => k b o (by simp) e) (Nat.le_refl _) (show ObjOk X.prog X.w _ _ _ (.dT (mergeT [] kvs)) from ⟨hlen, hm, storedAllH [] ys, (KT.merge rk .nil).keeps (fun c zs ec => by rw [upd_ne (ne_of_none ec fr)]; exact ec), o2, es, ep, hq2, h2, h3, h4, h5⟩), rfl, q _ fr⟩
end
end CD

-- dictcomps
namespace CD
open PySem PySem.Spec PyProof.Rows L2
/-! ### d != {} -/
section
variable {prog : Program} {w : World} {A : Around} {E : Value → Shared → Prop} {s : Shared}
theorem same_empty {nm : String} {a b : Addr} {es es2 : Array DictEntry} {ep ep2 : Nat} {Q : Bool → Shared → Prop} (ha : (a == sysModules) = false) (hb : (b == sysModules) = false)
    (da : s.heap.DictRaw a es ep) (db : s.heap.DictRaw b es2 ep2) (h0 : es2.size = 0) (h : Q (es.size == 0) s) : wpAny (model prog w) A (Builtin.Dict.samePairs nm a b) Q E s := by
  obtain ⟨oa, hoa, _, hda⟩ := da
  obtain ⟨ob, hob, _, hdb⟩ := db
  unfold Builtin.Dict.samePairs Builtin.Dict.showsAll
  rw [if_neg (show ¬ (a == sysModules) = true by rw [ha]; exact Bool.false_ne_true), if_neg (show ¬ (b == sysModules) = true by rw [hb]; exact Bool.false_ne_true)]
  refine wpAny_bind (wpAny_pure (wpAny_bind (wpAny_pure ?_)))
  refine wpAny_bind (wpAny_dictEntries hoa hda ?_)
  dsimp only
  refine wpAny_bind (wpAny_dictEntries hob hdb ?_)
  by_cases hsz : es.size = 0
  case neg =>
    rw [if_pos (by simpa [h0] using hsz)]
    have hbf : (es.size == 0) = false := by simpa using hsz
    rw [hbf] at h
    exact wpAny_bind (wpAny_rule (wpAny_pure h))
  case pos =>
    rw [hsz] at h
    rw [if_neg (by rw [hsz, h0]; simp)]
    refine wpAny_bind (wpAny_dictEpoch hoa hda ?_)
    refine wpAny_bind ?_
    rw [Std.Legacy.Range.forIn_eq_forIn_range']
    simp only [Std.Legacy.Range.size, Nat.sub_zero, Nat.add_sub_cancel, Nat.div_one]
    refine wpAny_forIn_list _ (fun rest q s' => s' = s ∧ q = (none, ()) ∧ rest = []) _ ?_ ?_ _ _ ⟨rfl, rfl, by rw [hsz]; rfl⟩
    · rintro x rest q s' ⟨_, _, hr⟩
      cases hr
    · rintro q s' ⟨rfl, rfl, _⟩
      exact wpAny_pure h
end
section
variable {X : Cx}
def rNeE : R2 := fun x y H Q => ∃ (a b : Addr) (kvs : List (List L2.Key × V)), x = .ref a ∧ y = .ref b ∧ H a = some (.dT kvs) ∧ H b = some (.dK []) ∧ Q (.bl (!decide (kvs = []))) H
theorem op_neE (hu : X.A.units + 65 < cLine) : OpR X (compareOp .NotEq) rNeE := by
  intro pins s σ H x y v u Q I rx ry h
  obtain ⟨a, b, kvs, rfl, rfl, ea, eb, q⟩ := h
  obtain rfl : v = Value.ref a := rx
  obtain rfl : u = Value.ref b := ry
  obtain ⟨z, hd, xs, rel, o, es, ep, ho, hx, hdat, hes, hxs, hnod⟩ := dt_of I.hok ea
  have raw : s.heap.DictRaw a es ep := ⟨o, ho, hx, hdat⟩
  obtain ⟨_, yb, vb, rb, db⟩ := (show ObjOk X.prog X.w H s.heap b (.dK []) from I.hok b _ eb)
  have lb : vb = [] := by
    have := rb.length
    cases vb with
    | nil => rfl
    | cons _ _ => cases this
  subst lb
  obtain ⟨ob, es2, ep2, hob, hcb, hdb, hkb, hpb, _⟩ := id db
  have raw2 : s.heap.DictRaw b es2 ep2 := ⟨ob, hob, hcb, hdb⟩
  have h0 : es2.size = 0 := by
    have := hpb.length
    rw [List.length_nil] at this
    rw [← Array.length_toList]
    exact this
  have l1 : es.size = xs.length := by rw [← Array.length_toList, hes, List.length_map]
  have l2 : kvs.length = xs.length := Paired.length rel
  refine wpAny_richCompare_same_room (op := .NotEq) raw.typeIs raw2.typeIs PySem.F.slot_dict_ne (wpAny_call_entry PySem.F.slot_dict_ne raw.typeIs PySem.F.entry_dict_ne ?_ (PySem.F.args_dict_ne_2 _ _)) (by omega)
  show wpAny _ _ (Builtin.Dict.dictSlotArgs "__ne__" ⟨[.ref a, .ref b], []⟩ >>= _) _ _ s
  refine wpAny_bind ?_
  unfold Builtin.Dict.dictSlotArgs
  refine wpAny_bind (wpAny_notOrdered_dict raw.typeIs ?_)
  show wpAny _ _ (pure (Value.ref a, Value.ref b)) _ _ s
  refine wpAny_pure ?_
  refine wpAny_bind (wpAny_isInstance (T := "dict") raw2.typeIs PySem.F.sub_dict_dict ?_)
  simp only [Bool.not_true, Bool.false_eq_true, if_false]
  refine wpAny_bind (wpAny_pure (wpAny_bind (wpAny_pure ?_)))
  refine wpAny_bind (same_empty hd yb raw raw2 h0 ?_)
  refine wpAny_pure ⟨_, rfl, ?_, ?_⟩
  · exact fun x => nomatch x
  · have e : (es.size == 0) = decide (kvs = []) := by
      rw [l1, ← l2]
      cases kvs <;> simp
    rw [e]
    exact fin_bl I q (by simp)
end
end CD

-- dictcomps
namespace CD
open PySem PySem.Spec PyProof.Rows L2
/-! ### for k, v in d.items(): d with tuples for keys -/
section
variable {X : Cx} {pins : List (Addr × Obj)} {σ : L2.St} {H : Hp} {s : Shared} {d : Addr} {o : Obj}
theorem frzT2 {kvs : List (List L2.Key × V)} (I : Inv X pins σ H s) (h : H d = some (.frz o (.dT kvs))) :
    (d == sysModules) = false ∧ s.heap.get? d = some o ∧ o.ExactDict ∧ ∃ (es : Array DictEntry) (ep : Nat), o.data = .dict es ep ∧ es.size = kvs.length ∧
      ∀ (i : Nat) (k : List L2.Key) (v : V), kvs[i]? = some (k, v) → ∃ (en : DictEntry) (q : Addr), es[i]? = some en ∧ en.key = .ref q ∧ H q = some (.tup (k.map kV)) ∧ RelV v en.val := by
  obtain ⟨hd, z, hs, xs, pr, o', es, ep, ho, hx, hdt, he, _⟩ := I.hok d _ h
  rw [hd] at ho
  cases ho
  refine ⟨hs, hd, hx, es, ep, hdt, ?_, fun i k v e => ?_⟩
  · have l1 : es.size = xs.length := size_of_entries he
    have l2 : kvs.length = xs.length := Paired.length pr
    omega
  · obtain ⟨b, hb, e1, e2, e3⟩ := paired_get pr e
    have q := entry_at he i
    rw [hb] at q
    exact ⟨_, b.2.1, q, rfl, e2, e3⟩
end
def Itit (d : Addr) (o : Obj) (kvs : List (List L2.Key × V)) : It :=
  ⟨fun i H => H d = some (.frz o (.dT kvs)) ∧ i < kvs.length, fun i H x H' => ∃ (T q : Addr) (k : List L2.Key) (v : V), kvs[i]? = some (k, v) ∧ x = .ref T ∧ H T = none ∧ H q = some (.tup (k.map kV)) ∧ H' = upd H T (.tup [.ref q, v]), fun i H => H d = some (.frz o (.dT kvs)) ∧ kvs.length ≤ i⟩
theorem walk_itemsT {d : Addr} {o : Obj} {kvs : List (List L2.Key × V)} : Walk (Itit d o kvs) kvs.length (fun H => H d = some (.frz o (.dT kvs)))
    (fun i H x H' => ∃ (T q : Addr) (k : List L2.Key) (v : V), kvs[i]? = some (k, v) ∧ x = .ref T ∧ H T = none ∧ H q = some (.tup (k.map kV)) ∧ H' = upd H T (.tup [.ref q, v])) :=
  ⟨fun _ _ hi q => ⟨q, hi⟩, fun _ q => ⟨q, Nat.le_refl _⟩, fun _ _ _ _ _ _ y => y⟩
theorem turn_itemsT {P : Program} {w : World} {K : PySem.W.Frag} {d : Addr} {o : Obj} {es : Array DictEntry} {ep : Nat} {kvs : List (List L2.Key × V)} {elts : List Expr} {kk : Nat} {tpos : Pos} (it : Addr) (hod : o.data = .dict es ep) :
    Turn P w K (.Tuple elts kk tpos) (Itit d o kvs) [it] it (fun i h => ∃ ok ov, IsItemIter h it d i kvs.length ep ok ov) where
  mem := by simp
  obj := fun i h st b hb => by
    have e : b = it := by simpa using hb
    subst e
    obtain ⟨ok, ov, e⟩ := st
    exact ⟨_, e, fun v z => nomatch z⟩
  keep := fun i h h' st k => let ⟨ok, ov, e⟩ := st; ⟨ok, ov, k it (by simp) _ e⟩
  item := by
    intro X hP hw hK hc i pins s σ H E I hf st hg
    subst hP hw hK
    obtain ⟨hd, hi⟩ := hg
    obtain ⟨hs, hgd, hx, es', ep', hdt, hsz, ent⟩ := frzT2 I hd
    obtain ⟨rfl, rfl⟩ := dict_ep hdt hod
    obtain ⟨⟨k, v⟩, hkv⟩ : ∃ p, kvs[i]? = some p := ⟨kvs[i], List.getElem?_eq_getElem hi⟩
    obtain ⟨en, q, hen, hkey, hq, rv⟩ := ent i k v hkv
    obtain ⟨ok, ov, he⟩ := st
    rw [← hsz] at he
    have hlt : it < s.heap.objs.size := Heap.lt_size he
    have raw : s.heap.DictRaw d es ep := ⟨o, hgd, hx, hod⟩
    have hi2 : i < es.size := by omega
    have een : es[i] = en := Option.some.inj ((Array.getElem?_eq_getElem hi2).symm.trans hen)
    refine wpAny_pyNext_items_item_raw he raw hi2 fun h' ho hT hz hk => ?_
    rw [een, hkey] at ho hT
    refine ⟨_, rfl, wpAny_letOwnedTupleGo_items (s := { s with heap := h' }) ho fun h'' he' sb => ?_⟩
    have hT2 : h''.get? s.heap.objs.size = some { cls := .type "tuple", data := .seq #[.ref q, en.val] } := (sb.2 _ (Nat.ne_of_gt hlt)).trans hT
    have new : ObjOk X.prog X.w (upd H s.heap.objs.size (.tup [.ref q, v])) h'' s.heap.objs.size (.tup [.ref q, v]) :=
      ⟨by show 2 ≤ sizeLine; decide, [.ref q, en.val], .cons rfl (.cons rv .nil), ⟨_, hT2, rfl, _, rfl⟩⟩
    have I1 : Inv X pins σ (upd H s.heap.objs.size (.tup [.ref q, v])) { s with heap := h'' } :=
      I.turnedNew (t' := s.toks) (ch := [it]) (fun b ob hb e => (sb.2 b (by simpa using hb)).trans (hk b ob (by simpa using hb) e)) hf (Nat.le_refl _) new
    refine ⟨.ref s.heap.objs.size, _, I1, rfl, ⟨_, q, k, v, hkv, rfl, I.hok.fresh (Nat.le_refl _), hq, rfl⟩, ⟨.ref q, en.val, ?_⟩, fun b hb => ?_⟩
    · rw [← hsz]; exact he'
    · have e : b = it := by simpa using hb
      rw [e, upd_ne (Nat.ne_of_lt hlt)]
      exact (hf it (by simp)).1
  done := by
    intro X hP hw hK hc i pins s σ H E I hf st hg
    subst hP hw hK
    obtain ⟨hd, hi⟩ := hg
    obtain ⟨f0, f1, f2, f3, f4, f5⟩ := hf it (by simp)
    obtain ⟨hs, hgd, hx, es', ep', hdt, hsz, ent⟩ := frzT2 I hd
    obtain ⟨rfl, rfl⟩ := dict_ep hdt hod
    obtain ⟨ok, ov, he⟩ := st
    rw [← hsz] at he
    have raw : s.heap.DictRaw d es ep := ⟨o, hgd, hx, hod⟩
    exact wpAny_pyNext_items_end_raw (I.ok.hd hc) he raw (by omega) fun h' eb => ⟨rfl, I.turned (t' := s.toks) (fun b ob hb e => eb b ob hb e) f0 f1 f3 f4 f5⟩
  self := fun A i s Q E st h => let ⟨_, _, e⟩ := st; PySem.W.kcp_self e h
def iItemsT (td : TE) : TI := fun σ H R => td σ H fun x H1 => ∃ d o kvs, x = .ref d ∧ H1 d = some (.frz o (.dT kvs)) ∧ R (Itit d o kvs) H1
theorem pi_itemsT {X : Cx} {e : Expr} {td : TE} {apos cpos tpos : Pos} {elts : List Expr} {kk : Nat} (he : PE X e td) (hbase : attributeBase e "items" X.env (eval e X.env) = eval e X.env := by rfl) (hline : (apos.endLine == cpos.line) = true := by rfl) :
    PI X (.Tuple elts kk tpos) (.Call (.Attribute e "items" apos) [] [] cpos) (iItemsT td) := by
  refine ⟨fun pins s σ H R I h => ?_⟩
  refine wpAny_Call_method (T := "dict") (id := "dict.items") hbase rfl hline F.plainAttrs_dict F.slot_dict_items F.type_dict_items (thn (he.run pins s σ H _ I h) fun u s1 ⟨x, H1, I1, rx, d, o, kvs, ex, hd, q⟩ => ?_)
  subst ex
  obtain rfl : u = Value.ref d := rx
  obtain ⟨hs, hgd, hx, es, ep, hdt, hsz, ent⟩ := frzT2 I1 hd
  have raw : s1.heap.DictRaw d es ep := ⟨o, hgd, hx, hdt⟩
  refine ⟨raw.typeIs, ?_, ?_⟩
  · intro a ea
    cases ea
    exact ⟨o, hgd, hx.2.1⟩
  have I2 : Inv X pins σ H1 { s1 with heap := s1.heap.push { cls := .type "dict_items", data := .fields #[.ref d] } } := I1.kept (t' := s1.toks) fun b ob q => Heap.get?_push_of_some _ q
  have fin : wpAny (model X.prog X.w) X.A (pyIter (.ref s1.heap.objs.size)) (PIE X pins σ (.Tuple elts kk tpos) R) X.xe { s1 with heap := s1.heap.push { cls := .type "dict_items", data := .fields #[.ref d] } } := by
    refine wpAny_pyIter_items_raw (d := d) ⟨_, Heap.get?_push_size _ rfl, rfl, rfl⟩ ⟨o, Heap.get?_push_of_some _ hgd, hx, hdt⟩ (pi_one (tk := s1.toks) I2 _ (turn_itemsT _ hdt) ⟨.none, .none, ?_⟩ q)
    rw [← hsz]
    exact Heap.get?_push_size _ rfl
  show wpAny _ _ (callWith cpos (.builtin "dict.items") [.ref d] [] []) _ X.xe s1
  exact method_meetsIn F.slot_dict_items F.entry_dict_items rfl (PySem.evalArgs_none ⟨rfl, raw.typeIs, F.args_dict_items_1 _, _, meets_dict_items_raw d hs, ⟨es, ep, raw⟩, fin⟩)
end CD

-- dictcomps
namespace CD
open PySem PySem.Spec PyProof.Rows L2
/-! ### d.update(e), both keyed by tuples, d may be empty (behind baseY) -/
def hT (w : World) (ks : List L2.Key) : Int := reduceHash (Builtin.Tuple.tupleHashOf (ks.map (L2.keyH w)))
theorem kt_hash {P : Program} {w : World} {H : Hp} : ∀ {kvs : List (List L2.Key × V)} {ys : List (List L2.Key × Addr × Value)}, KT H kvs ys → (ys.map fun x => (tupleKind (mixKind P w)).hash x.1) = kvs.map fun p => hT w p.1
  | _, _, .nil => rfl
  | _, _, .cons ⟨e, _, _⟩ t => by
    rw [List.map_cons, List.map_cons, kt_hash (P := P) (w := w) t, ← e]
    rfl
theorem kt_mem {H : Hp} : ∀ {kvs : List (List L2.Key × V)} {ys : List (List L2.Key × Addr × Value)}, KT H kvs ys → ∀ x ∈ ys, ∃ zs, H x.2.1 = some (.tup zs)
  | _, _, .cons ⟨_, h, _⟩ t, x, hx => by
    rcases List.mem_cons.mp hx with rfl | hx
    · exact ⟨_, h⟩
    · exact kt_mem t x hx
section
variable {X : Cx}
def rUpdT2 (w : World) : V → List V → Hp → VK → Prop := fun x xs H Q => ∃ (a b : Addr) (kvs more : List (List L2.Key × V)), x = .ref a ∧ xs = [.ref b] ∧ a ≠ b ∧ H a = some (.dT kvs) ∧ H b = some (.dT more) ∧ (kvs ≠ [] ∨ (more.map fun p => hT w p.1).Nodup) ∧ kvs.length + more.length ≤ sizeLine ∧ Q .non (upd H a (.dT (mergeT kvs more)))
theorem mt_updT2 (hu : X.A.units + 1 < cLine) : MtR X "dict.update" (rUpdT2 X.w) := by
  intro pins s σ H x xs v us Q I rx rxs h
  obtain ⟨a, b, kvs, more, rfl, rfl, ne, ha, hb, nn, le, q⟩ := h
  cases rx
  cases rxs with
  | cons r1 r2 =>
    cases r1
    cases r2
    obtain ⟨z, hd, xs1, rel, dd⟩ := dt_of I.hok ha
    obtain ⟨z2, hd2, xs2, rel2, dd2⟩ := dt_of I.hok hb
    have l1 : kvs.length = xs1.length := Paired.length rel
    have l2 : more.length = xs2.length := Paired.length rel2
    refine call_update_dictH (tupleKind_room_in1 hu) ne hd2 dd dd2 (nn.imp (fun nn e => nn (List.length_eq_zero_iff.mp (by rw [l1, e]; rfl))) fun e => ⟨fun x hx => ?_, by rw [kt_hash rel2]; exact e⟩) (by omega) fun h' dd' _ hs => ?_
    · obtain ⟨zs, hz⟩ := kt_mem rel2 x hx
      obtain ⟨its, rv, ht, _⟩ := I.tuple (SqT.of hz)
      obtain ⟨o, ho, hc, n, hd⟩ := ht
      exact ⟨o, ho, hc⟩
    obtain ⟨o, es, ep, hq, h2, h3, h4, _, h5⟩ := dd'
    refine ⟨.non, _, d_write (ob := .dT (mergeT kvs more)) (t' := s.toks) I (by rw [ha]; exact True.intro) hs ⟨o, hq⟩ ⟨Nat.le_trans (mergeT_len kvs more) le, hd, _, (KT.merge rel2 rel).keeps (fun c ys ec => (by rw [upd_ne (ne_of ec ha (fun z => nomatch z))]; exact ec)), o, es, ep, hq, h2, h3, h4, h5⟩, rfl, q⟩
end
end CD

namespace CS
open PySem PySem.Spec PyProof.Rows L2
def top (i : Nat) : Stmt := PySem.Challenge.pw_calledseats_k26_whole_layers_as_targets.main.body.getD i (.Pass ⟨0, 0, 0, 0⟩)
abbrev s_wall : Stmt := top 0
abbrev N_wall : List Str := ["k"]
theorem sc_wall : FnScope N_wall ["k"] (defScope s_wall) := ⟨rfl, rfl, rfl, by decide +kernel, rfl, by decide +kernel, by decide +kernel⟩
abbrev s_is_integer : Stmt := top 8
abbrev N_is_integer : List Str := ["value"]
theorem sc_is_integer : FnScope N_is_integer ["value"] (defScope s_is_integer) := ⟨rfl, rfl, rfl, by decide +kernel, rfl, by decide +kernel, by decide +kernel⟩
abbrev s_is_at_least : Stmt := top 9
abbrev N_is_at_least : List Str := ["value", "low"]
theorem sc_is_at_least : FnScope N_is_at_least ["value", "low"] (defScope s_is_at_least) := ⟨rfl, rfl, rfl, by decide +kernel, rfl, by decide +kernel, by decide +kernel⟩
abbrev s_is_between : Stmt := top 10
abbrev N_is_between : List Str := ["value", "low", "high"]
theorem sc_is_between : FnScope N_is_between ["value", "low", "high"] (defScope s_is_between) := ⟨rfl, rfl, rfl, by decide +kernel, rfl, by decide +kernel, by decide +kernel⟩
abbrev s_greatest_common_divisor : Stmt := top 11
abbrev N_greatest_common_divisor : List Str := ["first", "second"]
theorem sc_greatest_common_divisor : FnScope N_greatest_common_divisor ["first", "second"] (defScope s_greatest_common_divisor) := ⟨rfl, rfl, rfl, by decide +kernel, rfl, by decide +kernel, by decide +kernel⟩
abbrev s_Table_init : Stmt := inClass (top 15) 0
abbrev N_Table_init : List Str := ["self", "rings", "size"]
theorem sc_Table_init : FnScope N_Table_init ["self", "rings"] (defScope s_Table_init) := ⟨rfl, rfl, rfl, by decide +kernel, rfl, by decide +kernel, by decide +kernel⟩
abbrev s_Table_sizes : Stmt := inClass (top 15) 1
abbrev N_Table_sizes : List Str := ["self"]
theorem sc_Table_sizes : FnScope N_Table_sizes ["self"] (defScope s_Table_sizes) := ⟨rfl, rfl, rfl, by decide +kernel, rfl, by decide +kernel, by decide +kernel⟩
abbrev s_Table_count : Stmt := inClass (top 15) 2
abbrev N_Table_count : List Str := ["self", "product", "size"]
theorem sc_Table_count : FnScope N_Table_count ["self"] (defScope s_Table_count) := ⟨rfl, rfl, rfl, by decide +kernel, rfl, by decide +kernel, by decide +kernel⟩
abbrev s_Table_is_seat : Stmt := inClass (top 15) 3
abbrev N_Table_is_seat : List Str := ["self", "value", "place", "size"]
theorem sc_Table_is_seat : FnScope N_Table_is_seat ["self", "value"] (defScope s_Table_is_seat) := ⟨rfl, rfl, rfl, by decide +kernel, rfl, by decide +kernel, by decide +kernel⟩
abbrev s_Table_is_call : Stmt := inClass (top 15) 4
abbrev N_Table_is_call : List Str := ["self", "value"]
theorem sc_Table_is_call : FnScope N_Table_is_call ["self", "value"] (defScope s_Table_is_call) := ⟨rfl, rfl, rfl, by decide +kernel, rfl, by decide +kernel, by decide +kernel⟩
abbrev s_Table_shifted : Stmt := inClass (top 15) 5
abbrev N_Table_shifted : List Str := ["self", "seat", "call", "factor"]
theorem sc_Table_shifted : FnScope N_Table_shifted ["self", "seat", "call", "factor"] (defScope s_Table_shifted) := ⟨rfl, rfl, rfl, by decide +kernel, rfl, by decide +kernel, by decide +kernel⟩
abbrev s_Table_moves : Stmt := inClass (top 15) 6
abbrev N_Table_moves : List Str := ["self", "seat", "call"]
theorem sc_Table_moves : FnScope N_Table_moves ["self", "seat", "call"] (defScope s_Table_moves) := ⟨rfl, rfl, rfl, by decide +kernel, rfl, by decide +kernel, by decide +kernel⟩
abbrev s_Table_step : Stmt := inClass (top 15) 7
abbrev N_Table_step : List Str := ["self", "seat", "call", "direction"]
theorem sc_Table_step : FnScope N_Table_step ["self", "seat", "call", "direction"] (defScope s_Table_step) := ⟨rfl, rfl, rfl, by decide +kernel, rfl, by decide +kernel, by decide +kernel⟩
abbrev s_Table_order : Stmt := inClass (top 15) 8
abbrev N_Table_order : List Str := ["self", "seat", "least", "place", "size", "period"]
theorem sc_Table_order : FnScope N_Table_order ["self", "seat"] (defScope s_Table_order) := ⟨rfl, rfl, rfl, by decide +kernel, rfl, by decide +kernel, by decide +kernel⟩
abbrev s_Table_halves : Stmt := inClass (top 15) 9
abbrev N_Table_halves : List Str := ["self", "seat"]
theorem sc_Table_halves : FnScope N_Table_halves ["self", "seat"] (defScope s_Table_halves) := ⟨rfl, rfl, rfl, by decide +kernel, rfl, by decide +kernel, by decide +kernel⟩
abbrev s_require_table : Stmt := top 16
abbrev N_require_table : List Str := ["table"]
theorem sc_require_table : FnScope N_require_table ["table"] (defScope s_require_table) := ⟨rfl, rfl, rfl, by decide +kernel, rfl, by decide +kernel, by decide +kernel⟩
abbrev s_require_seat : Stmt := top 17
abbrev N_require_seat : List Str := ["table", "seat"]
theorem sc_require_seat : FnScope N_require_seat ["table", "seat"] (defScope s_require_seat) := ⟨rfl, rfl, rfl, by decide +kernel, rfl, by decide +kernel, by decide +kernel⟩
abbrev s_require_targets : Stmt := top 18
abbrev N_require_targets : List Str := ["table", "targets", "seen", "index", "seat"]
theorem sc_require_targets : FnScope N_require_targets ["table", "targets"] (defScope s_require_targets) := ⟨rfl, rfl, rfl, by decide +kernel, rfl, by decide +kernel, by decide +kernel⟩
abbrev s_require_small : Stmt := top 19
abbrev N_require_small : List Str := ["table"]
theorem sc_require_small : FnScope N_require_small ["table"] (defScope s_require_small) := ⟨rfl, rfl, rfl, by decide +kernel, rfl, by decide +kernel, by decide +kernel⟩
abbrev s_all_seats : Stmt := top 20
abbrev N_all_seats : List Str := ["table", "found", "size", "start", "place"]
theorem sc_all_seats : FnScope N_all_seats ["table"] (defScope s_all_seats) := ⟨rfl, rfl, rfl, by decide +kernel, rfl, by decide +kernel, by decide +kernel⟩
abbrev s_mirror_seat : Stmt := top 22
abbrev N_mirror_seat : List Str := ["table", "seat", "other", "place", "one", "size"]
theorem sc_mirror_seat : FnScope N_mirror_seat ["table", "seat", "other"] (defScope s_mirror_seat) := ⟨rfl, rfl, rfl, by decide +kernel, rfl, by decide +kernel, by decide +kernel⟩
abbrev s_call_counts : Stmt := top 23
abbrev N_call_counts : List Str := ["table", "targets", "found", "missing", "newest", "depth", "target", "seat", "one"]
theorem sc_call_counts : FnScope N_call_counts ["table", "targets"] (defScope s_call_counts) := ⟨rfl, rfl, rfl, by decide +kernel, rfl, by decide +kernel, by decide +kernel⟩
abbrev s_check_small_table : Stmt := top 24
abbrev N_check_small_table : List Str := ["table", "targets"]
theorem sc_check_small_table : FnScope N_check_small_table ["table", "targets"] (defScope s_check_small_table) := ⟨rfl, rfl, rfl, by decide +kernel, rfl, by decide +kernel, by decide +kernel⟩
abbrev s_layers : Stmt := top 25
abbrev N_layers : List Str := ["table", "targets", "counts", "found", "seat", "depth"]
theorem sc_layers : FnScope N_layers ["table", "targets"] (defScope s_layers) := ⟨rfl, rfl, rfl, by decide +kernel, rfl, by decide +kernel, by decide +kernel⟩
abbrev s_min_calls : Stmt := top 26
abbrev N_min_calls : List Str := ["table", "targets", "seat"]
theorem sc_min_calls : FnScope N_min_calls ["table", "targets", "seat"] (defScope s_min_calls) := ⟨rfl, rfl, rfl, by decide +kernel, rfl, by decide +kernel, by decide +kernel⟩
abbrev s_law_mix : Stmt := top 28
abbrev N_law_mix : List Str := ["_law_cell", "_law_turn", "_law_low"]
theorem sc_law_mix : FnScope N_law_mix ["_law_cell", "_law_turn"] (defScope s_law_mix) := ⟨rfl, rfl, rfl, by decide +kernel, rfl, by decide +kernel, by decide +kernel⟩
abbrev s_law_source : Stmt := top 29
abbrev N_law_source : List Str := ["_law_cell"]
theorem sc_law_source : FnScope N_law_source ["_law_cell"] (defScope s_law_source) := ⟨rfl, rfl, rfl, by decide +kernel, rfl, by decide +kernel, by decide +kernel⟩
abbrev s_law_draw : Stmt := top 30
abbrev N_law_draw : List Str := ["_law_source_here", "_law_limit", "_law_digit"]
theorem sc_law_draw : FnScope N_law_draw ["_law_source_here", "_law_limit"] (defScope s_law_draw) := ⟨rfl, rfl, rfl, by decide +kernel, rfl, by decide +kernel, by decide +kernel⟩
abbrev s_law_rings : Stmt := top 31
abbrev N_law_rings : List Str := ["_law_source_here", "_law_high", "_law_found", "_law_room", "_law_index", "_law_size"]
theorem sc_law_rings : FnScope N_law_rings ["_law_source_here", "_law_high"] (defScope s_law_rings) := ⟨rfl, rfl, rfl, by decide +kernel, rfl, by decide +kernel, by decide +kernel⟩
abbrev s_law_seats : Stmt := top 32
abbrev N_law_seats : List Str := ["_law_rings_here", "_law_found", "_law_size", "_law_longer", "_law_start", "_law_place"]
theorem sc_law_seats : FnScope N_law_seats ["_law_rings_here"] (defScope s_law_seats) := ⟨rfl, rfl, rfl, by decide +kernel, rfl, by decide +kernel, by decide +kernel⟩
abbrev s_law_targets : Stmt := top 33
abbrev N_law_targets : List Str := ["_law_source_here", "_law_spots", "_law_many", "_law_pool", "_law_found", "_law_index"]
theorem sc_law_targets : FnScope N_law_targets ["_law_source_here", "_law_spots", "_law_many"] (defScope s_law_targets) := ⟨rfl, rfl, rfl, by decide +kernel, rfl, by decide +kernel, by decide +kernel⟩
abbrev s_law_by_seat : Stmt := top 34
abbrev N_law_by_seat : List Str := ["_law_rows", "_law_found", "_law_depth", "_law_row", "_law_spot"]
theorem sc_law_by_seat : FnScope N_law_by_seat ["_law_rows"] (defScope s_law_by_seat) := ⟨rfl, rfl, rfl, by decide +kernel, rfl, by decide +kernel, by decide +kernel⟩
abbrev s_law_shifted_right : Stmt := top 35
abbrev N_law_shifted_right : List Str := ["_law_grid", "_law_rows", "_law_depth", "_law_first", "_law_row"]
theorem sc_law_shifted_right : FnScope N_law_shifted_right ["_law_grid", "_law_rows"] (defScope s_law_shifted_right) := ⟨rfl, rfl, rfl, by decide +kernel, rfl, by decide +kernel, by decide +kernel⟩
abbrev s_law_more_right : Stmt := top 36
abbrev N_law_more_right : List Str := ["_law_grid", "_law_rows", "_law_goals", "_law_spot", "_law_before", "_law_after", "_law_one"]
theorem sc_law_more_right : FnScope N_law_more_right ["_law_grid", "_law_rows", "_law_goals", "_law_spot"] (defScope s_law_more_right) := ⟨rfl, rfl, rfl, by decide +kernel, rfl, by decide +kernel, by decide +kernel⟩
abbrev s_law : Stmt := top 37
abbrev N_law : List Str := ["_law_script", "_law_cell", "_law_source_here", "_law_rings_here", "_law_spots", "_law_goals", "_law_grid", "_law_rows", "_law_known", "_law_others", "_law_some", "_law_one"]
theorem sc_law : FnScope N_law ["_law_script"] (defScope s_law) := ⟨rfl, rfl, rfl, by decide +kernel, rfl, by decide +kernel, by decide +kernel⟩
/-- what the top has written -/
structure TX (K : PySem.W.Frag) (mg : Str → Option Value) where
  f_wall : Addr
  fd_wall : FuncData
  F_wall : Fun K "_wall" "_wall" s_wall f_wall fd_wall
  b_wall : Binds K fd_wall ["k"] []
  m_wall : mg "_wall" = some (.ref f_wall)
  f_is_integer : Addr
  fd_is_integer : FuncData
  F_is_integer : Fun K "is_integer" "is_integer" s_is_integer f_is_integer fd_is_integer
  b_is_integer : Binds K fd_is_integer ["value"] []
  m_is_integer : mg "is_integer" = some (.ref f_is_integer)
  f_is_at_least : Addr
  fd_is_at_least : FuncData
  F_is_at_least : Fun K "is_at_least" "is_at_least" s_is_at_least f_is_at_least fd_is_at_least
  b_is_at_least : Binds K fd_is_at_least ["value", "low"] []
  m_is_at_least : mg "is_at_least" = some (.ref f_is_at_least)
  f_is_between : Addr
  fd_is_between : FuncData
  F_is_between : Fun K "is_between" "is_between" s_is_between f_is_between fd_is_between
  b_is_between : Binds K fd_is_between ["value", "low", "high"] []
  m_is_between : mg "is_between" = some (.ref f_is_between)
  f_greatest_common_divisor : Addr
  fd_greatest_common_divisor : FuncData
  F_greatest_common_divisor : Fun K "greatest_common_divisor" "greatest_common_divisor" s_greatest_common_divisor f_greatest_common_divisor fd_greatest_common_divisor
  b_greatest_common_divisor : Binds K fd_greatest_common_divisor ["first", "second"] []
  m_greatest_common_divisor : mg "greatest_common_divisor" = some (.ref f_greatest_common_divisor)
  f_Table_init : Addr
  fd_Table_init : FuncData
  F_Table_init : Fun K "__init__" "Table.__init__" s_Table_init f_Table_init fd_Table_init
  b_Table_init : Binds K fd_Table_init ["self", "rings"] []
  f_Table_sizes : Addr
  fd_Table_sizes : FuncData
  F_Table_sizes : Fun K "sizes" "Table.sizes" s_Table_sizes f_Table_sizes fd_Table_sizes
  b_Table_sizes : Binds K fd_Table_sizes ["self"] []
  f_Table_count : Addr
  fd_Table_count : FuncData
  F_Table_count : Fun K "count" "Table.count" s_Table_count f_Table_count fd_Table_count
  b_Table_count : Binds K fd_Table_count ["self"] []
  f_Table_is_seat : Addr
  fd_Table_is_seat : FuncData
  F_Table_is_seat : Fun K "is_seat" "Table.is_seat" s_Table_is_seat f_Table_is_seat fd_Table_is_seat
  b_Table_is_seat : Binds K fd_Table_is_seat ["self", "value"] []
  f_Table_is_call : Addr
  fd_Table_is_call : FuncData
  F_Table_is_call : Fun K "is_call" "Table.is_call" s_Table_is_call f_Table_is_call fd_Table_is_call
  b_Table_is_call : Binds K fd_Table_is_call ["self", "value"] []
  f_Table_shifted : Addr
  fd_Table_shifted : FuncData
  F_Table_shifted : Fun K "shifted" "Table.shifted" s_Table_shifted f_Table_shifted fd_Table_shifted
  b_Table_shifted : Binds K fd_Table_shifted ["self", "seat", "call", "factor"] []
  f_Table_moves : Addr
  fd_Table_moves : FuncData
  F_Table_moves : Fun K "moves" "Table.moves" s_Table_moves f_Table_moves fd_Table_moves
  b_Table_moves : Binds K fd_Table_moves ["self", "seat", "call"] []
  f_Table_step : Addr
  fd_Table_step : FuncData
  F_Table_step : Fun K "step" "Table.step" s_Table_step f_Table_step fd_Table_step
  b_Table_step : Binds K fd_Table_step ["self", "seat", "call", "direction"] []
  f_Table_order : Addr
  fd_Table_order : FuncData
  F_Table_order : Fun K "order" "Table.order" s_Table_order f_Table_order fd_Table_order
  b_Table_order : Binds K fd_Table_order ["self", "seat"] []
  f_Table_halves : Addr
  fd_Table_halves : FuncData
  F_Table_halves : Fun K "halves" "Table.halves" s_Table_halves f_Table_halves fd_Table_halves
  b_Table_halves : Binds K fd_Table_halves ["self", "seat"] []
  f_require_table : Addr
  fd_require_table : FuncData
  F_require_table : Fun K "require_table" "require_table" s_require_table f_require_table fd_require_table
  b_require_table : Binds K fd_require_table ["table"] []
  m_require_table : mg "require_table" = some (.ref f_require_table)
  f_require_seat : Addr
  fd_require_seat : FuncData
  F_require_seat : Fun K "require_seat" "require_seat" s_require_seat f_require_seat fd_require_seat
  b_require_seat : Binds K fd_require_seat ["table", "seat"] []
  m_require_seat : mg "require_seat" = some (.ref f_require_seat)
  f_require_targets : Addr
  fd_require_targets : FuncData
  F_require_targets : Fun K "require_targets" "require_targets" s_require_targets f_require_targets fd_require_targets
  b_require_targets : Binds K fd_require_targets ["table", "targets"] []
  m_require_targets : mg "require_targets" = some (.ref f_require_targets)
  f_require_small : Addr
  fd_require_small : FuncData
  F_require_small : Fun K "require_small" "require_small" s_require_small f_require_small fd_require_small
  b_require_small : Binds K fd_require_small ["table"] []
  m_require_small : mg "require_small" = some (.ref f_require_small)
  f_all_seats : Addr
  fd_all_seats : FuncData
  F_all_seats : Fun K "all_seats" "all_seats" s_all_seats f_all_seats fd_all_seats
  b_all_seats : Binds K fd_all_seats ["table"] []
  m_all_seats : mg "all_seats" = some (.ref f_all_seats)
  f_mirror_seat : Addr
  fd_mirror_seat : FuncData
  F_mirror_seat : Fun K "mirror_seat" "mirror_seat" s_mirror_seat f_mirror_seat fd_mirror_seat
  b_mirror_seat : Binds K fd_mirror_seat ["table", "seat", "other"] []
  m_mirror_seat : mg "mirror_seat" = some (.ref f_mirror_seat)
  f_call_counts : Addr
  fd_call_counts : FuncData
  F_call_counts : Fun K "call_counts" "call_counts" s_call_counts f_call_counts fd_call_counts
  b_call_counts : Binds K fd_call_counts ["table", "targets"] []
  m_call_counts : mg "call_counts" = some (.ref f_call_counts)
  f_check_small_table : Addr
  fd_check_small_table : FuncData
  F_check_small_table : Fun K "check_small_table" "check_small_table" s_check_small_table f_check_small_table fd_check_small_table
  b_check_small_table : Binds K fd_check_small_table ["table", "targets"] []
  m_check_small_table : mg "check_small_table" = some (.ref f_check_small_table)
  f_layers : Addr
  fd_layers : FuncData
  F_layers : Fun K "layers" "layers" s_layers f_layers fd_layers
  b_layers : Binds K fd_layers ["table", "targets"] []
  m_layers : mg "layers" = some (.ref f_layers)
  f_min_calls : Addr
  fd_min_calls : FuncData
  F_min_calls : Fun K "min_calls" "min_calls" s_min_calls f_min_calls fd_min_calls
  b_min_calls : Binds K fd_min_calls ["table", "targets", "seat"] []
  m_min_calls : mg "min_calls" = some (.ref f_min_calls)
  f_law_mix : Addr
  fd_law_mix : FuncData
  F_law_mix : Fun K "_law_mix" "_law_mix" s_law_mix f_law_mix fd_law_mix
  b_law_mix : Binds K fd_law_mix ["_law_cell", "_law_turn"] []
  m_law_mix : mg "_law_mix" = some (.ref f_law_mix)
  f_law_source : Addr
  fd_law_source : FuncData
  F_law_source : Fun K "_law_source" "_law_source" s_law_source f_law_source fd_law_source
  b_law_source : Binds K fd_law_source ["_law_cell"] []
  m_law_source : mg "_law_source" = some (.ref f_law_source)
  f_law_draw : Addr
  fd_law_draw : FuncData
  F_law_draw : Fun K "_law_draw" "_law_draw" s_law_draw f_law_draw fd_law_draw
  b_law_draw : Binds K fd_law_draw ["_law_source_here", "_law_limit"] []
  m_law_draw : mg "_law_draw" = some (.ref f_law_draw)
  f_law_rings : Addr
  fd_law_rings : FuncData
  F_law_rings : Fun K "_law_rings" "_law_rings" s_law_rings f_law_rings fd_law_rings
  b_law_rings : Binds K fd_law_rings ["_law_source_here", "_law_high"] []
  m_law_rings : mg "_law_rings" = some (.ref f_law_rings)
  f_law_seats : Addr
  fd_law_seats : FuncData
  F_law_seats : Fun K "_law_seats" "_law_seats" s_law_seats f_law_seats fd_law_seats
  b_law_seats : Binds K fd_law_seats ["_law_rings_here"] []
  m_law_seats : mg "_law_seats" = some (.ref f_law_seats)
  f_law_targets : Addr
  fd_law_targets : FuncData
  F_law_targets : Fun K "_law_targets" "_law_targets" s_law_targets f_law_targets fd_law_targets
  b_law_targets : Binds K fd_law_targets ["_law_source_here", "_law_spots", "_law_many"] []
  m_law_targets : mg "_law_targets" = some (.ref f_law_targets)
  f_law_by_seat : Addr
  fd_law_by_seat : FuncData
  F_law_by_seat : Fun K "_law_by_seat" "_law_by_seat" s_law_by_seat f_law_by_seat fd_law_by_seat
  b_law_by_seat : Binds K fd_law_by_seat ["_law_rows"] []
  m_law_by_seat : mg "_law_by_seat" = some (.ref f_law_by_seat)
  f_law_shifted_right : Addr
  fd_law_shifted_right : FuncData
  F_law_shifted_right : Fun K "_law_shifted_right" "_law_shifted_right" s_law_shifted_right f_law_shifted_right fd_law_shifted_right
  b_law_shifted_right : Binds K fd_law_shifted_right ["_law_grid", "_law_rows"] []
  m_law_shifted_right : mg "_law_shifted_right" = some (.ref f_law_shifted_right)
  f_law_more_right : Addr
  fd_law_more_right : FuncData
  F_law_more_right : Fun K "_law_more_right" "_law_more_right" s_law_more_right f_law_more_right fd_law_more_right
  b_law_more_right : Binds K fd_law_more_right ["_law_grid", "_law_rows", "_law_goals", "_law_spot"] []
  m_law_more_right : mg "_law_more_right" = some (.ref f_law_more_right)
  f_law : Addr
  fd_law : FuncData
  F_law : Fun K "law" "law" s_law f_law fd_law
  b_law : Binds K fd_law ["_law_script"] []
  m_law : mg "law" = some (.ref f_law)
  C_Table : Addr
  cl_Table : Cls K C_Table
  m_Table : mg "Table" = some (.ref C_Table)
  M_Table : Mk K C_Table f_Table_init
  me_Table_sizes : Meth K C_Table "sizes" f_Table_sizes
  me_Table_count : Meth K C_Table "count" f_Table_count
  me_Table_is_seat : Meth K C_Table "is_seat" f_Table_is_seat
  me_Table_is_call : Meth K C_Table "is_call" f_Table_is_call
  me_Table_shifted : Meth K C_Table "shifted" f_Table_shifted
  me_Table_moves : Meth K C_Table "moves" f_Table_moves
  me_Table_step : Meth K C_Table "step" f_Table_step
  me_Table_order : Meth K C_Table "order" f_Table_order
  me_Table_halves : Meth K C_Table "halves" f_Table_halves
  n_Table_rings : NoAttr K C_Table "rings"
  ic_Table : PySem.W.findIn K (.ref C_Table) "__class__" = some (some (.builtin "object.__class__"))
  im_Table : PySem.W.mroIn K C_Table (.type "object") = some true
  ig_ : PySem.W.specialIn K (.builtin "object.__class__") "__get__" = some (some (.builtin "getset_descriptor.__get__"))
  it_ : PySem.W.takesIn K (.builtin "object.__class__") = some true
  t_MAX_RINGS : Tok
  c_MAX_RINGS : mg "MAX_RINGS" = some (.int 4 t_MAX_RINGS)
  t_SMALL : Tok
  c_SMALL : mg "SMALL" = some (.int 300 t_SMALL)
  z_abs : mg "abs" = none
  z_all : mg "all" = none
  z_any : mg "any" = none
  z_bool : mg "bool" = none
  z_dict : mg "dict" = none
  z_enumerate : mg "enumerate" = none
  z_int : mg "int" = none
  z_isinstance : mg "isinstance" = none
  z_len : mg "len" = none
  z_list : mg "list" = none
  z_max : mg "max" = none
  z_min : mg "min" = none
  z_range : mg "range" = none
  z_sorted : mg "sorted" = none
  z_tuple : mg "tuple" = none
  z_zip : mg "zip" = none
/-- not an int (a bool is none) -/
def NotI (K : PySem.W.Frag) (H : Hp) (x : V) : Prop := ∃ t b1 b2, TyX K H x t ∧ PySem.W.kitOne K t (.type "int") = some b1 ∧ PySem.W.kitOne K t (.type "bool") = some b2 ∧ (b1 && !b2) = false
/-- what x is, if an int -/
def IsI (K : PySem.W.Frag) (H : Hp) (x : V) : Option Int → Prop
  | some i => x = .int i
  | none => NotI K H x
def atLeast : Option Int → Int → Bool
  | some i, low => decide (low ≤ i)
  | none, _ => false
def between : Option Int → Int → Int → Bool
  | some i, low, high => decide (low ≤ i) && decide (i ≤ high)
  | none, _, _ => false

section
variable {P : Program} {w : World} {K : PySem.W.Frag} {mg : Str → Option Value} {base : Heap}
def sp_is_integer (K : PySem.W.Frag) : Sp := fun vs H Q _ => ∃ x o, vs = [x] ∧ IsI K H x o ∧ Q (.bl o.isSome) H
theorem ok_is_integer (T : TX K mg) : FnOk P w K mg base CX0 1 T.f_is_integer T.fd_is_integer ["value"] (sp_is_integer K) := by
  refine T.F_is_integer.ok sc_is_integer (fun vs H Q E h => ?_) (fun cdv A outer s H vs Q E hr h => ?_)
  · obtain ⟨x, o, rfl, _⟩ := h
    rfl
  · obtain ⟨x, o, rfl, hx, k⟩ := h
    refine ⟨_, (pss_one (ps_ret (pe_and (pe_callB call_isi (by rfl) T.z_isinstance (by decide +kernel) (pa_cons (pv 0) (pa_cons (pe_bltn (v := .ty "int") rfl T.z_int (by decide +kernel) rfl) pa_nil))) (pe_one (pe_not (pe_callB call_isi (by rfl) T.z_isinstance (by decide +kernel) (pa_cons (pv 0) (pa_cons (pe_bltn (v := .ty "bool") rfl T.z_bool (by decide +kernel) rfl) pa_nil)))))))), ?_⟩
    cases o with
    | some i =>
      cases hx
      exact ⟨_, rfl, _, _, _, _, true, rfl, .ty _, .base (.int i), kit_ty (by decide +kernel), _, rfl, _, rfl, _, _, _, _, false, rfl, .ty _, .base (.int i), kit_ty (by decide +kernel), _, rfl, k⟩
    | none =>
      obtain ⟨t, b1, b2, ht, h1, h2, hb⟩ := hx
      refine ⟨_, rfl, _, _, _, _, b1, rfl, .ty _, ht, h1, _, rfl, ?_⟩
      cases b1 with
      | false => exact k
      | true =>
        refine ⟨_, rfl, _, _, _, _, b2, rfl, .ty _, ht, h2, _, rfl, ?_⟩
        have e : (!b2) = false := hb
        rw [e]
        exact k
def sp_is_at_least (K : PySem.W.Frag) : Sp := fun vs H Q _ => ∃ x o low, vs = [x, .int low] ∧ IsI K H x o ∧ Q (.bl (atLeast o low)) H
theorem ok_is_at_least (T : TX K mg) : FnOk P w K mg base CX0 2 T.f_is_at_least T.fd_is_at_least ["value", "low"] (sp_is_at_least K) := by
  refine T.F_is_at_least.ok sc_is_at_least (fun vs H Q E h => ?_) (fun cdv A outer s H vs Q E hr h => ?_)
  · obtain ⟨x, o, low, rfl, _⟩ := h
    rfl
  · obtain ⟨x, o, low, rfl, hx, k⟩ := h
    refine ⟨_, (pss_one (ps_ret (pe_and (pe_call (ok_is_integer T) hr rfl T.m_is_integer T.F_is_integer.kp T.b_is_integer .nil pass0 (pa_cons (pv 0) pa_nil)) (pe_one (pe_cmpR op_ge (pv 0) (pv 1) (nomark _)))))), ?_⟩
    refine ⟨_, rfl, x, o, rfl, hx, _, rfl, ?_⟩
    cases o with
    | none => exact k
    | some i =>
      cases hx
      exact ⟨_, rfl, _, rfl, _, _, rfl, rfl, k⟩
def sp_is_between (K : PySem.W.Frag) : Sp := fun vs H Q _ => ∃ x o low high, vs = [x, .int low, .int high] ∧ IsI K H x o ∧ Q (.bl (between o low high)) H
theorem ok_is_between (T : TX K mg) : FnOk P w K mg base CX0 2 T.f_is_between T.fd_is_between ["value", "low", "high"] (sp_is_between K) := by
  refine T.F_is_between.ok sc_is_between (fun vs H Q E h => ?_) (fun cdv A outer s H vs Q E hr h => ?_)
  · obtain ⟨x, o, low, high, rfl, _⟩ := h
    rfl
  · obtain ⟨x, o, low, high, rfl, hx, k⟩ := h
    refine ⟨_, (pss_one (ps_ret (pe_and (pe_call (ok_is_integer T) hr rfl T.m_is_integer T.F_is_integer.kp T.b_is_integer .nil pass0 (pa_cons (pv 0) pa_nil)) (pe_one (pe_chain op_le op_le (pv 1) (pv 0) (pv 2)))))), ?_⟩
    refine ⟨_, rfl, x, o, rfl, hx, _, rfl, ?_⟩
    cases o with
    | none => exact k
    | some i =>
      cases hx
      refine ⟨_, rfl, _, rfl, _, _, rfl, rfl, _, rfl, ?_⟩
      refine ite2 (fun c => ?_) (fun c => ?_)
      · have c1 : low ≤ i := of_decide_eq_true c
        refine ⟨_, rfl, _, _, rfl, rfl, ?_⟩
        have e : between (some i) low high = decide (i ≤ high) := by show (decide (low ≤ i) && decide (i ≤ high)) = _; rw [c]; rfl
        rw [e] at k
        exact k
      · have e : between (some i) low high = false := by show (decide (low ≤ i) && decide (i ≤ high)) = _; rw [Bool.eq_false_iff.mpr c]; rfl
        rw [e] at k
        exact k
end

/-- a table of these sizes stands at a -/
def TabAt (C : Addr) (H : Hp) (a : Addr) (ns : List Int) : Prop := ∃ dx t, H a = some (.ins C dx [("rings", .ref t)]) ∧ H t = some (.tup (ns.map V.int))
theorem TabAt.mono {C : Addr} {H H2 : Hp} {a : Addr} {ns : List Int} (e : Ex H H2) (h : TabAt C H a ns) : TabAt C H2 a ns := by
  obtain ⟨dx, t, h1, h2⟩ := h
  exact ⟨dx, t, e _ _ h1, e _ _ h2⟩
/-- a tracked list (false) or tuple (true) -/
def SqH (H : Hp) (p : Bool × Addr) (xs : List V) : Prop := if p.1 = true then H p.2 = some (.tup xs) else H p.2 = some (.lst xs)
theorem SqH.sq {K : PySem.W.Frag} {H : Hp} {p : Bool × Addr} {xs : List V} (h : SqH H p xs) : CZ.SqK K H p xs := by
  obtain ⟨b, a⟩ := p
  cases b
  · exact SqL.of (show H a = some (.lst xs) from h)
  · exact SqT.of (show H a = some (.tup xs) from h)
theorem SqH.mono {H H2 : Hp} {p : Bool × Addr} {xs : List V} (e : Ex H H2) (h : SqH H p xs) : SqH H2 p xs := by
  obtain ⟨b, a⟩ := p
  cases b
  · exact e _ _ (show H a = some (.lst xs) from h)
  · exact e _ _ (show H a = some (.tup xs) from h)
theorem SqH.ty {K : PySem.W.Frag} {H : Hp} {p : Bool × Addr} {xs : List V} (h : SqH H p xs) : TyX K H (.ref p.2) (.type (if p.1 = true then "tuple" else "list")) := by
  obtain ⟨b, a⟩ := p
  cases b
  · exact .base (.lst (show H a = some (.lst xs) from h))
  · exact .base (.tup (show H a = some (.tup xs) from h))
/-- sizes of a table -/
structure SzOk (ns : List Int) : Prop where
  pos : ns ≠ []
  le : ns.length ≤ 4
  one : ∀ n ∈ ns, 1 ≤ n
theorem len_line {α : Type} {l : List α} (h : l.length ≤ 4) : l.length ≤ sizeLine := Nat.le_trans h (by decide)
theorem take_lt {α : Type} {l : List α} (h : l.length ≤ 1000) (i : Nat) : (l.take i).length < sizeLine := by
  rw [List.length_take]
  exact Nat.lt_of_le_of_lt (Nat.le_trans (Nat.min_le_right _ _) h) (by decide)
theorem take_more {α : Type} {l : List α} {i : Nat} {x : α} (h : l[i]? = some x) : l.take (i + 1) = l.take i ++ [x] := by
  rw [List.take_add_one, h]
  rfl
theorem kit_seq {K : PySem.W.Frag} (b : Bool) : PySem.W.kitAny K (.type (if b = true then "tuple" else "list")) [.type "list", .type "tuple"] = some true := by
  cases b
  · exact kitAny_cons (b := true) (kit_ty (by decide +kernel)) (fun h => nomatch h) (fun _ => rfl)
  · exact kitAny_cons (b := false) (kit_ty (by decide +kernel)) (fun _ => kitAny_cons (b := true) (kit_ty (by decide +kernel)) (fun h => nomatch h) (fun _ => rfl)) (fun h => nomatch h)
theorem sq_or {K : PySem.W.Frag} {H : Hp} {b : Bool} {a : Addr} {xs : List V} (h : SqH H (b, a) xs) : SqL K H a xs ∨ SqT K H a xs := by
  cases b
  · exact .inl (SqL.of (show H a = some (.lst xs) from h))
  · exact .inr (SqT.of (show H a = some (.tup xs) from h))
section
variable {P : Program} {w : World} {K : PySem.W.Frag} {mg : Str → Option Value} {base : Heap}
def sp_Table_init (C : Addr) : Sp := fun vs H Q _ => ∃ (p dx : Addr) (q : Bool × Addr) (ns : List Int), vs = [.ref p, .ref q.2] ∧ H p = some (.ins C dx []) ∧ SqH H q (ns.map V.int) ∧ SzOk ns ∧
  ∀ H2, (∀ c o, c ≠ p → H c = some o → H2 c = some o) → (∃ t, H2 p = some (.ins C dx [("rings", .ref t)]) ∧ H2 t = some (.tup (ns.map V.int))) → Q .non H2
theorem ok_Table_init (T : TX K mg) : FnOk P w K mg base CX0 3 T.f_Table_init T.fd_Table_init ["self", "rings"] (sp_Table_init T.C_Table) := by
  refine T.F_Table_init.ok sc_Table_init (fun vs H Q E h => ?_) (fun cdv A outer s H vs Q E hr h => ?_)
  · obtain ⟨p, dx, q, ns, rfl, _⟩ := h
    rfl
  · obtain ⟨p, dx, ⟨b, a⟩, ns, rfl, hp, hq, ok, k⟩ := h
    refine ⟨_, (pss_cons (ps_if (PW.pt (pw_or (pt_not (pt_val (pe_callB call_isiT (by rfl) T.z_isinstance (by decide +kernel) (pa_cons (pv 1) (pa_cons (pe_tup (pa_cons (pe_bltn (v := .ty "list") rfl T.z_list (by decide +kernel) rfl) (pa_cons (pe_bltn (v := .ty "tuple") rfl T.z_tuple (by decide +kernel) rfl) pa_nil))) pa_nil))))) (pw_or1 (pt_not (pt_chain op_le op_le pe_int (pe_callB call_len_seq (by rfl) T.z_len (by decide +kernel) (pa_cons (pv 1) pa_nil)) (pe_glob (v := .int 4) rfl T.c_MAX_RINGS ⟨_, rfl⟩)))))) pss_never pss_nil) (pss_cons (ps_if (pt_not (pt_val (pe_callB (cr_all rfl) (by rfl) T.z_all (by decide +kernel) (pa_cons (pe_lc (own := [("size", 2)]) (g := (gName 2)) rfl sc_Table_init.nd (pi_seq (pv 1)) (blkOk_by (N := N_Table_init) (sc := defScope s_Table_init) (by decide +kernel)) (fun _ _ _ _ _ => (pg_name (i := 2) sc_Table_init.nd rfl (Or.inl rfl))) (fun _ _ _ _ _ => pts_nil) (fun _ _ _ _ _ => (pe_call (ok_is_at_least T) hr rfl T.m_is_at_least T.F_is_at_least.kp T.b_is_at_least .nil pass0 (pa_cons (pv 2) (pa_cons pe_int pa_nil))))) pa_nil)))) pss_never pss_nil) (pss_one (ps_fld (pv 0) (pe_callTy call_tuple_of (by rfl) T.z_tuple (by decide +kernel) (pa_cons (pv 1) pa_nil)) rfl)))), ?_⟩
    refine ⟨_, rfl, by show 2 ≤ sizeLine; decide, fun y hy => ?_⟩
    refine ⟨_, y, _, _, _, true, rfl, upd_same, .cons (.ty _) (.cons (.ty _) .nil), (hq.mono (exn hy)).ty, kit_seq b, _, rfl, iteF ?_⟩
    have q1 := hq.mono (exn (o := .tup [.ty "list", .ty "tuple"]) hy)
    have lp : 1 ≤ ns.length := List.length_pos_iff.mpr ok.pos
    have l4 := ok.le
    refine ⟨_, rfl, a, _, rfl, sq_or q1, _, _, rfl, rfl, _, rfl, itt (decide_eq_true (by rw [List.length_map]; omega)) ?_⟩
    refine ⟨_, _, rfl, rfl, _, rfl, itf ?_ ?_⟩
    · rw [List.length_map, decide_eq_true (by omega)]
      rfl
    · have all1 : (ns.map fun n => atLeast (some n) 1).all id = true := by
        rw [List.all_map, List.all_eq_true]
        exact fun n hn => decide_eq_true (ok.one n hn)
      refine ⟨_, rfl, (b, a), rfl, ⟨_, q1.sq⟩, fun D hD => ?_⟩
      refine lc_vals walk_seq ((ns.map fun n => atLeast (some n) 1).map V.bl) (by simp) (by rw [List.length_map]; omega) hD (fun H3 e => (q1.mono e).sq) ?_ gmono_name ?_
      · intro i x H3 H4 R hi e yy kk
        obtain ⟨rfl, hx⟩ := yy
        obtain ⟨n, hn, rfl⟩ := map_get hx
        exact ⟨rfl, _, rfl, _, some n, 1, rfl, rfl, kk _ _ exr (by simp [hn])⟩
      · intro H3 e hD3
        have hp3 := e _ _ (exn hy _ _ hp)
        have q3 := q1.mono e
        have ex3 : Ex H H3 := fun c o z => e _ _ (exn hy _ _ z)
        refine ⟨D, _, rfl, SqL.of hD3, _, rfl, itf (by rw [all1]; rfl) ?_⟩
        cases b with
        | false =>
          refine ⟨_, rfl, a, _, rfl, .inl ⟨SqL.of q3, fun l hl => ?_⟩⟩
          have npl : p ≠ l := ne_of_none hp3 hl
          refine ⟨_, rfl, p, _, dx, _, rfl, (by rw [upd_ne npl]; exact hp3), T.cl_Table, T.n_Table_rings, (by show 0 < 1000; decide), ?_⟩
          refine k _ (fun c o hc z => ?_) ⟨l, upd_same, by rw [upd_ne npl.symm, upd_same]⟩
          rw [upd_ne hc, upd_ne (ne_of_none (ex3 c o z) hl)]
          exact ex3 c o z
        | true =>
          refine ⟨_, rfl, a, _, rfl, .inr ⟨SqT.of q3, ?_⟩⟩
          refine ⟨_, rfl, p, _, dx, _, rfl, hp3, T.cl_Table, T.n_Table_rings, (by show 0 < 1000; decide), ?_⟩
          have q3 : H3 a = some (.tup (ns.map V.int)) := q3
          refine k _ (fun c o hc z => ?_) ⟨a, upd_same, by rw [upd_ne (ne_of q3 hp3 (by intro z; cases z))]; exact q3⟩
          rw [upd_ne hc]
          exact ex3 c o z
end

theorem TyX.mono {K : PySem.W.Frag} {H H2 : Hp} {x : V} {t : Value} (e : Ex H H2) (h : TyX K H x t) : TyX K H2 x t := by
  cases h with
  | base h =>
    cases h with
    | non => exact .base .non
    | bl x => exact .base (.bl x)
    | int x => exact .base (.int x)
    | str x => exact .base (.str x)
    | flt x => exact .base (.flt x)
    | lst h => exact .base (.lst (e _ _ h))
    | frz h => exact .base (.frz (e _ _ h))
    | tup h => exact .base (.tup (e _ _ h))
    | dK h => exact .base (.dK (e _ _ h))
    | dT h => exact .base (.dT (e _ _ h))
    | ins h a b c d f => exact .base (.ins (e _ _ h) a b c d f)
  | byt b => exact .byt b
  | set h => exact .set (e _ _ h)
  | kList a b => exact .kList a b
  | kTuple a b => exact .kTuple a b
  | kDict a b => exact .kDict a b
  | fTuple h => exact .fTuple (e _ _ h)
  | fDict h => exact .fDict (e _ _ h)
theorem IsI.mono {K : PySem.W.Frag} {H H2 : Hp} {x : V} {o : Option Int} (e : Ex H H2) (h : IsI K H x o) : IsI K H2 x o := by
  cases o with
  | some i => exact h
  | none =>
    obtain ⟨t, b1, b2, ht, r⟩ := h
    exact ⟨t, b1, b2, TyX.mono e ht, r⟩
theorem paired_get {α β : Type} {R : α → β → Prop} : ∀ {l : List α} {m : List β} {i : Nat} {x : α}, Paired R l m → l[i]? = some x → ∃ y, m[i]? = some y ∧ R x y
  | _, _, _, _, .nil, h => by simp at h
  | _, _, 0, _, .cons r _, h => by simp at h; subst h; exact ⟨_, rfl, r⟩
  | _, _, i + 1, x, .cons _ t, h => by
    obtain ⟨y, h1, h2⟩ := paired_get (i := i) (x := x) t (by simpa using h)
    exact ⟨y, by simpa using h1, h2⟩
/-- what an argument is as a tuple: its items, as ints or not -/
def TupA (K : PySem.W.Frag) (H : Hp) (x : V) : Option (List (Option Int)) → Prop
  | some os => ∃ a xs, x = .ref a ∧ H a = some (.tup xs) ∧ xs.length ≤ 1000 ∧ Paired (IsI K H) xs os
  | none => ∃ t, TyX K H x t ∧ PySem.W.kitOne K t (.type "tuple") = some false
theorem paired_ints {K : PySem.W.Frag} {H : Hp} : ∀ ps : List Int, Paired (IsI K H) (ps.map V.int) (ps.map some)
  | [] => .nil
  | p :: ps => .cons rfl (paired_ints ps)
theorem TupA.ints {K : PySem.W.Frag} {H : Hp} {a : Addr} {ps : List Int} (h : H a = some (.tup (ps.map V.int))) (hl : ps.length ≤ 1000) : TupA K H (.ref a) (some (ps.map some)) :=
  ⟨a, _, rfl, h, by rw [List.length_map]; exact hl, paired_ints ps⟩
def isSeatO (ns : List Int) : Option (List (Option Int)) → Bool
  | some os => decide (os.length = ns.length) && (List.zipWith (fun o n => between o 0 (n - 1)) os ns).all id
  | none => false
def isCallO (ns : List Int) : Option (List (Option Int)) → Bool
  | some os => decide (os.length = ns.length) && (os.map Option.isSome).all id
  | none => false
/-- a seat: one place a ring -/
def SeatOk : List Int → List Int → Prop
  | n :: ns, p :: ps => (0 ≤ p ∧ p < n) ∧ SeatOk ns ps
  | [], [] => True
  | _, _ => False
theorem SeatOk.len : ∀ {ns ps : List Int}, SeatOk ns ps → ps.length = ns.length
  | [], [], _ => rfl
  | _ :: _, _ :: _, h => by
    show _ + 1 = _ + 1
    rw [SeatOk.len h.2]
theorem seat_is : ∀ {ns ps : List Int}, SeatOk ns ps → (List.zipWith (fun o n => between o 0 (n - 1)) (ps.map some) ns).all id = true
  | [], [], _ => rfl
  | n :: ns, p :: ps, h => by
    have ih := seat_is h.2
    show (between (some p) 0 (n - 1) && _) = true
    rw [Bool.and_eq_true]
    refine ⟨?_, ih⟩
    show (decide (0 ≤ p) && decide (p ≤ n - 1)) = true
    rw [decide_eq_true h.1.1, decide_eq_true (by have := h.1.2; omega)]
    rfl
theorem isSeat_ok {ns ps : List Int} (h : SeatOk ns ps) : isSeatO ns (some (ps.map some)) = true := by
  show (decide ((ps.map some).length = ns.length) && _) = true
  rw [Bool.and_eq_true]
  exact ⟨decide_eq_true (by rw [List.length_map]; exact h.len), seat_is h⟩
theorem isCall_ok {ns cs : List Int} (h : cs.length = ns.length) : isCallO ns (some (cs.map some)) = true := by
  show (decide ((cs.map some).length = ns.length) && _) = true
  rw [Bool.and_eq_true]
  refine ⟨decide_eq_true (by rw [List.length_map]; exact h), ?_⟩
  rw [List.map_map, List.all_map, List.all_eq_true]
  exact fun _ _ => rfl
/-- a step by a multiple of a call -/
def shiftL : List Int → List Int → List Int → Int → List Int
  | n :: ns, p :: ps, c :: cs, f => (p + f * c) % n :: shiftL ns ps cs f
  | _, _, _, _ => []
theorem shift_len : ∀ {ns ps cs : List Int} {f : Int}, ps.length = ns.length → cs.length = ns.length → (shiftL ns ps cs f).length = ns.length
  | [], _, _, _, _, _ => by simp [shiftL]
  | _ :: ns, p :: ps, c :: cs, f, h1, h2 => by
    have ih := @shift_len ns ps cs f (by simpa using h1) (by simpa using h2)
    show (shiftL ns ps cs f).length + 1 = _ + 1
    rw [ih]
theorem shift_get : ∀ {ns ps cs : List Int} {f : Int} {i : Nat} {n p c : Int}, ns[i]? = some n → ps[i]? = some p → cs[i]? = some c → (shiftL ns ps cs f)[i]? = some ((p + f * c) % n)
  | n :: ns, p :: ps, c :: cs, f, 0, _, _, _, h1, h2, h3 => by
    simp at h1 h2 h3
    subst h1 h2 h3
    rfl
  | n :: ns, p :: ps, c :: cs, f, i + 1, a, b, d, h1, h2, h3 => by
    have ih := @shift_get ns ps cs f i a b d (by simpa using h1) (by simpa using h2) (by simpa using h3)
    show (shiftL ns ps cs f)[i]? = _
    exact ih
  | [], _, _, _, i, _, _, _, h1, _, _ => by simp at h1
  | _ :: _, [], _, _, i, _, _, _, _, h2, _ => by simp at h2
  | _ :: _, _ :: _, [], _, i, _, _, _, _, _, h3 => by simp at h3
theorem mul_ok {i j : Int} (h : (-(2 ^ 64) < i ∧ i < 2 ^ 64) ∨ (-(2 ^ 64) < j ∧ j < 2 ^ 64)) : IntMulOk i j := CMul.ok h
theorem zip_get {α β γ : Type} {f : α → β → γ} {l : List α} {m : List β} {i : Nat} {x : α} {y : β} (h1 : l[i]? = some x) (h2 : m[i]? = some y) : (List.zipWith f l m)[i]? = some (f x y) := by
  rw [List.getElem?_zipWith, h1, h2]
section
variable {P : Program} {w : World} {K : PySem.W.Frag} {mg : Str → Option Value} {base : Heap}
def sp_Table_sizes (C : Addr) : Sp := fun vs H Q _ => ∃ (a dx t : Addr), vs = [.ref a] ∧ H a = some (.ins C dx [("rings", .ref t)]) ∧ Q (.ref t) H
theorem ok_Table_sizes (T : TX K mg) : FnOk P w K mg base CX0 1 T.f_Table_sizes T.fd_Table_sizes ["self"] (sp_Table_sizes T.C_Table) := by
  refine T.F_Table_sizes.ok sc_Table_sizes (fun vs H Q E h => ?_) (fun cdv A outer s H vs Q E hr h => ?_)
  · obtain ⟨a, dx, t, rfl, _⟩ := h
    rfl
  · obtain ⟨a, dx, t, rfl, h1, k⟩ := h
    exact ⟨_, (pss_one (ps_ret (pe_fld (pv 0) rfl))), ⟨_, rfl, a, _, dx, _, _, rfl, h1, T.cl_Table, T.n_Table_rings, rfl, k⟩⟩
def sp_Table_is_seat (K : PySem.W.Frag) (C : Addr) : Sp := fun vs H Q _ => ∃ (a : Addr) (x : V) (ns : List Int) (ot : Option (List (Option Int))), vs = [.ref a, x] ∧ TabAt C H a ns ∧ ns.length ≤ 4 ∧ TupA K H x ot ∧ ∀ H2, Ex H H2 → Q (.bl (isSeatO ns ot)) H2
theorem ok_Table_is_seat (T : TX K mg) : FnOk P w K mg base CX0 3 T.f_Table_is_seat T.fd_Table_is_seat ["self", "value"] (sp_Table_is_seat K T.C_Table) := by
  refine T.F_Table_is_seat.ok sc_Table_is_seat (fun vs H Q E h => ?_) (fun cdv A outer s H vs Q E hr h => ?_)
  · obtain ⟨a, x, ns, ot, rfl, _⟩ := h
    rfl
  · obtain ⟨a, x, ns, ot, rfl, ⟨dx, t, h1, h2⟩, l4, hx, k⟩ := h
    refine ⟨_, (pss_cons (ps_if (PW.pt (pw_or (pt_not (pt_val (pe_callB call_isi (by rfl) T.z_isinstance (by decide +kernel) (pa_cons (pv 1) (pa_cons (pe_bltn (v := .ty "tuple") rfl T.z_tuple (by decide +kernel) rfl) pa_nil))))) (pw_or1 (pt_cmpR op_ne (pe_callB call_len_seq (by rfl) T.z_len (by decide +kernel) (pa_cons (pv 1) pa_nil)) (pe_callB call_len_seq (by rfl) T.z_len (by decide +kernel) (pa_cons (pe_fld (pv 0) rfl) pa_nil)) (nomark _))))) (pss_one (ps_ret pe_bl)) pss_nil) (pss_one (ps_ret (pe_callB (cr_all rfl) (by rfl) T.z_all (by decide +kernel) (pa_cons (pe_lc (own := [("place", 2), ("size", 3)]) (g := (gTup K 2 (gCons (gName 2) (gCons (gName 3) gNil)))) rfl sc_Table_is_seat.nd (CZ.pi_z2s (fl := [true, true]) rfl (by rfl) T.z_zip (pa_cons (pv 1) (pa_cons (pe_fld (pv 0) rfl) pa_nil))) (blkOk_by (N := N_Table_is_seat) (sc := defScope s_Table_is_seat) (by decide +kernel)) (fun _ _ _ _ _ => (pg_tup rfl (pgs_cons (pg_name (i := 2) sc_Table_is_seat.nd rfl (Or.inl rfl)) (pgs_cons (pg_name (i := 3) sc_Table_is_seat.nd rfl (Or.inl rfl)) pgs_nil)))) (fun _ _ _ _ _ => pts_nil) (fun _ _ _ _ _ => (pe_call (ok_is_between T) hr rfl T.m_is_between T.F_is_between.kp T.b_is_between .nil pass0 (pa_cons (pv 2) (pa_cons pe_int (pa_cons (pe_op op_sub (pv 3) pe_int) pa_nil)))))) pa_nil))))), ?_⟩
    cases ot with
    | none =>
      obtain ⟨ty, hty, hk⟩ := hx
      exact ⟨_, rfl, _, _, _, _, false, rfl, .ty _, hty, hk, _, rfl, k _ exr⟩
    | some os =>
      obtain ⟨v, xs, rfl, hv, hl, hp⟩ := hx
      have lo : xs.length = os.length := Paired.length hp
      refine ⟨_, rfl, _, _, _, _, true, rfl, .ty _, .base (.tup hv), kit_ty (by decide +kernel), _, rfl, iteF ?_⟩
      refine ⟨_, rfl, v, _, rfl, .inr (SqT.of hv), _, rfl, a, _, dx, _, _, rfl, h1, T.cl_Table, T.n_Table_rings, rfl, t, _, rfl, .inr (SqT.of h2), rfl, _, rfl, ?_⟩
      by_cases c : os.length = ns.length
      · refine itf ?_ ?_
        · rw [List.length_map, lo, c]
          simp
        · refine ⟨_, rfl, _, rfl, a, _, dx, _, _, rfl, h1, T.cl_Table, T.n_Table_rings, rfl, [v, t], rfl, rfl, ?_, fun D hD => ?_⟩
          · intro p hp2
            rcases List.mem_cons.mp (show p ∈ [(true, v), (true, t)] from hp2) with e | e
            · rw [e]; exact ⟨xs, SqT.of hv⟩
            · rw [List.mem_singleton.mp e]; exact ⟨_, SqT.of h2⟩
          · have lv : (List.zipWith (fun o n => between o 0 (n - 1)) os ns).length = ns.length := by rw [List.length_zipWith, c, Nat.min_self]
            refine lc_vals (CZ.walk_rows (xss := [xs, ns.map V.int]) (n := ns.length) ?_) ((List.zipWith (fun o n => between o 0 (n - 1)) os ns).map V.bl) (by rw [List.length_map, lv]) (by omega) hD (fun H3 e => .cons (SqT.of (e _ _ hv)) (.cons (SqT.of (e _ _ h2)) .nil)) ?_ (gmono_tup (gmono_cons gmono_name (gmono_cons gmono_name gmono_nil))) ?_
            · intro ys hy
              rcases List.mem_cons.mp hy with e | e
              · rw [e, lo, c]
              · rw [List.mem_singleton.mp e, List.length_map]
            · intro i y H3 H4 R hi e yy kk
              obtain ⟨Ta, vs, rfl, hT, rfl, hr2⟩ := yy
              cases hr2 with
              | cons r1 hr2 =>
                cases hr2 with
                | cons r2 hr2 =>
                  cases hr2
                  obtain ⟨n, hn, rfl⟩ := map_get r2
                  obtain ⟨o, ho, hi2⟩ := paired_get hp r1
                  refine ⟨Ta, _, rfl, SqT.of upd_same, rfl, _, _, rfl, _, _, rfl, rfl, rfl, ?_⟩
                  refine ⟨_, rfl, _, rfl, _, _, rfl, rfl, _, o, 0, n - 1, rfl, hi2.mono (fun b u z => exn hT b u (e b u z)), ?_⟩
                  refine kk _ _ (exn hT) ?_
                  rw [List.getElem?_map, zip_get ho hn]
                  rfl
            · intro H3 e hD3
              refine ⟨D, _, rfl, SqL.of hD3, ?_⟩
              have es : isSeatO ns (some os) = (List.zipWith (fun o n => between o 0 (n - 1)) os ns).all id := by
                show (decide _ && _) = _
                rw [decide_eq_true c, Bool.true_and]
              rw [← es]
              exact k _ e
      · refine itt ?_ ?_
        · rw [List.length_map, lo]
          simp
          omega
        · have es : isSeatO ns (some os) = false := by
            show (decide _ && _) = _
            rw [decide_eq_false c, Bool.false_and]
          have := k _ exr
          rw [es] at this
          exact this
end

/-- what an argument is as a text -/
def StrA (K : PySem.W.Frag) (H : Hp) (x : V) : Option Str → Prop
  | some z => x = .str z
  | none => ∃ t, TyX K H x t ∧ PySem.W.kitOne K t (.type "str") = some false
def isDirO : Option Str → Bool
  | some z => decide (z = "forward") || decide (z = "backward")
  | none => false
theorem tup_ge {xs : List V} (h : xs.length ≤ 4) : xs.length ≤ sizeLine := Nat.le_trans h (by decide)
section
variable {P : Program} {w : World} {K : PySem.W.Frag} {mg : Str → Option Value} {base : Heap}
def sp_require_seat (K : PySem.W.Frag) (C : Addr) : Sp := fun vs H Q _ => ∃ (a : Addr) (x : V) (ns : List Int) (ot : Option (List (Option Int))), vs = [.ref a, x] ∧ TabAt C H a ns ∧ ns.length ≤ 4 ∧ TupA K H x ot ∧ isSeatO ns ot = true ∧ ∀ H2, Ex H H2 → Q .non H2
theorem ok_require_seat (T : TX K mg) : FnOk P w K mg base CX0 4 T.f_require_seat T.fd_require_seat ["table", "seat"] (sp_require_seat K T.C_Table) := by
  refine T.F_require_seat.ok sc_require_seat (fun vs H Q E h => ?_) (fun cdv A outer s H vs Q E hr h => ?_)
  · obtain ⟨a, x, ns, ot, rfl, _⟩ := h
    rfl
  · obtain ⟨a, x, ns, ot, rfl, ht, l4, hx, ok, k⟩ := h
    refine ⟨_, (pss_one (ps_if (pt_not (pt_val (pe_meth (pv 0) T.cl_Table T.me_Table_is_seat (ok_Table_is_seat T) hr T.b_Table_is_seat .nil pass0 (pa_cons (pv 1) pa_nil)))) pss_never pss_nil)), ?_⟩
    obtain ⟨dx, t, h1, h2⟩ := id ht
    refine ⟨_, rfl, a, dx, _, rfl, h1, rfl, _, rfl, a, x, ns, ot, rfl, ht, l4, hx, fun H2 e => ⟨_, rfl, itf (by rw [ok]; rfl) (k _ e)⟩⟩
end

/-- all but what is at s stays -/
def XB (s : Addr) (H H2 : Hp) : Prop := ∀ c o, c ≠ s → H c = some o → H2 c = some o
theorem XB.refl {s : Addr} {H : Hp} : XB s H H := fun _ _ _ h => h
theorem XB.trans {s : Addr} {H H1 H2 : Hp} (a : XB s H H1) (b : XB s H1 H2) : XB s H H2 := fun c o n h => b c o n (a c o n h)
theorem XB.upd {s : Addr} {H : Hp} {o : HO} : XB s H (upd H s o) := fun c u n h => by rw [upd_ne n]; exact h
theorem XB.of {s : Addr} {H H2 : Hp} (e : Ex H H2) : XB s H H2 := fun c o _ h => e c o h
theorem XB.back {s : Addr} {H H2 : Hp} (e : XB s H H2) {p : Addr} (hn : p ≠ s) (h : H2 p = none) : H p = none := by
  cases q : H p with
  | none => rfl
  | some o => rw [e p o hn q] at h; cases h
theorem mod_lo {i n : Int} (h : 0 < n) : 0 ≤ i % n := Int.emod_nonneg i (by omega)
theorem mod_hi {i n : Int} (h : 0 < n) : i % n < n := Int.emod_lt_of_pos i h

/-! ### data -/
mutual
theorem eqv_refl : ∀ d : PyData, d.canLay0 = true → PyData.eqv d d = true
  | .none, _ => by simp only [PyData.eqv]
  | .bool b, _ => by simp only [PyData.eqv, beq_self_eq_true]
  | .int i, _ => by simp only [PyData.eqv, beq_self_eq_true]
  | .str x, _ => by simp only [PyData.eqv, beq_self_eq_true]
  | .list xs, h => by
    simp only [PyData.canLay0] at h
    simp only [PyData.eqv]
    exact eqvAll_refl xs h
  | .tuple xs, h => by
    simp only [PyData.canLay0] at h
    simp only [PyData.eqv]
    exact eqvAll_refl xs h
  | .dict _, h => by simp [PyData.canLay0] at h
theorem eqvAll_refl : ∀ ds : List PyData, PyData.canLayAll0 ds = true → PyData.eqvAll ds ds = true
  | [], _ => by simp only [PyData.eqvAll]
  | d :: ds, h => by
    simp only [PyData.canLayAll0, Bool.and_eq_true] at h
    simp only [PyData.eqvAll, Bool.and_eq_true]
    exact ⟨eqv_refl d h.1, eqvAll_refl ds h.2⟩
end
/-- data of a depth below n, in a form that may be laid -/
def Sh (n : Nat) (d : PyData) : Prop := d.canLay0 = true ∧ d.depth ≤ n
theorem Sh.ok {d : PyData} (h : Sh 60 d) : SeqAt.shaped d = true := by
  unfold SeqAt.shaped
  rw [h.1, decide_eq_true (Nat.le_trans h.2 (by decide))]
  rfl
theorem sh_int {n : Nat} (i : Int) : Sh n (.int i) := ⟨by simp only [PyData.canLay0], by simp only [PyData.depth]; omega⟩
theorem sh_bool {n : Nat} (i : Bool) : Sh n (.bool i) := ⟨by simp only [PyData.canLay0], by simp only [PyData.depth]; omega⟩
theorem sh_none {n : Nat} : Sh n .none := ⟨by simp only [PyData.canLay0], by simp only [PyData.depth]; omega⟩
theorem sh_all {n : Nat} : ∀ {ds : List PyData}, (∀ d ∈ ds, Sh n d) → PyData.canLayAll0 ds = true ∧ PyData.depthAll ds ≤ n
  | [], _ => ⟨by simp only [PyData.canLayAll0], by simp only [PyData.depthAll]; omega⟩
  | d :: ds, h => by
    obtain ⟨h1, h2⟩ := h d List.mem_cons_self
    obtain ⟨g1, g2⟩ := sh_all fun x hx => h x (List.mem_cons_of_mem _ hx)
    refine ⟨by simp only [PyData.canLayAll0, h1, g1, Bool.and_self], ?_⟩
    simp only [PyData.depthAll]
    omega
theorem sh_tuple {n : Nat} {ds : List PyData} (h : ∀ d ∈ ds, Sh n d) : Sh (n + 1) (.tuple ds) := by
  obtain ⟨h1, h2⟩ := sh_all h
  exact ⟨by simp only [PyData.canLay0, h1], by simp only [PyData.depth]; omega⟩
theorem sh_list {n : Nat} {ds : List PyData} (h : ∀ d ∈ ds, Sh n d) : Sh (n + 1) (.list ds) := by
  obtain ⟨h1, h2⟩ := sh_all h
  exact ⟨by simp only [PyData.canLay0, h1], by simp only [PyData.depth]; omega⟩
theorem Sh.up {n m : Nat} {d : PyData} (h : Sh n d) (e : n ≤ m) : Sh m d := ⟨h.1, Nat.le_trans h.2 e⟩
/-- a tuple of ints -/
abbrev iT (ns : List Int) : PyData := .tuple (ns.map PyData.int)
theorem sh_ints {n : Nat} (ns : List Int) : Sh (n + 1) (iT ns) := sh_tuple fun d hd => by
  obtain ⟨i, _, rfl⟩ := List.mem_map.mp hd
  exact sh_int i
theorem dpall_ints {K : PySem.W.Frag} {H : Hp} : ∀ ns : List Int, DpAll K H (ns.map V.int) (ns.map PyData.int)
  | [] => .nil
  | n :: ns => .cons (.int n) (dpall_ints ns)
theorem dp_ints {K : PySem.W.Frag} {H : Hp} {a : Addr} {ns : List Int} (h : H a = some (.tup (ns.map V.int))) : Dp K H (.ref a) (iT ns) := .tup (SqT.of h) (dpall_ints ns)
theorem eqvAll_ints : ∀ ns ms : List Int, PyData.eqvAll (ns.map PyData.int) (ms.map PyData.int) = decide (ns = ms)
  | [], [] => by simp [PyData.eqvAll]
  | [], _ :: _ => by simp [PyData.eqvAll]
  | _ :: _, [] => by simp [PyData.eqvAll]
  | n :: ns, m :: ms => by
    have ih := eqvAll_ints ns ms
    simp only [List.map_cons, PyData.eqvAll, PyData.eqv, ih]
    by_cases h : n = m
    · subst h
      simp
    · have : (n == m) = false := by simpa using h
      rw [this]
      simp [h]
theorem eqv_ints (ns ms : List Int) : PyData.eqv (iT ns) (iT ms) = decide (ns = ms) := by
  simp only [PyData.eqv]
  exact eqvAll_ints ns ms
theorem sh_pair {n : Nat} {a b : PyData} (ha : Sh n a) (hb : Sh n b) : Sh (n + 1) (.tuple [a, b]) := sh_tuple fun d hd => by
  rcases List.mem_cons.mp hd with e | e
  · rw [e]; exact ha
  · rw [List.mem_singleton.mp e]; exact hb
theorem eqv_same {d : PyData} (h : Sh 60 d) : (!PyData.eqv d d) = false := by rw [eqv_refl d h.1]; rfl

/-! ### zip's rows, nested comprehensions, lists of tuples of ints -/
theorem yrow2 {xs ys : List V} {i : Nat} {H H2 : Hp} {x : V} (h : CZ.YRow [xs, ys] i H x H2) : ∃ (Ta : Addr) (a b : V), x = .ref Ta ∧ H Ta = none ∧ H2 = upd H Ta (.tup [a, b]) ∧ xs[i]? = some a ∧ ys[i]? = some b := by
  obtain ⟨Ta, vs, rfl, hT, rfl, r⟩ := h
  cases r with
  | cons r1 r =>
    cases r with
    | cons r2 r =>
      cases r
      exact ⟨Ta, _, _, rfl, hT, rfl, r1, r2⟩
theorem yrow3 {xs ys zs : List V} {i : Nat} {H H2 : Hp} {x : V} (h : CZ.YRow [xs, ys, zs] i H x H2) : ∃ (Ta : Addr) (a b c : V), x = .ref Ta ∧ H Ta = none ∧ H2 = upd H Ta (.tup [a, b, c]) ∧ xs[i]? = some a ∧ ys[i]? = some b ∧ zs[i]? = some c := by
  obtain ⟨Ta, vs, rfl, hT, rfl, r⟩ := h
  cases r with
  | cons r1 r =>
    cases r with
    | cons r2 r =>
      cases r with
      | cons r3 r =>
        cases r
        exact ⟨Ta, _, _, _, rfl, hT, rfl, r1, r2, r3⟩
theorem yints2 {xs ys : List Int} {i : Nat} {H H2 : Hp} {x : V} (h : CZ.YRow [xs.map V.int, ys.map V.int] i H x H2) : ∃ (Ta : Addr) (a b : Int), x = .ref Ta ∧ H Ta = none ∧ H2 = upd H Ta (.tup [.int a, .int b]) ∧ xs[i]? = some a ∧ ys[i]? = some b := by
  obtain ⟨Ta, a, b, rfl, hT, rfl, r1, r2⟩ := yrow2 h
  obtain ⟨p, hp, rfl⟩ := map_get r1
  obtain ⟨q, hq, rfl⟩ := map_get r2
  exact ⟨Ta, p, q, rfl, hT, rfl, hp, hq⟩
theorem yints3 {xs ys zs : List Int} {i : Nat} {H H2 : Hp} {x : V} (h : CZ.YRow [xs.map V.int, ys.map V.int, zs.map V.int] i H x H2) : ∃ (Ta : Addr) (a b c : Int), x = .ref Ta ∧ H Ta = none ∧ H2 = upd H Ta (.tup [.int a, .int b, .int c]) ∧ xs[i]? = some a ∧ ys[i]? = some b ∧ zs[i]? = some c := by
  obtain ⟨Ta, a, b, c, rfl, hT, rfl, r1, r2, r3⟩ := yrow3 h
  obtain ⟨p, hp, rfl⟩ := map_get r1
  obtain ⟨q, hq, rfl⟩ := map_get r2
  obtain ⟨r, hr, rfl⟩ := map_get r3
  exact ⟨Ta, p, q, r, rfl, hT, rfl, hp, hq, hr⟩
theorem all2 {K : PySem.W.Frag} {H : Hp} {p q : Bool × Addr} {xs ys : List V} (hp : CZ.SqK K H p xs) (hq : CZ.SqK K H q ys) : ∀ r ∈ [p, q], ∃ zs, CZ.SqK K H r zs := fun r hr => by
  rcases List.mem_cons.mp hr with e | hr
  · rw [e]; exact ⟨_, hp⟩
  · rw [List.mem_singleton.mp hr]; exact ⟨_, hq⟩
theorem all3 {K : PySem.W.Frag} {H : Hp} {p q t : Bool × Addr} {xs ys us : List V} (hp : CZ.SqK K H p xs) (hq : CZ.SqK K H q ys) (ht : CZ.SqK K H t us) : ∀ r ∈ [p, q, t], ∃ zs, CZ.SqK K H r zs := fun r hr => by
  rcases List.mem_cons.mp hr with e | hr
  · rw [e]; exact ⟨_, hp⟩
  · exact all2 hq ht r hr
theorem lens2 {xs ys : List V} {n : Nat} (h1 : xs.length = n) (h2 : ys.length = n) : ∀ zs ∈ [xs, ys], zs.length = n := fun zs hz => by
  rcases List.mem_cons.mp hz with e | hz
  · rw [e]; exact h1
  · rw [List.mem_singleton.mp hz]; exact h2
theorem lens3 {xs ys us : List V} {n : Nat} (h1 : xs.length = n) (h2 : ys.length = n) (h3 : us.length = n) : ∀ zs ∈ [xs, ys, us], zs.length = n := fun zs hz => by
  rcases List.mem_cons.mp hz with e | hz
  · rw [e]; exact h1
  · exact lens2 h2 h3 zs hz
theorem sqT {K : PySem.W.Frag} {H : Hp} {a : Addr} {xs : List V} (h : H a = some (.tup xs)) : CZ.SqK K H (true, a) xs := SqT.of h
theorem sqL {K : PySem.W.Frag} {H : Hp} {a : Addr} {xs : List V} (h : H a = some (.lst xs)) : CZ.SqK K H (false, a) xs := SqL.of h
section
variable {J : It} {n : Nat} {G : Hp → Prop} {Y : Nat → Hp → V → Hp → Prop}
/-- a comprehension of two loops: the outer -/
theorem lc2_it (w : Walk J n G Y) {g g1 : TG} {tt tt1 : TT} {te : TE} {wi1 : TI} {vs vs1 : List Nat} {σ : L2.St} {H1 : Hp} {D : Addr} {Qd : Hp → Prop} (Pv : Nat → Hp → Prop) (h0 : Pv 0 (upd H1 D (.lst []))) (hG : ∀ i H, i ≤ n → Pv i H → G H)
    (hs : ∀ i x H H2, i < n → Pv i H → Y i H x H2 → g x (wipe σ vs) H2 fun σ2 H2 => wipe σ2 vs = wipe σ vs ∧ tt σ2 H2 fun b H3 =>
      if b = true then wi1 σ2 H3 fun J1 H4 => ∃ W1 : Nat → Nat → Hp → Prop, (∃ m, W1 0 m H4) ∧ ∀ j k H, W1 j k H →
        (J1.stop j H ∧ Pv (i + 1) H) ∨ (J1.go j H ∧ ∃ Nx1 : Hp → Prop, (∀ H2, Nx1 H2 → ∃ k2, k2 < k ∧ W1 (j + 1) k2 H2) ∧ ∀ x H2, J1.yld j H x H2 → g1 x (wipe σ2 vs1) H2 fun σ3 H5 => wipe σ3 vs1 = wipe σ2 vs1 ∧ tt1 σ3 H5 fun b H6 =>
          if b = true then te σ3 H6 fun y H7 => ∃ acc, H7 D = some (.lst acc) ∧ acc.length < sizeLine ∧ Nx1 (upd H7 D (.lst (acc ++ [y]))) else Nx1 H6)
      else Pv (i + 1) H3) (hd : ∀ H, Pv n H → Qd H) :
    ∃ W : Nat → Nat → Hp → Prop, (∃ m, W 0 m (upd H1 D (.lst []))) ∧ ∀ i m H, W i m H →
      (J.stop i H ∧ Qd H) ∨ (J.go i H ∧ ∃ Nx : Hp → Prop, (∀ H2, Nx H2 → ∃ m2, m2 < m ∧ W (i + 1) m2 H2) ∧ ∀ x H2, J.yld i H x H2 → g x (wipe σ vs) H2 fun σ2 H2 => wipe σ2 vs = wipe σ vs ∧ tt σ2 H2 fun b H3 =>
        if b = true then wi1 σ2 H3 fun J1 H4 => ∃ W1 : Nat → Nat → Hp → Prop, (∃ m, W1 0 m H4) ∧ ∀ j k H, W1 j k H →
          (J1.stop j H ∧ Nx H) ∨ (J1.go j H ∧ ∃ Nx1 : Hp → Prop, (∀ H2, Nx1 H2 → ∃ k2, k2 < k ∧ W1 (j + 1) k2 H2) ∧ ∀ x H2, J1.yld j H x H2 → g1 x (wipe σ2 vs1) H2 fun σ3 H5 => wipe σ3 vs1 = wipe σ2 vs1 ∧ tt1 σ3 H5 fun b H6 =>
            if b = true then te σ3 H6 fun y H7 => ∃ acc, H7 D = some (.lst acc) ∧ acc.length < sizeLine ∧ Nx1 (upd H7 D (.lst (acc ++ [y]))) else Nx1 H6)
        else Nx H3) := by
  refine ⟨fun i m H => m = n - i ∧ i ≤ n ∧ Pv i H, ⟨n, by simp, Nat.zero_le _, h0⟩, ?_⟩
  rintro i m H ⟨rfl, hi, p⟩
  have q := hG i H hi p
  by_cases hlt : i < n
  · refine .inr ⟨w.goes i H hlt q, Pv (i + 1), fun H2 p2 => ⟨n - (i + 1), by omega, rfl, hlt, p2⟩, fun x H2 y => hs i x H H2 hlt p (w.yields i H x H2 hlt q y)⟩
  · have e : i = n := by omega
    subst e
    exact .inl ⟨w.stops H q, hd H p⟩
/-- .. the inner -/
theorem in_it (w : Walk J n G Y) {g1 : TG} {tt1 : TT} {te : TE} {vs1 : List Nat} {σ2 : L2.St} {H4 : Hp} {D : Addr} {Nx : Hp → Prop} (Pw : Nat → Hp → Prop) (h0 : Pw 0 H4) (hG : ∀ i H, i ≤ n → Pw i H → G H)
    (hs : ∀ j x H H2, j < n → Pw j H → Y j H x H2 → g1 x (wipe σ2 vs1) H2 fun σ3 H5 => wipe σ3 vs1 = wipe σ2 vs1 ∧ tt1 σ3 H5 fun b H6 =>
      if b = true then te σ3 H6 fun y H7 => ∃ acc, H7 D = some (.lst acc) ∧ acc.length < sizeLine ∧ Pw (j + 1) (upd H7 D (.lst (acc ++ [y]))) else Pw (j + 1) H6) (hd : ∀ H, Pw n H → Nx H) :
    ∃ W1 : Nat → Nat → Hp → Prop, (∃ m, W1 0 m H4) ∧ ∀ j k H, W1 j k H →
      (J.stop j H ∧ Nx H) ∨ (J.go j H ∧ ∃ Nx1 : Hp → Prop, (∀ H2, Nx1 H2 → ∃ k2, k2 < k ∧ W1 (j + 1) k2 H2) ∧ ∀ x H2, J.yld j H x H2 → g1 x (wipe σ2 vs1) H2 fun σ3 H5 => wipe σ3 vs1 = wipe σ2 vs1 ∧ tt1 σ3 H5 fun b H6 =>
        if b = true then te σ3 H6 fun y H7 => ∃ acc, H7 D = some (.lst acc) ∧ acc.length < sizeLine ∧ Nx1 (upd H7 D (.lst (acc ++ [y]))) else Nx1 H6) := by
  refine ⟨fun i m H => m = n - i ∧ i ≤ n ∧ Pw i H, ⟨n, by simp, Nat.zero_le _, h0⟩, ?_⟩
  rintro i m H ⟨rfl, hi, p⟩
  have q := hG i H hi p
  by_cases hlt : i < n
  · refine .inr ⟨w.goes i H hlt q, Pw (i + 1), fun H2 p2 => ⟨n - (i + 1), by omega, rfl, hlt, p2⟩, fun x H2 y => hs i x H H2 hlt p (w.yields i H x H2 hlt q y)⟩
  · have e : i = n := by omega
    subst e
    exact .inl ⟨w.stops H q, hd H p⟩
end
/-- refs of tuples of ints -/
def RowsR (H : Hp) (xs : List V) (hss : List (List Int)) : Prop := Paired (fun x hs => ∃ r, x = V.ref r ∧ H r = some (.tup (hs.map V.int))) xs hss
theorem RowsR.mono {H H2 : Hp} (e : Ex H H2) : ∀ {xs : List V} {hss : List (List Int)}, RowsR H xs hss → RowsR H2 xs hss
  | _, _, .nil => .nil
  | _, _, .cons ⟨r, h1, h2⟩ t => .cons ⟨r, h1, e _ _ h2⟩ (RowsR.mono e t)
theorem RowsR.snoc {H : Hp} {r : Addr} {hs : List Int} (h : H r = some (.tup (hs.map V.int))) : ∀ {xs : List V} {hss : List (List Int)}, RowsR H xs hss → RowsR H (xs ++ [.ref r]) (hss ++ [hs])
  | _, _, .nil => .cons ⟨r, rfl, h⟩ .nil
  | _, _, .cons q t => .cons q (RowsR.snoc h t)
theorem RowsR.app {H : Hp} {ys : List V} {kss : List (List Int)} (h : RowsR H ys kss) : ∀ {xs : List V} {hss : List (List Int)}, RowsR H xs hss → RowsR H (xs ++ ys) (hss ++ kss)
  | _, _, .nil => h
  | _, _, .cons q t => .cons q (RowsR.app h t)
theorem RowsR.len {H : Hp} : ∀ {xs : List V} {hss : List (List Int)}, RowsR H xs hss → xs.length = hss.length
  | _, _, .nil => rfl
  | _, _, .cons _ t => by rw [List.length_cons, List.length_cons, RowsR.len t]
theorem RowsR.get {H : Hp} : ∀ {xs : List V} {hss : List (List Int)} {i : Nat} {x : V}, RowsR H xs hss → xs[i]? = some x → ∃ hs r, hss[i]? = some hs ∧ x = V.ref r ∧ H r = some (.tup (hs.map V.int))
  | _, _, _, _, .nil, h => by simp at h
  | _, _, 0, _, .cons ⟨r, e, q⟩ _, h => by
    simp only [List.length_cons, Nat.zero_lt_succ, List.getElem?_eq_getElem, List.getElem_cons_zero, Option.some.injEq] at h
    subst h
    exact ⟨_, r, rfl, e, q⟩
  | _, _, i + 1, _, .cons _ t, h => by
    rw [List.getElem?_cons_succ] at h ⊢
    exact RowsR.get t h
theorem RowsR.dp {K : PySem.W.Frag} {H : Hp} : ∀ {xs : List V} {hss : List (List Int)}, RowsR H xs hss → DpAll K H xs (hss.map iT)
  | _, _, .nil => .nil
  | _, _, .cons ⟨r, e, q⟩ t => by
    subst e
    exact .cons (dp_ints q) (RowsR.dp t)
/-- a list of tuples of ints -/
def RowsAt (H : Hp) (D : Addr) (hss : List (List Int)) : Prop := ∃ xs, H D = some (.lst xs) ∧ RowsR H xs hss
theorem RowsAt.mono {H H2 : Hp} {D : Addr} {hss : List (List Int)} (e : Ex H H2) (h : RowsAt H D hss) : RowsAt H2 D hss := by
  obtain ⟨xs, h1, h2⟩ := h
  exact ⟨xs, e _ _ h1, h2.mono e⟩
theorem RowsAt.dp {K : PySem.W.Frag} {H : Hp} {D : Addr} {hss : List (List Int)} (h : RowsAt H D hss) : Dp K H (.ref D) (.list (hss.map iT)) := by
  obtain ⟨xs, h1, h2⟩ := h
  exact .lst (SqL.of h1) h2.dp
theorem sh_rows {n : Nat} (hss : List (List Int)) : Sh (n + 2) (.list (hss.map iT)) := sh_list fun d hd => by
  obtain ⟨hs, _, rfl⟩ := List.mem_map.mp hd
  exact sh_ints hs
theorem eqvAll_rows : ∀ ns ms : List (List Int), PyData.eqvAll (ns.map iT) (ms.map iT) = decide (ns = ms)
  | [], [] => by simp [PyData.eqvAll]
  | [], _ :: _ => by simp [PyData.eqvAll]
  | _ :: _, [] => by simp [PyData.eqvAll]
  | n :: ns, m :: ms => by
    have ih := eqvAll_rows ns ms
    simp only [List.map_cons, PyData.eqvAll, eqv_ints, ih]
    by_cases h : n = m
    · subst h
      simp
    · simp [h]
theorem eqv_rows (ns ms : List (List Int)) : PyData.eqv (.list (ns.map iT)) (.list (ms.map iT)) = decide (ns = ms) := by
  simp only [PyData.eqv]
  exact eqvAll_rows ns ms
theorem RowsR.upd {H : Hp} {D : Addr} {acc : List V} {o : HO} (hD : H D = some (.lst acc)) : ∀ {xs : List V} {hss : List (List Int)}, RowsR H xs hss → RowsR (upd H D o) xs hss
  | _, _, .nil => .nil
  | _, _, .cons ⟨r, h1, h2⟩ t => .cons ⟨r, h1, by rw [upd_ne (ne_of h2 hD (by intro z; cases z))]; exact h2⟩ (RowsR.upd hD t)
theorem rows_push {H : Hp} {D u : Addr} {hss : List (List Int)} {ks : List Int} (h : RowsAt H D hss) (hu : H u = some (.tup (ks.map V.int))) : ∃ acc, H D = some (.lst acc) ∧ acc.length = hss.length ∧ RowsAt (upd H D (.lst (acc ++ [.ref u]))) D (hss ++ [ks]) := by
  obtain ⟨xs, h1, h2⟩ := h
  refine ⟨xs, h1, h2.len, _, upd_same, ?_⟩
  exact RowsR.snoc (by rw [upd_ne (ne_of hu h1 (by intro z; cases z))]; exact hu) (h2.upd h1)
theorem ex_upd {H H2 : Hp} {D : Addr} {o : HO} (e : Ex H H2) (hD : H D = none) : Ex H (upd H2 D o) := fun c u z => by
  rw [upd_ne (ne_of_none z hD)]
  exact e c u z
theorem ext {H H1 H2 : Hp} (a : Ex H H1) (b : Ex H1 H2) : Ex H H2 := fun c o z => b c o (a c o z)

/-! ### tuple * int, from 1 on -/
theorem u65 {k : Nat} {A : Around} (r : Room k A) : A.units + 65 < cLine := by have := r.un; omega
theorem tuple_mul1 (l : Addr) (items : Array Value) (n : Nat) (dd : Option Addr) (sl : Array (Option Value)) (x : Int) (u : Tok) (c0 : (decide (x < -(2 ^ 63)) || decide (x ≥ 2 ^ 63)) = false) (c1 : (items.isEmpty || x == 1) = true) :
    Meets (Builtin.«tuple.__mul__» ⟨[.ref l, .int x u], []⟩) (fun _ R s => s.heap.get? l = some { cls := .type "tuple", dict := dd, data := .seq items n, slots := sl } ∧ R (.ok (.ret (Value.ref l))) s) :=
  .of_wp fun prog w A R s h => by
    obtain ⟨hp, g, d, tk, os⟩ := s
    obtain ⟨hl, h⟩ := h
    have f1 := AutoSeq1.idx_int
    wp_walk using wpAny_loadPart' hl
    repeat (first
      | (refine wpAny_ite_false (decide_eq_false (by rw [c0]; exact Bool.false_ne_true)) ?_; wp_walk using wpAny_loadPart' hl)
      | (refine wpAny_ite_true (decide_eq_true c1) ?_; wp_walk using wpAny_loadPart' hl))
    exact ⟨_, rfl, h⟩
def rRepA (K : PySem.W.Frag) : R2 := fun x y H Q => ∃ l k xs, x = .ref l ∧ y = .int k ∧ SqT K H l xs ∧ xs ≠ [] ∧ 1 ≤ k ∧ k ≤ 1000 ∧ xs.length ≤ 1000 ∧ (k = 1 → Q (.ref l) H) ∧ ∀ p, H p = none → Q (.ref p) (upd H p (.tup (List.replicate k.toNat xs).flatten))
theorem op_repA {X : Cx} : OpR X (binaryOp .Mult) (rRepA X.K) := by
  intro pins s σ H x y v u Q I rx ry h
  obtain ⟨l, k, xs, ex, ey, hT, hne, h1, h2, hz, q1, q⟩ := h
  by_cases hk : k = 1
  · subst ex ey hk
    cases rx
    obtain ⟨t, rfl⟩ := ry
    obtain ⟨its, r, ⟨⟨cls, dd, data, sl⟩, ho, hc, n, hd⟩, hs⟩ := I.tuple hT
    simp only at hc hd
    subst hc hd
    refine wpAny_binaryOp_repeat_ref (T := "tuple") (U := "int") (by decide) ⟨_, ho, rfl⟩ (fun s2 => typeIs_int s2 1 t) noFill_tuple_mul PySem.F.fills_int_mul PySem.F.slot_int_rmul repeat_tuple PySem.F.slot_int_index.lookup
      (call_meets PySem.F.slot_int_rmul (typeIs_int s 1 t) PySem.F.entry_int_rmul (PySem.F.args_int_rmul_2 _ _) (int_rmul_tuple 1 t l its.toArray n dd sl)
        ⟨ho, rfl, ⟨_, ho, rfl⟩, call_meets PySem.F.slot_tuple_mul ⟨_, ho, rfl⟩ PySem.F.entry_tuple_mul (PySem.F.args_tuple_mul_2 _ _) (tuple_mul1 l its.toArray n dd sl 1 t (by decide) (by simp)) ⟨ho, ?_⟩⟩)
    exact ⟨.ref l, H, I, rfl, q1 rfl⟩
  · exact op_repT pins s σ H x y v u Q I rx ry ⟨l, k, xs, ex, ey, hT, hne, by omega, h2, hz, q⟩
/-- (x,) * k -/
theorem rep_one (x : V) (k : Nat) : (List.replicate k [x]).flatten = List.replicate k x := by
  induction k with
  | zero => rfl
  | succ k ih => rw [List.replicate_succ, List.flatten_cons, ih, List.replicate_succ]; rfl
theorem rep_ints {K : PySem.W.Frag} {H : Hp} {Q : VK} {u : Addr} {x k : Int} (hu : H u = some (.tup [.int x])) (h1 : 1 ≤ k) (h2 : k ≤ 1000) (h : ∀ q H2, Ex H H2 → H2 q = some (.tup ((List.replicate k.toNat x).map V.int)) → Q (.ref q) H2) : rRepA K (.ref u) (.int k) H Q := by
  refine ⟨u, k, [.int x], rfl, rfl, SqT.of hu, (fun z => nomatch z), h1, h2, (by show 1 ≤ 1000; decide), fun e => ?_, fun p hp => ?_⟩
  · subst e
    exact h u H exr hu
  · refine h p _ (exn hp) ?_
    rw [upd_same, rep_one, List.map_replicate]
theorem ne_same {a b : List Int} (h : a = b) : (!PyData.eqv (iT a) (iT b)) = false := by rw [h]; exact eqv_same (sh_ints b)
/-- a comprehension over a tuple of ints, by a value each -/
theorem row_in {hss : List (List Int)} {ps : List Int} (h : ps ∈ hss) : ((hss.map iT).any fun z => PyData.eqv z (iT ps)) = true := by
  rw [List.any_eq_true]
  exact ⟨iT ps, List.mem_map.mpr ⟨ps, h, rfl⟩, by rw [eqv_ints]; simp⟩
/-- a list of ints -/
abbrev iL (ns : List Int) : PyData := .list (ns.map PyData.int)
theorem sh_ilist {n : Nat} (ns : List Int) : Sh (n + 1) (iL ns) := sh_list fun d hd => by
  obtain ⟨i, _, rfl⟩ := List.mem_map.mp hd
  exact sh_int i
theorem dp_ilist {K : PySem.W.Frag} {H : Hp} {a : Addr} {ns : List Int} (h : H a = some (.lst (ns.map V.int))) : Dp K H (.ref a) (iL ns) := .lst (SqL.of h) (dpall_ints ns)
theorem eqv_ilist (ns ms : List Int) : PyData.eqv (iL ns) (iL ms) = decide (ns = ms) := by
  simp only [PyData.eqv]
  exact eqvAll_ints ns ms
theorem dec_bl {a b : Bool} (h : a = b) : (!decide (V.bl a = V.bl b)) = false := by rw [h]; simp
theorem emod_eq_iff {a b n : Int} : a % n = b % n ↔ n ∣ a - b := by
  rw [Int.emod_eq_emod_iff_emod_sub_eq_zero, Int.dvd_iff_emod_eq_zero]
/-- behind an if that changes names alone -/
theorem ifs_cutS {c : TT} {t u : TS} {D : Ends} {σ : L2.St} {H : Hp} (R : L2.St → Prop) (hR : ∀ σ2, R σ2 → D.nx σ2 H) (h : ∀ N : L2.St → Hp → Prop, (∀ σ2, R σ2 → N σ2 H) → tIfS c t u { D with nx := N } σ H) : tIfS c t u D σ H :=
  h D.nx hR

/-- a comprehension that lengthens a row by each of ks -/
theorem lc_rows {J : It} {n : Nat} {G : Hp → Prop} {Y : Nat → Hp → V → Hp → Prop} (w : Walk J n G Y) {g : TG} {te : TE} {vs : List Nat} {σ : L2.St} {H1 : Hp} {D : Addr} {Qd : Hp → Prop} (row ks : List Int) (hn : ks.length = n) (hl : n ≤ 10000000) (hD : H1 D = none)
    (hG : ∀ H, Ex H1 H → G H)
    (hs : ∀ i x H H2 (R : VK), i < n → Ex H1 H → Y i H x H2 → (∀ k v H5, Ex H H5 → ks[i]? = some k → H5 v = some (.tup ((row ++ [k]).map V.int)) → R (.ref v) H5) → g x (wipe σ vs) H2 fun σ2 H3 => wipe σ2 vs = wipe σ vs ∧ te σ2 H3 R)
    (hg : ∀ x σ2 H2 (R R2 : L2.St → Hp → Prop), (∀ σ3 H3, R σ3 H3 → R2 σ3 H3) → g x σ2 H2 R → g x σ2 H2 R2)
    (hd : ∀ H, Ex H1 H → RowsAt H D (ks.map fun k => row ++ [k]) → Qd H) :
    ∃ W : Nat → Nat → Hp → Prop, (∃ m, W 0 m (upd H1 D (.lst []))) ∧ ∀ i m H, W i m H →
      (J.stop i H ∧ Qd H) ∨ (J.go i H ∧ ∃ Nx : Hp → Prop, (∀ H2, Nx H2 → ∃ m2, m2 < m ∧ W (i + 1) m2 H2) ∧ ∀ x H2, J.yld i H x H2 → g x (wipe σ vs) H2 fun σ2 H3 => wipe σ2 vs = wipe σ vs ∧ tYes σ2 H3 fun b H4 =>
        if b = true then te σ2 H4 fun y H5 => ∃ acc, H5 D = some (.lst acc) ∧ acc.length < sizeLine ∧ Nx (upd H5 D (.lst (acc ++ [y]))) else Nx H4) := by
  refine lc_it w (fun i H => Ex H1 H ∧ RowsAt H D ((ks.take i).map fun k => row ++ [k])) ⟨exn hD, _, upd_same, .nil⟩ (fun i H _ p => hG H p.1) (fun i x H H2 hi p y => ?_) (fun H p => hd H p.1 (by have := p.2; rwa [List.take_of_length_le (by rw [hn]; exact Nat.le_refl _)] at this))
  refine hg _ _ _ _ _ (fun σ3 H3 q => ⟨q.1, q.2⟩) (hs i x H H2 (fun y H5 => ∃ acc, H5 D = some (.lst acc) ∧ acc.length < sizeLine ∧ Ex H1 (upd H5 D (.lst (acc ++ [y]))) ∧ RowsAt (upd H5 D (.lst (acc ++ [y]))) D ((ks.take (i + 1)).map fun k => row ++ [k])) hi p.1 y fun k v H5 e hk hv => ?_)
  obtain ⟨acc, h1, h2, h3⟩ := rows_push (p.2.mono e) hv
  refine ⟨acc, h1, ?_, ex_upd (ext p.1 e) hD, ?_⟩
  · rw [h2, List.length_map, List.length_take]
    exact Nat.lt_of_le_of_lt (Nat.le_trans (Nat.min_le_right _ _) (by rw [hn]; exact hl)) (by decide)
  · rw [take_more hk, List.map_append]
    exact h3
/-- row + (k,) -/
theorem cat_row {K : PySem.W.Frag} {H : Hp} {Q : VK} {r u : Addr} {row : List Int} {k : Int} (hr : H r = some (.tup (row.map V.int))) (hu : H u = some (.tup [.int k])) (hl : row.length ≤ 1000) (h : ∀ v H5, Ex H H5 → H5 v = some (.tup ((row ++ [k]).map V.int)) → Q (.ref v) H5) : rCatA K (.ref r) (.ref u) H Q := by
  refine ⟨r, u, row.map V.int, [.int k], rfl, rfl, SqT.of hr, SqT.of hu, ?_, fun z => ?_, fun _ z => (nomatch z), fun _ _ v hv => ?_⟩
  · rw [List.length_map]
    exact Nat.le_trans (show _ + 1 ≤ 1001 by omega) (by decide)
  · have : row = [] := List.map_eq_nil_iff.mp z
    subst this
    exact h u H exr hu
  · refine h v _ (exn hv) ?_
    rw [upd_same, List.map_append]
    rfl
theorem rows_ext {H : Hp} {D E : Addr} {hss kss : List (List Int)} (h1 : RowsAt H D hss) (h2 : RowsAt H E kss) (ne : D ≠ E) : ∃ xs zs, H D = some (.lst xs) ∧ H E = some (.lst zs) ∧ xs.length = hss.length ∧ zs.length = kss.length ∧ RowsAt (upd H D (.lst (xs ++ zs))) D (hss ++ kss) := by
  obtain ⟨xs, a1, a2⟩ := h1
  obtain ⟨zs, b1, b2⟩ := h2
  exact ⟨xs, zs, a1, b1, a2.len, b2.len, _, upd_same, RowsR.app (b2.upd a1) (a2.upd a1)⟩

theorem eqT {i j : Int} (h : decide (V.int i = V.int j) = true) : i = j := V.int.inj (of_decide_eq_true h)
theorem eqF {i j : Int} (h : ¬decide (V.int i = V.int j) = true) : i ≠ j := fun z => h (decide_eq_true (by rw [z]))
/-- behind an if -/
theorem ifs_cutG {c : TT} {t u : TS} {D : Ends} {σ : L2.St} {H : Hp} (R : L2.St → Hp → Prop) (hR : ∀ σ2 H2, R σ2 H2 → D.nx σ2 H2) (h : ∀ N : L2.St → Hp → Prop, (∀ σ2 H2, R σ2 H2 → N σ2 H2) → tIfS c t u { D with nx := N } σ H) : tIfS c t u D σ H :=
  h D.nx hR
theorem exG {H H4 : Hp} {p : Addr} {o : HO} (h : upd H p o = H4) (n : H p = none) : Ex H H4 := h ▸ exn n
theorem atG {H H4 : Hp} {p : Addr} {o : HO} (h : upd H p o = H4) : H4 p = some o := h ▸ upd_same
theorem slen {n : Nat} (h : Nat.ble n 1000 = true) : n ≤ sizeLine := Nat.le_trans (Nat.le_of_ble_eq_true h) (by decide)
/-- a comprehension with a test: what passes, by f -/
theorem lc_filt {α : Type} {J : It} {n : Nat} {G : Hp → Prop} {Y : Nat → Hp → V → Hp → Prop} (w : Walk J n G Y) {g : TG} {tt : TT} {te : TE} {vs : List Nat} {σ : L2.St} {H1 : Hp} {D : Addr} {Qd : Hp → Prop} (xs : List α) (c : α → Bool) (f : α → V) (hn : xs.length = n) (hl : n ≤ 10000000) (hD : H1 D = none)
    (hG : ∀ H, Ex H1 H → G H)
    (hs : ∀ i x a H H2 (R : VK) (S : Hp → Prop), xs[i]? = some a → Ex H1 H → Y i H x H2 → (∀ y H5, Ex H H5 → c a = true → y = f a → R y H5) → (∀ H4, Ex H H4 → c a = false → S H4) → g x (wipe σ vs) H2 fun σ2 H3 => wipe σ2 vs = wipe σ vs ∧ tt σ2 H3 fun b H4 => if b = true then te σ2 H4 R else S H4)
    (hd : ∀ H, Ex H1 H → H D = some (.lst ((xs.filter c).map f)) → Qd H) :
    ∃ W : Nat → Nat → Hp → Prop, (∃ m, W 0 m (upd H1 D (.lst []))) ∧ ∀ i m H, W i m H →
      (J.stop i H ∧ Qd H) ∨ (J.go i H ∧ ∃ Nx : Hp → Prop, (∀ H2, Nx H2 → ∃ m2, m2 < m ∧ W (i + 1) m2 H2) ∧ ∀ x H2, J.yld i H x H2 → g x (wipe σ vs) H2 fun σ2 H3 => wipe σ2 vs = wipe σ vs ∧ tt σ2 H3 fun b H4 =>
        if b = true then te σ2 H4 fun y H5 => ∃ acc, H5 D = some (.lst acc) ∧ acc.length < sizeLine ∧ Nx (upd H5 D (.lst (acc ++ [y]))) else Nx H4) := by
  refine lc_out w (fun i => ((xs.take i).filter c).map f) (by simp) hD (fun i hi => ?_) hG (fun i x H H2 Nx hi e hDi y kA kN => ?_) (fun H e h => hd H e ?_)
  · rw [List.length_map]
    refine Nat.lt_of_le_of_lt (Nat.le_trans (List.length_filter_le _ _) (Nat.le_trans (by rw [List.length_take]; exact Nat.min_le_right _ _) (by rw [hn]; exact hl))) (by decide)
  · obtain ⟨a, ha⟩ : ∃ a, xs[i]? = some a := ⟨xs[i]'(by omega), List.getElem?_eq_getElem (by omega)⟩
    refine hs i x a H H2 _ _ ha e y (fun y2 H5 e5 hc hy => kA y2 H5 e5 ?_) (fun H4 e4 hc => kN H4 e4 ?_)
    · rw [take_more ha, List.filter_append, List.map_append, hy]
      simp [hc]
    · rw [take_more ha, List.filter_append, List.map_append]
      simp [hc]
  · rw [h, List.take_of_length_le (by rw [hn]; exact Nat.le_refl _)]
/-- rows that pass a test -/
theorem RowsR.filt {H : Hp} (c : List Int → Bool) : ∀ {xs : List V} {hss : List (List Int)}, RowsR H xs hss → RowsR H (((xs.zip hss).filter fun z => c z.2).map fun z => z.1) (hss.filter c)
  | _, _, .nil => .nil
  | _, _, .cons (a := x) (b := hs) q t => by
    have ih := RowsR.filt c t
    rw [List.zip_cons_cons]
    cases e : c hs with
    | false =>
      rw [List.filter_cons_of_neg (by simp [e]), List.filter_cons_of_neg (by simp [e])]
      exact ih
    | true =>
      rw [List.filter_cons_of_pos (by simp [e]), List.filter_cons_of_pos (by simp [e])]
      exact .cons q ih
theorem zip_at2 {α β : Type} {l : List α} {m : List β} {i : Nat} {z : α × β} (h : (l.zip m)[i]? = some z) : l[i]? = some z.1 ∧ m[i]? = some z.2 := by
  rw [List.getElem?_zip_eq_some] at h
  exact h
/-- tuple(s), s a list or a tuple -/
theorem tup_of {K : PySem.W.Frag} {H : Hp} {q : Bool × Addr} {xs : List V} {Q : VK} (h : SqH H q xs) (k : ∀ t H2, Ex H H2 → H2 t = some (.tup xs) → Q (.ref t) H2) : (SqL K H q.2 xs ∧ ∀ p, H p = none → Q (.ref p) (upd H p (.tup xs))) ∨ SqT K H q.2 xs ∧ Q (.ref q.2) H := by
  obtain ⟨b, a⟩ := q
  cases b
  · exact .inl ⟨SqL.of (show H a = some (.lst xs) from h), fun p hp => k p _ (exn hp) upd_same⟩
  · exact .inr ⟨SqT.of (show H a = some (.tup xs) from h), k a H exr h⟩
def rTupQ : List V → Hp → VK → Prop := fun vs H Q => ∃ (q : Bool × Addr) (xs : List V), vs = [.ref q.2] ∧ SqH H q xs ∧ ∀ t H2, Ex H H2 → H2 t = some (.tup xs) → Q (.ref t) H2
theorem call_tuple_q {X : Cx} : CallR X (.type "tuple") rTupQ := by
  intro pins s σ H vs us Q I r h
  obtain ⟨q, xs, rfl, hq, k⟩ := h
  exact call_tuple_of pins s σ H _ us Q I r ⟨q.2, xs, rfl, tup_of hq k⟩
theorem SqH.uniq {H : Hp} {q : Bool × Addr} {xs ys : List V} (h1 : SqH H q xs) (h2 : SqH H q ys) : xs = ys := by
  obtain ⟨b, a⟩ := q
  cases b
  · have e : some (HO.lst xs) = some (HO.lst ys) := (show H a = some (.lst xs) from h1).symm.trans (show H a = some (.lst ys) from h2)
    injection e with e
    injection e
  · have e : some (HO.tup xs) = some (HO.tup ys) := (show H a = some (.tup xs) from h1).symm.trans (show H a = some (.tup ys) from h2)
    injection e with e
    injection e
theorem RowsR.monoT {H H2 : Hp} (e : ∀ c xs, H c = some (.tup xs) → H2 c = some (.tup xs)) : ∀ {xs : List V} {hss : List (List Int)}, RowsR H xs hss → RowsR H2 xs hss
  | _, _, .nil => .nil
  | _, _, .cons ⟨r, h1, h2⟩ t => .cons ⟨r, h1, e _ _ h2⟩ (RowsR.monoT e t)

theorem shift_back {f : Int} : ∀ {ns ps cs : List Int}, SeatOk ns ps → cs.length = ns.length → shiftL ns (shiftL ns ps cs f) cs (-f) = ps
  | [], [], [], _, _ => rfl
  | n :: ns, p :: ps, c :: cs, h, l => by
    show ((p + f * c) % n + -f * c) % n :: _ = _
    rw [shift_back h.2 (Nat.succ.inj l), Int.emod_add_emod, Int.neg_mul, Int.add_neg_cancel_right, Int.emod_eq_of_lt h.1.1 h.1.2]
theorem shift_neg {f : Int} : ∀ {ns ps cs : List Int}, shiftL ns ps (cs.map fun c => 0 - c) f = shiftL ns ps cs (-f)
  | [], _, _ => by cases ‹List Int› <;> simp [shiftL]
  | _ :: _, [], _ => by simp [shiftL]
  | _ :: _, _ :: _, [] => by simp [shiftL]
  | n :: ns, p :: ps, c :: cs => by
    show (p + f * (0 - c)) % n :: _ = (p + -f * c) % n :: _
    rw [shift_neg, Int.zero_sub, Int.mul_neg, Int.neg_mul]
theorem shift_comm {f g : Int} : ∀ {ns ps cs ds : List Int}, ps.length = ns.length → cs.length = ns.length → ds.length = ns.length → shiftL ns (shiftL ns ps cs f) ds g = shiftL ns (shiftL ns ps ds g) cs f
  | [], [], [], [], _, _, _ => rfl
  | n :: ns, p :: ps, c :: cs, d :: ds, l1, l2, l3 => by
    show ((p + f * c) % n + g * d) % n :: _ = ((p + g * d) % n + f * c) % n :: _
    rw [shift_comm (Nat.succ.inj l1) (Nat.succ.inj l2) (Nat.succ.inj l3), Int.emod_add_emod, Int.emod_add_emod, Int.add_right_comm]
theorem shift_seat {f : Int} : ∀ {ns ps cs : List Int}, (∀ n ∈ ns, 1 ≤ n) → ps.length = ns.length → cs.length = ns.length → SeatOk ns (shiftL ns ps cs f)
  | [], [], [], _, _, _ => True.intro
  | n :: ns, p :: ps, c :: cs, h, l1, l2 => by
    have n1 := h n List.mem_cons_self
    exact ⟨⟨Int.emod_nonneg _ (by omega), Int.emod_lt_of_pos _ (by omega)⟩, shift_seat (fun m hm => h m (List.mem_cons_of_mem _ hm)) (Nat.succ.inj l1) (Nat.succ.inj l2)⟩
theorem shift_same {f g : Int} : ∀ {ns ps cs : List Int}, ps.length = ns.length → cs.length = ns.length → (shiftL ns ps cs f = shiftL ns ps cs g ↔ ∀ z ∈ cs.zip ns, z.2 ∣ (f - g) * z.1)
  | [], [], [], _, _ => by simp [shiftL]
  | n :: ns, p :: ps, c :: cs, l1, l2 => by
    have e : p + f * c - (p + g * c) = (f - g) * c := by rw [Int.sub_mul]; omega
    show (p + f * c) % n :: _ = (p + g * c) % n :: _ ↔ _
    rw [List.cons.injEq, shift_same (Nat.succ.inj l1) (Nat.succ.inj l2), emod_eq_iff, e, List.zip_cons_cons, List.forall_mem_cons]
theorem shift_zero : ∀ {ns ps cs : List Int}, SeatOk ns ps → cs.length = ns.length → shiftL ns ps cs 0 = ps
  | [], [], [], _, _ => rfl
  | n :: ns, p :: ps, c :: cs, h, l => by
    show (p + 0 * c) % n :: _ = _
    rw [shift_zero h.2 (Nat.succ.inj l), Int.zero_mul, Int.add_zero, Int.emod_eq_of_lt h.1.1 h.1.2]
/-- a call times k -/
theorem shift_times {k : Int} : ∀ {ns ps cs : List Int}, shiftL ns ps (cs.map fun c => c * k) 1 = shiftL ns ps cs k
  | [], _, _ => by cases ‹List Int› <;> simp [shiftL]
  | _ :: _, [], _ => by simp [shiftL]
  | _ :: _, _ :: _, [] => by simp [shiftL]
  | n :: ns, p :: ps, c :: cs => by
    show (p + 1 * (c * k)) % n :: _ = (p + k * c) % n :: _
    rw [shift_times, Int.one_mul, Int.mul_comm c]
theorem zero_seat : ∀ {ns : List Int}, (∀ n ∈ ns, 1 ≤ n) → SeatOk ns (List.replicate ns.length 0)
  | [], _ => True.intro
  | n :: ns, h => ⟨⟨Int.le_refl _, by have := h n List.mem_cons_self; omega⟩, zero_seat fun m hm => h m (List.mem_cons_of_mem _ hm)⟩

/-- Table(..) -/
theorem mk_tab {C a : Addr} {b : Bool} {H : Hp} {ns : List Int} {R : Addr → Hp → Prop} {E : XK} (hq : SqH H (b, a) (ns.map V.int)) (ok : SzOk ns) (k : ∀ x H2, Ex H H2 → H x = none → TabAt C H2 x ns → R x H2) :
    ∀ x dx, H x = none → H dx = none → dx ≠ x → sp_Table_init C [.ref x, .ref a] (upd (upd H dx (.own x)) x (.ins C dx [])) (fun v H2 => v = .non ∧ R x H2) E := by
  intro x dx nx ndx _
  have exB : Ex H (upd (upd H dx (.own x)) x (.ins C dx [])) := fun c o z => by
    rw [upd_ne (ne_of_none z nx), upd_ne (ne_of_none z ndx)]
    exact z
  refine ⟨x, dx, (b, a), ns, rfl, upd_same, hq.mono exB, ok, fun H3 k3 ht3 => ⟨rfl, ?_⟩⟩
  obtain ⟨t, g1, g2⟩ := ht3
  exact k x H3 (fun c o z => k3 c o (ne_of_none z nx) (exB c o z)) nx ⟨dx, t, g1, g2⟩
theorem eqN {i j : Int} (h : ¬(!decide (V.int i = V.int j)) = true) : i = j := by
  by_cases e : i = j
  · exact e
  · exact absurd (by simp [e]) h
/-! ### lists and tuples alike -/
theorem cut_from (xs : List V) (k : Nat) : cutV xs (some (k : Int)) none = xs.drop k := by
  unfold cutV
  rw [HT.sIx_nat, HT.sIx_none]
  by_cases h : k ≤ xs.length
  · rw [Nat.min_eq_left h]
    exact List.take_of_length_le (by rw [List.length_drop]; omega)
  · rw [Nat.min_eq_right (by omega), List.drop_of_length_le (Nat.le_refl _), List.drop_of_length_le (by omega)]
    simp
theorem cut_to (xs : List V) (k : Nat) : cutV xs none (some (k : Int)) = xs.take k := by
  unfold cutV
  rw [HT.sIx_nat, HT.sIx_none, List.drop_zero, Nat.sub_zero]
  by_cases h : k ≤ xs.length
  · rw [Nat.min_eq_left h]
  · rw [Nat.min_eq_right (by omega), List.take_of_length_le (Nat.le_refl _), List.take_of_length_le (by omega)]
theorem cut_whole {xs : List V} {lo hi : Option Int} (h : HT.sIx xs.length 0 lo = 0 ∧ HT.sIx xs.length xs.length hi = xs.length) : cutV xs lo hi = xs := by
  unfold cutV
  rw [h.1, h.2, List.drop_zero, Nat.sub_zero, List.take_of_length_le (Nat.le_refl _)]
def rIxQ (K : PySem.W.Frag) : R2 := fun x y H Q => ∃ (q : Bool × Addr) (xs : List V) (i : Int) (v : V), x = .ref q.2 ∧ y = .int i ∧ CZ.SqK K H q xs ∧ atI xs i = some v ∧ Q v H
theorem ix_q {X : Cx} : IxR X (rIxQ X.K) := by
  intro value slice pins s σ H x y v u Q I rx ry h hsub
  obtain ⟨⟨b, a⟩, xs, i, z, rfl, rfl, hq, hz, q⟩ := h
  cases b
  · exact ix_list value slice pins s σ H _ _ v u Q I rx ry ⟨a, xs, i, z, rfl, rfl, hq, hz, q⟩ hsub
  · exact ix_tup value slice pins s σ H _ _ v u Q I rx ry ⟨a, xs, i, z, rfl, rfl, hq, hz, q⟩ hsub
def rSlQ : V → Option Int → Option Int → Hp → VK → Prop := fun x lo hi H Q => ∃ (q : Bool × Addr) (xs : List V), x = .ref q.2 ∧ SqH H q xs ∧ ∀ p H2, Ex H H2 → SqH H2 (q.1, p) (cutV xs lo hi) → Q (.ref p) H2
theorem sl_q {X : Cx} : SlR X rSlQ := by
  intro pins s σ H x v vl vu lo hi sl Q I rx hs pl pu h
  obtain ⟨⟨b, a⟩, xs, rfl, hq, k⟩ := h
  cases b
  · exact sl_list pins s σ H _ v vl vu lo hi sl Q I rx hs pl pu ⟨a, xs, rfl, SqL.of (show H a = some (.lst xs) from hq), fun p hp => k p _ (exn hp) upd_same⟩
  · exact sl_tupA pins s σ H _ v vl vu lo hi sl Q I rx hs pl pu ⟨a, xs, rfl, SqT.of (show H a = some (.tup xs) from hq), fun hw => k a H exr (by rw [cut_whole hw]; exact hq), fun _ p hp => k p _ (exn hp) upd_same⟩

/-- a list (false) or a tuple (true) of tuples of ints -/
def RowsQ (H : Hp) (q : Bool × Addr) (tss : List (List Int)) : Prop := ∃ xs, SqH H q xs ∧ RowsR H xs tss
theorem RowsQ.mono {H H2 : Hp} {q : Bool × Addr} {tss : List (List Int)} (e : Ex H H2) (h : RowsQ H q tss) : RowsQ H2 q tss := by
  obtain ⟨xs, h1, h2⟩ := h
  exact ⟨xs, h1.mono e, h2.mono e⟩
theorem RowsQ.dp {K : PySem.W.Frag} {H : Hp} {q : Bool × Addr} {tss : List (List Int)} (h : RowsQ H q tss) : Dp K H (.ref q.2) (.list (tss.map iT)) ∨ Dp K H (.ref q.2) (.tuple (tss.map iT)) := by
  obtain ⟨xs, h1, h2⟩ := h
  obtain ⟨b, a⟩ := q
  cases b
  · exact .inl (.lst (SqL.of (show H a = some (.lst xs) from h1)) h2.dp)
  · exact .inr (.tup (SqT.of (show H a = some (.tup xs) from h1)) h2.dp)
theorem any_rows (tss : List (List Int)) (ps : List Int) : ((tss.map iT).any fun z => PyData.eqv z (iT ps)) = decide (ps ∈ tss) := by
  rw [List.any_map, Bool.eq_iff_iff, List.any_eq_true, decide_eq_true_eq]
  constructor
  · rintro ⟨x, hx, h⟩
    have h2 : PyData.eqv (iT x) (iT ps) = true := h
    rw [eqv_ints] at h2
    rw [← of_decide_eq_true h2]
    exact hx
  · intro h
    refine ⟨ps, h, ?_⟩
    show PyData.eqv (iT ps) (iT ps) = true
    rw [eqv_ints]
    simp
abbrev kI (ps : List Int) : List Key := ps.map Sum.inl
theorem kI_map (ps : List Int) : (kI ps).map kV = ps.map V.int := by
  rw [List.map_map]
  rfl
theorem kI_inj {a b : List Int} (h : kI a = kI b) : a = b := by
  induction a generalizing b with
  | nil =>
    cases b with
    | nil => rfl
    | cons y ys => simp at h
  | cons x xs ih =>
    cases b with
    | nil => simp at h
    | cons y ys =>
      simp only [List.map_cons, List.cons.injEq, Sum.inl.injEq] at h
      rw [h.1, ih h.2]
theorem nodup_get {α : Type} {l : List α} (nod : l.Nodup) {i : Nat} {t : α} (ht : l[i]? = some t) : ¬ t ∈ l.take i := by
  intro hm
  obtain ⟨j, hj⟩ := List.getElem?_of_mem hm
  obtain ⟨jl, je⟩ := List.getElem?_eq_some_iff.mp hj
  rw [List.length_take] at jl
  rw [List.getElem_take] at je
  obtain ⟨il, ie⟩ := List.getElem?_eq_some_iff.mp ht
  exact absurd (je.trans ie.symm) (List.pairwise_iff_getElem.mp nod j i (by omega) il (by omega))
theorem put_len {κ : Type} [DecidableEq κ] {kvs : List (κ × V)} {k : κ} {v : V} (h : valV kvs k = none) : (putK kvs k v).length = kvs.length + 1 := by
  rw [putK_new v h, List.length_append]
  rfl
section
variable {P : Program} {w : World} {K : PySem.W.Frag} {mg : Str → Option Value} {base : Heap}
def sp_require_table (C : Addr) : Sp := fun vs H Q _ => ∃ (a : Addr) (ns : List Int), vs = [.ref a] ∧ TabAt C H a ns ∧ Q .non H
theorem ok_require_table (T : TX K mg) : FnOk P w K mg base CX0 5 T.f_require_table T.fd_require_table ["table"] (sp_require_table T.C_Table) := by
  refine T.F_require_table.ok sc_require_table (fun vs H Q E h => ?_) (fun cdv A outer s H vs Q E hr h => ?_)
  · obtain ⟨a, ns, rfl, _⟩ := h
    rfl
  · obtain ⟨a, ns, rfl, ⟨dx, t, h1, h2⟩, k⟩ := h
    refine ⟨_, (pss_one (ps_if (pt_not (pt_val (pe_callB call_isi (by rfl) T.z_isinstance (by decide +kernel) (pa_cons (pv 0) (pa_cons (pe_glob (v := .ref T.C_Table) rfl T.m_Table rfl) pa_nil))))) pss_never pss_nil)), ?_⟩
    exact ⟨_, rfl, _, _, _, _, true, rfl, .own _, .base (.ins h1 T.cl_Table T.ic_Table T.ig_ T.it_ T.im_Table), kit_self, _, rfl, itf rfl k⟩
def sp_require_targets (C : Addr) : Sp := fun vs H Q _ => ∃ (a : Addr) (q : Bool × Addr) (ns : List Int) (tss : List (List Int)), vs = [.ref a, .ref q.2] ∧ TabAt C H a ns ∧ ns.length ≤ 4 ∧ RowsQ H q tss ∧ tss ≠ [] ∧ tss.length ≤ 100000 ∧ (∀ ts ∈ tss, SeatOk ns ts) ∧ tss.Nodup ∧ ∀ H2, Ex H H2 → Q .non H2
theorem ok_require_targets (T : TX K mg) : FnOk P w K mg base CX0 4 T.f_require_targets T.fd_require_targets ["table", "targets"] (sp_require_targets T.C_Table) := by
  refine T.F_require_targets.ok sc_require_targets (fun vs H Q E h => ?_) (fun cdv A outer s H vs Q E hr h => ?_)
  · obtain ⟨a, q, ns, tss, rfl, _⟩ := h
    rfl
  · obtain ⟨a, ⟨b, q⟩, ns, tss, rfl, tab, l4, ⟨xs, hq, rr⟩, ne, lts, sks, nod, k⟩ := h
    refine ⟨_, (pss_cons (ps_if (PW.pt (pw_or (pt_not (pt_val (pe_callB call_isiT (by rfl) T.z_isinstance (by decide +kernel) (pa_cons (pv 1) (pa_cons (pe_tup (pa_cons (pe_bltn (v := .ty "list") rfl T.z_list (by decide +kernel) rfl) (pa_cons (pe_bltn (v := .ty "tuple") rfl T.z_tuple (by decide +kernel) rfl) pa_nil))) pa_nil))))) (pw_or1 (pt_cmpR op_eq (pe_callB call_len_seq (by rfl) T.z_len (by decide +kernel) (pa_cons (pv 1) pa_nil)) pe_int (nomark _))))) pss_never pss_nil) (pss_cons (ps_set (i := 2) sc_require_targets.nd rfl (Or.inl rfl) pe_dnewT) (pss_one (ps_for PassesOwn.never rfl (CE.pi_e rfl T.z_enumerate (pa_cons (pv 1) pa_nil)) (pg_tup rfl (pgs_cons (pg_name (i := 3) sc_require_targets.nd rfl (Or.inl rfl)) (pgs_cons (pg_name (i := 4) sc_require_targets.nd rfl (Or.inl rfl)) pgs_nil))) (pss_cons (ps_if (PW.pt (pw_or (pt_not (pt_val (pe_meth (pv 0) T.cl_Table T.me_Table_is_seat (ok_Table_is_seat T) hr T.b_Table_is_seat .nil pass0 (pa_cons (pv 4) pa_nil)))) (pw_or1 (pt_cmp (pc_din (hu_of hr) (pv 4) (pv 2)))))) pss_never pss_nil) (pss_one (ps_dput (hu_of hr) (pv 2) (pv 4) (pv 3) (by rfl)))))))), ?_⟩
    have lx := rr.len
    (repeat (first | refine ⟨rfl, ?_⟩ | refine ⟨_, rfl, ?_⟩ | refine ⟨_, _, rfl, rfl, ?_⟩ | refine ⟨_, _, rfl, ?_⟩ | refine ⟨slen rfl, ?_⟩ | refine ⟨⟨by decide, by decide +kernel⟩, ?_⟩ | refine ⟨⟨by decide, by decide, by decide⟩, ?_⟩ | refine ⟨(by show (0 : Int) < _; first | decide | assumption | omega), ?_⟩ | refine ⟨mul_ok (by first | exact .inr (by decide) | exact .inl (by decide)), ?_⟩))
    (intro y ny; generalize hGy : upd _ y _ = H1; have eH1 := exG hGy ny; have hy := atG hGy; clear hGy)
    have q1 := hq.mono eH1
    refine ⟨_, y, _, _, _, true, rfl, hy, .cons (.ty _) (.cons (.ty _) .nil), q1.ty, kit_seq b, _, rfl, ?_⟩
    refine ⟨_, rfl, q, _, rfl, sq_or q1, rfl, _, rfl, itf (by rw [dec_int, lx]; simp; exact ne) ?_⟩
    (intro d nd; generalize hGd : upd _ d _ = H2; have eH2 := exG hGd nd; have hd := atG hGd; clear hGd)
    have e2 : Ex H H2 := ext eH1 eH2
    have nd0 : H d = none := Evl.fresh_back eH1 nd
    refine ⟨_, rfl, (b, q), rfl, ⟨_, (hq.mono e2).sq⟩, ?_⟩
    refine for_it (CE.walk_e (xs := xs)) (fun i σ H3 => ∃ (y3 y4 : Option V) (kvs : List (List Key × V)), σ = [some (.ref a), some (.ref q), some (.ref d), y3, y4] ∧ Ex H H3 ∧ H3 d = some (.dT kvs) ∧ kvs.length = i ∧ ∀ ts : List Int, (valV kvs (kI ts)).isSome = true → ts ∈ tss.take i) ⟨_, _, [], rfl, e2, hd, rfl, fun t h => by simp [valV] at h⟩ (fun i σ H2 _ ⟨_, _, _, _, e, _⟩ => (hq.mono e).sq) ?_ ?_
    · rintro i x σ H3 H4 hi ⟨y3, y4, kvs, rfl, e3, hd3, lk, hv⟩ ⟨Ta, x1, x2, rfl, hT, rfl, hx1, hx2⟩
      cases hx1
      obtain ⟨ts, r, ht, rfl, hr0⟩ := rr.get hx2
      have sk := sks ts (List.mem_of_getElem? ht)
      have lt := sk.len
      have e4 : Ex H (upd H3 Ta (.tup [.int (i : Nat), .ref r])) := ext e3 (exn hT)
      have hd4 := exn (o := .tup [.int (i : Nat), .ref r]) hT _ _ hd3
      refine ⟨Ta, _, rfl, SqT.of upd_same, rfl, _, _, rfl, _, _, rfl, rfl, ?_⟩
      generalize upd H3 Ta (.tup [.int (i : Nat), .ref r]) = H4 at e4 hd4
      obtain ⟨dx, t, g1, g2⟩ := tab.mono e4
      refine ⟨_, rfl, a, dx, _, rfl, g1, rfl, _, rfl, a, _, ns, _, rfl, tab.mono e4, l4, TupA.ints (e4 _ _ hr0) (by omega), fun H5 e5 => ?_⟩
      refine ⟨_, rfl, itf (by rw [isSeat_ok sk]; rfl) ?_⟩
      have hno : valV kvs (kI ts) = none := by
        cases hz : valV kvs (kI ts) with
        | none => rfl
        | some v => exact absurd (hv ts (by rw [hz]; rfl)) (nodup_get nod ht)
      have hd5 := e5 _ _ hd4
      have hr5 : H5 r = some (.tup ((kI ts).map kV)) := by rw [kI_map]; exact e5 _ _ (e4 _ _ hr0)
      refine ⟨_, rfl, _, rfl, d, _, rfl, DGet.t hd5 hr5, _, rfl, itf (by rw [hno]; rfl) ?_⟩
      refine ⟨_, rfl, _, rfl, _, rfl, d, _, rfl, DPut.t hd5 hr5 ?_, ?_⟩
      · rw [lk]
        exact Nat.lt_of_lt_of_le (show i < tss.length by omega) (Nat.le_trans lts (by decide))
      · refine ⟨_, _, putK kvs (kI ts) (.int (i : Nat)), rfl, ?_, upd_same, by rw [put_len hno, lk], fun us hu => ?_⟩
        · intro c o z
          rw [upd_ne (ne_of_none z nd0)]
          exact e5 c o (e4 c o z)
        · rw [valV_put] at hu
          rw [take_more ht, List.mem_append]
          by_cases e : us = ts
          · exact .inr (by rw [e]; exact List.mem_cons_self)
          · rw [if_neg (fun z => e (kI_inj z))] at hu
            exact .inl (hv us hu)
    · rintro σ H2 ⟨y3, y4, kvs, rfl, e3, _⟩
      exact k _ e3
end

-- sorts
open PySem.W PySem.Calls in
theorem collect_tuple {prog : Program} {w : World} {A : Around} {E : Value → Shared → Prop} {s : Shared} {l : Addr} {vs : List Value} {Q : List Value → Shared → Prop} (hl : IsTup s.heap l vs.toArray)
    (h : Q vs { s with heap := (s.heap.push (seqObj "list" #[] 0)).update s.heap.objs.size (Obj.mapSeq (· ++ vs.toArray)) }) (hsz : vs.length ≤ sizeLine) :
    wpAny (model prog w) A (collect (.ref l)) Q E s := by
  obtain ⟨o, ho, hc, n, hd⟩ := id hl
  unfold collect
  refine wpAny_bind (wpAny_runValue (codeAny_builtin entry_proto_collect' ?_))
  show wpAny _ _ (do again (.builtin "list.__iadd__" ⟨[← newList [], .ref l], []⟩)) _ _ s
  refine wpAny_bind (wpAny_newList (wpAny_pure ⟨Code.quiet_builtin _ (by decide +kernel), codeAny_builtin entry_list_iadd' ?_⟩))
  show wpAny _ _ (Builtin.List.listExtendWith (.ref s.heap.objs.size) (.ref l) (.ref s.heap.objs.size)) _ _ { s with heap := s.heap.push (seqObj "list" #[] 0) }
  unfold Builtin.List.listExtendWith
  have ho' : (s.heap.push (seqObj "list" #[] 0)).get? l = some o := Heap.get?_push_of_some _ ho
  refine wpAny_bind (wpAny_typeOf (T := "tuple") ⟨o, ho', hc⟩ ?_)
  have ht : (Value.type "tuple" == Value.type "tuple") = true := by rfl
  rw [if_pos (by rw [ht]; simp)]
  refine wpAny_bind (listItems_at ho' hd ?_)
  refine wpAny_bind (listItems_at (xs := #[]) (n := 0) (Heap.get?_push_size _ rfl) rfl ?_)
  rw [if_neg (by simp)]
  refine wpAny_bind (listUpdate_at (xs := #[]) (n := 0) (Heap.get?_push_size _ rfl) rfl ?_ (Nat.zero_le _) (by show (#[] ++ vs.toArray).size ≤ sizeLine + 1; simp only [Array.size_append, List.size_toArray, List.length_nil]; omega))
  refine wpAny_pure ?_
  show wpAny (model prog w) A (do
      let o ← load s.heap.objs.size
      match o.data with
      | .seq xs _ => pure xs.toList
      | _ => unsupported "internal:collect") Q E { s with heap := (s.heap.push (seqObj "list" #[] 0)).update s.heap.objs.size (Obj.mapSeq (· ++ vs.toArray)) }
  refine wpAny_bind (wpAny_load (get?_update_seq (Heap.get?_push_size _ rfl) _) ?_)
  show wpAny _ _ (pure ((#[] : Array Value) ++ vs.toArray).toList) Q E _
  rw [show ((#[] : Array Value) ++ vs.toArray).toList = vs by simp]
  exact wpAny_pure h
open PySem.W PySem.Calls in
theorem sorted_of_tup {prog : Program} {w : World} {A : Around} {E : Value → Shared → Prop} {s : Shared} {l : Addr} {vs : List Value} {Q : Value → Shared → Prop} (hl : IsTup s.heap l vs.toArray) (hL : vs.length ≤ sizeLine)
    (body : ∀ E' : Value → Shared → Prop, wpAny (model prog w) A.in1.in1 (Builtin.«list.sort» ⟨[.ref (s.heap.objs.size + 1)], []⟩) (fun f s' => f = .done (.ret .none) ∧ Q (.ref (s.heap.objs.size + 1)) s') E' { s with heap := copyHeap s.heap vs }) :
    wpAny (model prog w) A (call (.builtin "sorted") [.ref l]) Q E s := by
  refine call_function_entry_kw kind_sorted plain_sorted entry_sorted (args_sorted1 _) ?_
  unfold Builtin.«sorted»
  refine wpAny_bind (m := checkCount "sorted" 1 1 _) (wpAny_pure ?_)
  refine wpAny_bind (collect_tuple hl ?_ hL)
  refine wpAny_bind (wpAny_newList ?_ hL)
  have hsz : ((s.heap.push (seqObj "list" #[] 0)).update s.heap.objs.size (Obj.mapSeq (· ++ vs.toArray))).objs.size = s.heap.objs.size + 1 := by
    rw [Heap.size_update, size_push']
  show wpAny _ _ _ _ _ { s with heap := copyHeap s.heap vs }
  rw [hsz]
  refine wpAny_bind (wpAny_holding (wpAny_call_entry_kw slot_list_sort ⟨_, copyHeap_at s.heap vs, rfl⟩ entry_list_sort ?body (args_list_sort _)))
  case body =>
    show wpAny (model prog w) A.in1.in1 (Builtin.«list.sort» ⟨[.ref (s.heap.objs.size + 1)], []⟩) _ _ _
    refine wpAny_mono (body _) (fun f s' hf => ?_) fun _ _ e => e
    obtain ⟨rfl, hq⟩ := hf
    exact ⟨_, rfl, wpAny_pure ⟨_, rfl, hq⟩⟩
open PySem.W PySem.Calls in
theorem sorted_data_t {prog : Program} {w : World} {A : Around} {E : Value → Shared → Prop} {s : Shared} {β : Type} {vs : List Value} {bs : List β} {enc : β → PyData} {R : Value → β → Prop} {l : Addr} {Q : Value → Shared → Prop} (hl : IsTup s.heap l vs.toArray) (e : EachIs R vs bs) (er : EachIs (fun v b => ∃ as, Reads s.heap v (enc b) as) vs bs) (hal : AllAlike (bs.map enc)) (hk : Sortable (bs.map enc)) (hL : bs.length ≤ sizeLine)
    (hu : ∀ b, b ∈ bs → A.units + 2 + (enc b).depth < cLine) (h : ∀ out, out.length = bs.length → EachIs R out (bs.mergeSort (dataLe false enc)) → Q (.ref (s.heap.objs.size + 1)) { s with heap := sortedAll s.heap vs (List.toArray out) }) :
    wpAny (model prog w) A (call (.builtin "sorted") [.ref l]) Q E s := by
  have er' : EachIs (fun v b => ∃ as, Reads (sortingHeap (copyHeap s.heap vs) (s.heap.objs.size + 1) vs) v (enc b) as) vs bs := er.mono fun _ _ ⟨as, r⟩ => ⟨as, PyProof.Rows.Reads.keeps (fun _ _ => sorting_copy_old) r⟩
  have hL' : vs.length ≤ sizeLine := by rw [e.length]; exact hL
  exact sorted_of_tup hl hL' fun _ => list_sort_vals (s := { s with heap := copyHeap s.heap vs }) (copyHeap_at s.heap vs) (SortsAt.data (s := { s with heap := sortingHeap (copyHeap s.heap vs) (s.heap.objs.size + 1) vs }) (each_map (R := fun v d => ∃ as, Reads (sortingHeap (copyHeap s.heap vs) (s.heap.objs.size + 1) vs) v d as) enc er') hal hk (bound_map hu)) hL' ⟨rfl, h _ (by rw [sortVals_length false rfl]; exact e.length) (sortVals_data false e er' hal)⟩
/-- the order of tuples of ints -/
def leT (a b : List Int) : Bool := PySem.W.dataLe false iT a b
/-- sorted(q), q a list or tuple of tuples of ints -/
def rSortQ (K : PySem.W.Frag) : List V → Hp → VK → Prop := fun vs H Q => ∃ (q : Bool × Addr) (xs : List V) (tss : List (List Int)), vs = [V.ref q.2] ∧ CZ.SqK K H q xs ∧ RowsR H xs tss ∧ (∀ ts ∈ tss, ts ≠ []) ∧
  ∀ (ys : List V) (p : Addr), RowsR H ys (tss.mergeSort leT) → H p = none → Q (.ref p) (upd H p (.lst ys))
open PySem.W in
theorem each_rows {H : Hp} : ∀ {xs : List V} {tss : List (List Int)} {us : List Value}, RowsR H xs tss → Vals xs us → EachIs (fun (u : Value) (ts : List Int) => ∃ t, u = Value.ref t ∧ H t = some (.tup (ts.map V.int))) us tss
  | _, _, _, .nil, .nil => .nil
  | _, _, _, .cons ⟨r, e, h⟩ t, .cons rv tv => by
    subst e
    cases rv
    exact .cons ⟨r, rfl, h⟩ (each_rows t tv)
open PySem.W in
theorem rows_each {H : Hp} : ∀ {us : List Value} {tss : List (List Int)}, EachIs (fun (u : Value) (ts : List Int) => ∃ t, u = Value.ref t ∧ H t = some (.tup (ts.map V.int))) us tss → ∃ ys, RowsR H ys tss ∧ Vals ys us
  | _, _, .nil => ⟨[], .nil, .nil⟩
  | _, _, .cons ⟨t, e, h⟩ r => by
    subst e
    obtain ⟨ys, h1, h2⟩ := rows_each r
    exact ⟨.ref t :: ys, .cons ⟨t, rfl, h⟩ h1, .cons rfl h2⟩
open PySem.W in
theorem each_dp {X : Cx} {pins : List (Addr × Obj)} {σ : L2.St} {H : Hp} {s : Shared} (I : Inv X pins σ H s) : ∀ {us : List Value} {tss : List (List Int)}, EachIs (fun (u : Value) (ts : List Int) => ∃ t, u = Value.ref t ∧ H t = some (.tup (ts.map V.int))) us tss → EachIs (fun v b => ∃ as, Reads s.heap v (iT b) as) us tss
  | _, _, .nil => .nil
  | _, _, .cons ⟨t, e, h⟩ r => by
    subst e
    exact .cons (Dp.reads I _ (.ref t) _ (dp_ints h) rfl) (each_dp I r)
theorem alike_iT (a b : List Int) : PySem.W.alike (iT a) (iT b) = true := by
  show PySem.W.alike (.tuple (a.map .int)) (.tuple (b.map .int)) = true
  rw [PySem.W.alike]
  exact PySem.W.alike_ints a b
theorem cr_sortQ {X : Cx} (hu : X.A.units + 65 < cLine) : CallR X (.builtin "sorted") (rSortQ X.K) := by
  intro pins s σ H vs us Q I r h
  obtain ⟨⟨b, a⟩, xs, tss, rfl, hs, rr, ne, q⟩ := h
  rw [Vals.ref1 r]
  have hk : PySem.W.Sortable (tss.map iT) := .inl fun d hd => by
    obtain ⟨ts, ht, rfl⟩ := List.mem_map.mp hd
    cases ts with
    | nil => exact absurd rfl (ne _ ht)
    | cons x l => exact ⟨_, _, rfl⟩
  have hU : ∀ ts, ts ∈ tss → X.A.units + 2 + (iT ts).depth < cLine := fun ts _ => by
    have e := PySem.W.depth_ints ts
    have : (iT ts).depth = 1 := by
      show PyData.depth (.tuple (ts.map .int)) = 1
      simp only [PyData.depth, e]
    omega
  have fin : ∀ its : List Value, Vals xs its → xs.length ≤ sizeLine → ∀ out, out.length = tss.length → PySem.W.EachIs (fun (u : Value) (ts : List Int) => ∃ t, u = Value.ref t ∧ H t = some (.tup (ts.map V.int))) out (tss.mergeSort (PySem.W.dataLe false iT)) → EP X pins σ Q (.ref (s.heap.objs.size + 1)) { s with heap := sortedAll s.heap its (List.toArray out) } := by
    intro its rv hz out lo eo
    obtain ⟨ys, h1, h2⟩ := rows_each eo
    obtain ⟨ep, he'⟩ := PyProof.Rows.sortedAll_at s.heap its (List.toArray out)
    have hlen : ys.length ≤ sizeLine := by
      rw [h2.length, lo, ← Paired.length rr]
      exact hz
    exact ⟨.ref _, upd H (s.heap.objs.size + 1) (.lst ys), I.laid (t' := s.toks) (fun _ _ => PyProof.Rows.sortedAll_old) (Nat.le_succ _) ⟨hlen, out, ep, h2, he'⟩, rfl, q ys _ h1 (I.hok.fresh (Nat.le_succ _))⟩
  have hal : PySem.W.AllAlike (tss.map iT) := PySem.W.AllAlike.of alike_iT
  cases b with
  | false =>
    obtain ⟨its, rv, hl, hz⟩ := I.list (show SqL X.K H a xs from hs)
    have e := each_rows rr rv
    exact PySem.W.sorted_data (enc := iT) hl.isList e (each_dp I e) hal hk (by rw [← Paired.length rr]; exact hz) hU (fin its rv hz)
  | true =>
    obtain ⟨its, rv, hl, hz⟩ := I.tuple (show SqT X.K H a xs from hs)
    have e := each_rows rr rv
    exact sorted_data_t (enc := iT) hl e (each_dp I e) hal hk (by rw [← Paired.length rr]; exact hz) hU (fin its rv hz)

theorem ifs_ex {c : TT} {t u : TS} {D : Ends} {σ : L2.St} {H : Hp} (h : ∀ N : L2.St → Hp → Prop, (∀ H2, Ex H H2 → N σ H2) → tIfS c t u { D with nx := N } σ H) (hR : ∀ H2, Ex H H2 → D.nx σ H2) : tIfS c t u D σ H :=
  ifs_cutG (fun σ2 H2 => σ2 = σ ∧ Ex H H2) (by rintro σ2 H2 ⟨rfl, e⟩; exact hR H2 e) (fun N hN => h N fun H2 e => hN σ H2 ⟨rfl, e⟩)
theorem sif_ex {c : TT} {t u r : TS} {D : Ends} {σ : L2.St} {H : Hp} (h : ∀ N : L2.St → Hp → Prop, (∀ H2, Ex H H2 → N σ H2) → tIfS c t u { D with nx := N } σ H) (hR : ∀ H2, Ex H H2 → r D σ H2) : tSeq (tIfS c t u) r D σ H :=
  ifs_ex (D := { D with nx := r D }) h hR

open CD
/-- a source of draws stands at s -/
def Src (H : Hp) (s : Addr) : Prop := ∃ a b c : Int, H s = some (.lst [.int a, .int b, .int c])
theorem Src.mono {s : Addr} {H H2 : Hp} (e : Ex H H2) (h : Src H s) : Src H2 s := by
  obtain ⟨a, b, c, h⟩ := h
  exact ⟨a, b, c, e _ _ h⟩
theorem Src.ne {s p : Addr} {H : Hp} (h : Src H s) (hp : H p = none) : p ≠ s := by
  obtain ⟨a, b, c, h⟩ := h
  exact (ne_of_none h hp).symm
theorem Src.new {s p : Addr} {H : Hp} {o : HO} (h : Src H s) (hp : H p = none) : Src (upd H p o) s := Src.mono (exn hp) h

section
variable {P : Program} {w : World} {K : PySem.W.Frag} {mg : Str → Option Value} {base : Heap}
def sp_law_mix : Sp := fun vs H Q _ => ∃ c d : Int, vs = [.int c, .int d] ∧ ∀ r : Int, 0 ≤ r → r < 2147483563 → Q (.int r) H
theorem ok_law_mix (T : TX K mg) : FnOk P w K mg base CX0 1 T.f_law_mix T.fd_law_mix ["_law_cell", "_law_turn"] sp_law_mix := by
  refine T.F_law_mix.ok sc_law_mix (fun vs H Q E h => ?_) (fun cdv A outer s H vs Q E hr h => ?_)
  · obtain ⟨c, d, rfl, _⟩ := h
    rfl
  · obtain ⟨c, d, rfl, k⟩ := h
    refine ⟨_, (pss_cons (ps_set (i := 2) sc_law_mix.nd rfl (Or.inl rfl) (pe_op op_add (pe_op op_mod (pv 0) pe_int) (pe_op op_mulI (pe_op op_mod (pe_op op_fdivW (pv 0) pe_int) pe_int) pe_int))) (pss_cons (ps_set (i := 2) sc_law_mix.nd rfl (Or.inl rfl) (pe_op op_mod (pe_op op_mulI (pe_op op_add (pe_op op_add (pv 2) (pe_op op_mulI pe_int (pv 1))) pe_int) pe_int) pe_int)) (pss_cons (ps_set (i := 2) sc_law_mix.nd rfl (Or.inl rfl) (pe_op op_mod (pe_op op_mulI (pv 2) (pe_op op_add (pe_op op_add (pe_op op_fdivW (pv 2) pe_int) pe_int) (pv 1))) pe_int)) (pss_one (ps_ret (pe_op op_mod (pe_op op_mulI (pv 2) (pe_op op_add (pe_op op_fdivW (pv 2) pe_int) pe_int)) pe_int)))))), ?_⟩
    have a1 := mod_lo (i := c) (n := 2147483647) (by decide)
    have a2 := mod_hi (i := c) (n := 2147483647) (by decide)
    have b1 := mod_lo (i := c / 2147483647) (n := 1000003) (by decide)
    have b2 := mod_hi (i := c / 2147483647) (n := 1000003) (by decide)
    refine ⟨_, rfl, _, _, rfl, rfl, (by show (0 : Int) < _; decide), _, rfl, _, _, rfl, rfl, ⟨by decide, by decide +kernel⟩, _, _, rfl, rfl, (by show (0 : Int) < _; decide), _, _, rfl, rfl, mul_ok (.inr (by decide)), _, _, rfl, rfl, ?_⟩
    generalize c % 2147483647 + c / 2147483647 % 1000003 * 7919 = n0
    refine ⟨_, rfl, _, rfl, _, _, rfl, rfl, mul_ok (.inl (by decide)), _, _, rfl, rfl, _, _, rfl, rfl, _, _, rfl, rfl, mul_ok (.inr (by decide)), _, _, rfl, rfl, (by show (0 : Int) < _; decide), ?_⟩
    have c1 := mod_lo (i := (n0 + 15485863 * d + 104729) * 48271) (n := 2147483629) (by decide)
    have c2 := mod_hi (i := (n0 + 15485863 * d + 104729) * 48271) (n := 2147483629) (by decide)
    generalize (n0 + 15485863 * d + 104729) * 48271 % 2147483629 = n2 at c1 c2
    refine ⟨_, rfl, _, rfl, _, _, rfl, rfl, ⟨by decide, by decide +kernel⟩, _, _, rfl, rfl, _, rfl, _, _, rfl, rfl, _, _, rfl, rfl, mul_ok (.inl (by omega)), _, _, rfl, rfl, (by show (0 : Int) < _; decide), ?_⟩
    have d1 := mod_lo (i := n2 * (n2 / 1009 + 69621 + d)) (n := 2147483587) (by decide)
    have d2 := mod_hi (i := n2 * (n2 / 1009 + 69621 + d)) (n := 2147483587) (by decide)
    generalize n2 * (n2 / 1009 + 69621 + d) % 2147483587 = n3 at d1 d2
    exact ⟨_, rfl, _, rfl, _, _, rfl, rfl, ⟨by decide, by decide +kernel⟩, _, _, rfl, rfl, _, _, rfl, rfl, mul_ok (.inl (by omega)), _, _, rfl, rfl, (by show (0 : Int) < _; decide), k _ (mod_lo (by decide)) (mod_hi (by decide))⟩
def sp_law_source : Sp := fun vs H Q _ => ∃ c : Int, vs = [.int c] ∧ ∀ H2 s, Ex H H2 → H s = none → Src H2 s → Q (.ref s) H2
theorem ok_law_source (T : TX K mg) : FnOk P w K mg base CX0 1 T.f_law_source T.fd_law_source ["_law_cell"] sp_law_source := by
  refine T.F_law_source.ok sc_law_source (fun vs H Q E h => ?_) (fun cdv A outer s H vs Q E hr h => ?_)
  · obtain ⟨c, rfl, _⟩ := h
    rfl
  · obtain ⟨c, rfl, k⟩ := h
    refine ⟨_, (pss_one (ps_ret (pe_lst (pa_cons (pe_op op_mulI (pe_callB call_abs (by rfl) T.z_abs (by decide +kernel) (pa_cons (pv 0) pa_nil)) (pe_callTy call_int1 (by rfl) T.z_int (by decide +kernel) (pa_cons (pe_cmpR op_ge (pe_callB call_abs (by rfl) T.z_abs (by decide +kernel) (pa_cons (pv 0) pa_nil)) (pe_op op_pow pe_int pe_int) (nomark _)) pa_nil))) (pa_cons (pe_callB call_abs (by rfl) T.z_abs (by decide +kernel) (pa_cons (pv 0) pa_nil)) (pa_cons pe_int pa_nil)))))), ?_⟩
    refine ⟨_, rfl, _, rfl, _, rfl, _, rfl, _, _, rfl, rfl, ⟨by decide, by decide, by decide⟩, _, _, rfl, rfl, .inr ⟨_, rfl, _, _, rfl, rfl, mul_ok (.inr ?_), _, rfl, _, rfl, (by show 3 ≤ sizeLine; decide), fun s hs => k _ s (exn hs) hs ⟨_, _, 0, upd_same⟩⟩⟩
    have hb : ∀ b : Bool, (-2 ^ 64 < (if b = true then (1 : Int) else 0)) ∧ (if b = true then (1 : Int) else 0) < 2 ^ 64 := by decide
    exact hb _
def sp_law_draw : Sp := fun vs H Q _ => ∃ (s : Addr) (n : Int), vs = [.ref s, .int n] ∧ Src H s ∧ 0 < n ∧ n.natAbs < 2 ^ 8000 ∧ ∀ r H2, 0 ≤ r → r < n → XB s H H2 → Src H2 s → Q (.int r) H2
theorem ok_law_draw (T : TX K mg) : FnOk P w K mg base CX0 2 T.f_law_draw T.fd_law_draw ["_law_source_here", "_law_limit"] sp_law_draw := by
  refine T.F_law_draw.ok sc_law_draw (fun vs H Q E h => ?_) (fun cdv A outer s H vs Q E hr h => ?_)
  · obtain ⟨s, n, rfl, _⟩ := h
    rfl
  · obtain ⟨s, n, rfl, ⟨a, b, c, hs⟩, h0, hb, k⟩ := h
    refine ⟨_, (pss_cons (ps_if (pt_cmpR op_gt (pe_ix ix_list (pv 0) pe_int (fun _ _ => rfl)) pe_int (nomark _)) (pss_cons (ps_set (i := 2) sc_law_draw.nd rfl (Or.inl rfl) (pe_op op_mod (pe_ix ix_list (pv 0) pe_int (fun _ _ => rfl)) (pv 1))) (pss_cons (ps_asg (pe_op op_fdivW (pe_ix ix_list (pv 0) pe_int (fun _ _ => rfl)) (pv 1)) (pg_sub (pv 0) pe_int set_list)) (pss_one (ps_ret (pv 2))))) pss_nil) (pss_cons (ps_asg (pe_op op_add (pe_ix ix_list (pv 0) pe_int (fun _ _ => rfl)) pe_int) (pg_sub (pv 0) pe_int set_list)) (pss_one (ps_ret (pe_op op_mod (pe_call (ok_law_mix T) hr rfl T.m_law_mix T.F_law_mix.kp T.b_law_mix .nil pass0 (pa_cons (pe_ix ix_list (pv 0) pe_int (fun _ _ => rfl)) (pa_cons (pe_ix ix_list (pv 0) pe_int (fun _ _ => rfl)) pa_nil))) (pv 1)))))), ?_⟩
    refine ⟨_, rfl, s, _, _, _, rfl, rfl, SqL.of hs, rfl, _, _, rfl, rfl, _, rfl, ?_⟩
    refine ite2 (fun _ => ?_) (fun _ => ?_)
    · refine ⟨_, rfl, s, _, _, _, rfl, rfl, SqL.of hs, rfl, _, rfl, _, _, rfl, rfl, h0, ?_⟩
      refine ⟨_, rfl, s, _, _, _, rfl, rfl, SqL.of hs, rfl, _, rfl, _, _, rfl, rfl, wide_div h0 hb (by decide) (by decide), _, rfl, s, _, _, 0, rfl, rfl, hs, rfl, ?_⟩
      exact ⟨_, rfl, k _ _ (mod_lo h0) (mod_hi h0) XB.upd ⟨_, _, _, upd_same⟩⟩
    · refine ⟨_, rfl, s, _, _, _, rfl, rfl, SqL.of hs, rfl, _, _, rfl, rfl, _, rfl, s, _, _, 2, rfl, rfl, hs, rfl, ?_⟩
      refine ⟨_, rfl, s, _, _, _, rfl, rfl, SqL.of upd_same, rfl, _, rfl, s, _, _, _, rfl, rfl, SqL.of upd_same, rfl, _, _, rfl, fun r _ _ => ?_⟩
      exact ⟨_, rfl, _, _, rfl, rfl, h0, k _ _ (mod_lo h0) (mod_hi h0) XB.upd ⟨_, _, _, upd_same⟩⟩
end

theorem XB.src {s : Addr} {H H2 H3 : Hp} (xb : XB s H H2) (e : Ex H2 H3) : XB s H H3 := xb.trans (XB.of e)
/-- an appended list D, new behind H, beside the source s -/
theorem XB.app {s D : Addr} {H H2 : Hp} {o : HO} (xb : XB s H H2) (hD : H D = none) : XB s H (L2.upd H2 D o) := fun c u n z => by
  rw [upd_ne (ne_of_none z hD)]
  exact xb c u n z
theorem Src.app {s D : Addr} {H : Hp} {o : HO} (h : Src H s) (n : D ≠ s) : Src (upd H D o) s := by
  obtain ⟨a, b, c, z⟩ := h
  exact ⟨a, b, c, by rw [upd_ne n.symm]; exact z⟩
theorem atI_nat {α : Type} {xs : List α} {r : Int} (r0 : 0 ≤ r) (r1 : r < xs.length) : ∃ v, atI xs r = some v ∧ v ∈ xs := by
  have h : r.toNat < xs.length := by omega
  refine ⟨xs[r.toNat], ?_, List.getElem_mem h⟩
  unfold atI ixN
  rw [if_pos r0, if_pos r1]
  show xs[r.toNat]? = _
  rw [List.getElem?_eq_getElem h]
theorem prodL_snoc (ns : List Int) (n : Int) : ns.foldl (fun p n => p * n) 1 * n = (ns ++ [n]).foldl (fun p n => p * n) 1 := by
  rw [List.foldl_append]
  rfl
theorem SeatOk.snoc : ∀ {ns ps : List Int} {n p : Int}, SeatOk ns ps → 0 ≤ p → p < n → SeatOk (ns ++ [n]) (ps ++ [p])
  | [], [], _, _, _, h0, h1 => ⟨⟨h0, h1⟩, True.intro⟩
  | _ :: _, _ :: _, _, _, h, h0, h1 => ⟨h.1, SeatOk.snoc h.2 h0 h1⟩
theorem abs30 {n : Int} (h1 : 1 ≤ n) (h2 : n ≤ 10 ^ 30) : n.natAbs < 2 ^ 100 := by
  have : (10 : Int) ^ 30 < 2 ^ 100 := by decide +kernel
  omega
theorem tup_xb {s q : Addr} {H H2 : Hp} {xs : List V} (src : Src H s) (h : H q = some (.tup xs)) (xb : XB s H H2) : H2 q = some (.tup xs) := by
  obtain ⟨a, b, c, z⟩ := src
  exact xb _ _ (ne_of h z (by intro q; cases q)) h
theorem TabAt.xb {C s a : Addr} {H H2 : Hp} {ns : List Int} (src : Src H s) (xb : XB s H H2) (h : TabAt C H a ns) : TabAt C H2 a ns := by
  obtain ⟨dx, t, h1, h2⟩ := h
  obtain ⟨x, y, c, z⟩ := src
  exact ⟨dx, t, xb _ _ (ne_of h1 z (by intro q; cases q)) h1, xb _ _ (ne_of h2 z (by intro q; cases q)) h2⟩
theorem RowsR.xb {s : Addr} {H H2 : Hp} {xs : List V} {tss : List (List Int)} (h : RowsR H xs tss) (src : Src H s) (xb : XB s H H2) : RowsR H2 xs tss := h.monoT fun _ _ z => tup_xb src z xb
theorem RowsAt.xb {s f : Addr} {H H2 : Hp} {tss : List (List Int)} (h : RowsAt H f tss) (n : f ≠ s) (src : Src H s) (xb : XB s H H2) : RowsAt H2 f tss := by
  obtain ⟨xs, h1, h2⟩ := h
  exact ⟨xs, xb _ _ n h1, h2.xb src xb⟩

/-- all seats, in ascending order -/
def crossS (hss : List (List Int)) (n : Int) : List (List Int) := hss.flatMap fun hs => (List.range n.toNat).map fun (i : Nat) => hs ++ [(i : Int)]
def allS (ns : List Int) : List (List Int) := ns.foldl crossS [[]]
theorem allS_snoc (ns : List Int) (n : Int) : allS (ns ++ [n]) = crossS (allS ns) n := by
  unfold allS
  rw [List.foldl_append]
  rfl
theorem crossS_snoc (hss : List (List Int)) (hs : List Int) (n : Int) : crossS (hss ++ [hs]) n = crossS hss n ++ (List.range n.toNat).map fun (i : Nat) => hs ++ [(i : Int)] := by
  unfold crossS
  rw [List.flatMap_append]
  simp
theorem crossS_len (n : Int) : ∀ hss : List (List Int), (crossS hss n).length = hss.length * n.toNat
  | [] => by simp [crossS]
  | h :: hss => by
    have ih := crossS_len n hss
    unfold crossS at ih ⊢
    rw [List.flatMap_cons, List.length_append, ih, List.length_map, List.length_range, List.length_cons, Nat.succ_mul, Nat.add_comm]
def prodL (ns : List Int) : Int := ns.foldl (fun p n => p * n) 1
theorem prodS_snoc (ns : List Int) (n : Int) : prodL (ns ++ [n]) = prodL ns * n := by
  unfold prodL
  rw [List.foldl_append]
  rfl
theorem fold_mul (ns : List Int) : ∀ p : Int, ns.foldl (fun p n => p * n) p = p * ns.foldl (fun p n => p * n) 1 := by
  induction ns with
  | nil => intro p; simp
  | cons n ns ih =>
    intro p
    rw [List.foldl_cons, List.foldl_cons, ih (p * n), ih (1 * n), Int.one_mul, Int.mul_assoc]
theorem prodL_cons (n : Int) (ns : List Int) : prodL (n :: ns) = n * prodL ns := by
  unfold prodL
  rw [List.foldl_cons, fold_mul, Int.one_mul]
theorem prodL_pos : ∀ {ns : List Int}, (∀ n ∈ ns, 1 ≤ n) → 1 ≤ prodL ns
  | [], _ => by decide
  | n :: ns, h => by
    rw [prodL_cons]
    exact Int.mul_pos (by have := h n List.mem_cons_self; omega) (by have := prodL_pos (fun m hm => h m (List.mem_cons_of_mem _ hm)); omega)
theorem prodL_take : ∀ {ns : List Int} (i : Nat), (∀ n ∈ ns, 1 ≤ n) → prodL (ns.take i) ≤ prodL ns
  | [], _, _ => by simp
  | n :: ns, 0, h => by
    rw [List.take_zero]
    exact prodL_pos h
  | n :: ns, i + 1, h => by
    rw [List.take_succ_cons, prodL_cons, prodL_cons]
    exact Int.mul_le_mul_of_nonneg_left (prodL_take i fun m hm => h m (List.mem_cons_of_mem _ hm)) (by have := h n List.mem_cons_self; omega)
theorem foldS_len : ∀ (ns : List Int) (hss : List (List Int)), (∀ n ∈ ns, 1 ≤ n) → ((ns.foldl crossS hss).length : Int) = hss.length * prodL ns
  | [], hss, _ => by simp [prodL]
  | n :: ns, hss, h => by
    have n1 := h n List.mem_cons_self
    rw [List.foldl_cons, foldS_len ns _ fun m hm => h m (List.mem_cons_of_mem _ hm), crossS_len, prodL_cons, Int.natCast_mul, Int.toNat_of_nonneg (by omega), Int.mul_assoc]
theorem allS_len {ns : List Int} (h : ∀ n ∈ ns, 1 ≤ n) : ((allS ns).length : Int) = prodL ns := by
  unfold allS
  rw [foldS_len ns _ h]
  simp
theorem mem_foldS : ∀ (ns : List Int) (hss : List (List Int)) (p : List Int), p ∈ ns.foldl crossS hss ↔ ∃ h ∈ hss, ∃ q, SeatOk ns q ∧ p = h ++ q
  | [], hss, p => by
    constructor
    · intro h
      exact ⟨p, h, [], True.intro, by simp⟩
    · rintro ⟨h, hh, q, sk, rfl⟩
      cases q with
      | nil => rw [List.append_nil]; exact hh
      | cons x q => exact sk.elim
  | n :: ns, hss, p => by
    rw [List.foldl_cons, mem_foldS ns]
    constructor
    · rintro ⟨h, hh, q, sk, rfl⟩
      obtain ⟨g, hg, hh⟩ := List.mem_flatMap.mp hh
      obtain ⟨i, hi, rfl⟩ := List.mem_map.mp hh
      have := List.mem_range.mp hi
      exact ⟨g, hg, (i : Int) :: q, ⟨⟨by omega, by omega⟩, sk⟩, by simp⟩
    · rintro ⟨h, hh, q, sk, rfl⟩
      cases q with
      | nil => exact sk.elim
      | cons x q =>
        obtain ⟨⟨x0, x1⟩, sk⟩ : (0 ≤ x ∧ x < n) ∧ SeatOk ns q := sk
        refine ⟨h ++ [x], List.mem_flatMap.mpr ⟨h, hh, List.mem_map.mpr ⟨x.toNat, List.mem_range.mpr (by omega), by rw [Int.toNat_of_nonneg x0]⟩⟩, q, sk, by simp⟩
theorem mem_allS {ns p : List Int} : p ∈ allS ns ↔ SeatOk ns p := by
  unfold allS
  rw [mem_foldS]
  constructor
  · rintro ⟨h, hh, q, sk, rfl⟩
    rw [List.mem_singleton.mp hh]
    exact sk
  · intro sk
    exact ⟨[], List.mem_singleton.mpr rfl, p, sk, rfl⟩
theorem rows_allS {ns : List Int} : ∀ hs ∈ allS ns, hs.length = ns.length := fun hs h => (mem_allS.mp h).len
/-- the seat as far behind p as o is ahead -/
def mirL : List Int → List Int → List Int → List Int
  | n :: ns, p :: ps, o :: os => ((2 * p - o) % n) :: mirL ns ps os
  | _, _, _ => []
theorem mirL_len : ∀ {ns ps os : List Int}, ps.length = ns.length → os.length = ns.length → (mirL ns ps os).length = ns.length
  | [], _, _, _, _ => by cases ‹List Int› <;> cases ‹List Int› <;> rfl
  | n :: ns, p :: ps, o :: os, h1, h2 => by
    simp only [mirL, List.length_cons] at *
    rw [mirL_len (by omega) (by omega)]
theorem mirL_get : ∀ {ns ps os : List Int} {i : Nat} {n p o : Int}, ns[i]? = some n → ps[i]? = some p → os[i]? = some o → (mirL ns ps os)[i]? = some ((2 * p - o) % n)
  | n :: ns, p :: ps, o :: os, 0, _, _, _, h1, h2, h3 => by
    simp at h1 h2 h3
    subst h1 h2 h3
    rfl
  | n :: ns, p :: ps, o :: os, i + 1, _, _, _, h1, h2, h3 => by
    rw [List.getElem?_cons_succ] at h1 h2 h3
    show (mirL ns ps os)[i]? = _
    exact mirL_get h1 h2 h3
  | [], _, _, _, _, _, _, h1, _, _ => by simp at h1
  | _ :: _, [], _, _, _, _, _, _, h1, _ => by simp at h1
  | _ :: _, _ :: _, [], _, _, _, _, _, _, h1 => by simp at h1
theorem mirL_seat : ∀ {ns ps os : List Int}, (∀ n ∈ ns, 1 ≤ n) → ps.length = ns.length → os.length = ns.length → SeatOk ns (mirL ns ps os)
  | [], _, _, _, _, _ => by cases ‹List Int› <;> cases ‹List Int› <;> exact True.intro
  | n :: ns, p :: ps, o :: os, h, h1, h2 => by
    have n1 := h n List.mem_cons_self
    exact ⟨⟨Int.emod_nonneg _ (by omega), Int.emod_lt_of_pos _ (by omega)⟩, mirL_seat (fun m hm => h m (List.mem_cons_of_mem _ hm)) (by simpa using h1) (by simpa using h2)⟩
/-- the call that leads from p to o -/
def toL : List Int → List Int → List Int → List Int
  | n :: ns, p :: ps, o :: os => ((o - p) % n) :: toL ns ps os
  | _, _, _ => []
theorem toL_len : ∀ {ns ps os : List Int}, ps.length = ns.length → os.length = ns.length → (toL ns ps os).length = ns.length
  | [], _, _, _, _ => by cases ‹List Int› <;> cases ‹List Int› <;> rfl
  | n :: ns, p :: ps, o :: os, h1, h2 => by
    simp only [toL, List.length_cons] at *
    rw [toL_len (by omega) (by omega)]
theorem toL_get : ∀ {ns ps os : List Int} {i : Nat} {n p o : Int}, ns[i]? = some n → ps[i]? = some p → os[i]? = some o → (toL ns ps os)[i]? = some ((o - p) % n)
  | n :: ns, p :: ps, o :: os, 0, _, _, _, h1, h2, h3 => by
    simp at h1 h2 h3
    subst h1 h2 h3
    rfl
  | n :: ns, p :: ps, o :: os, i + 1, _, _, _, h1, h2, h3 => by
    rw [List.getElem?_cons_succ] at h1 h2 h3
    show (toL ns ps os)[i]? = _
    exact toL_get h1 h2 h3
  | [], _, _, _, _, _, _, h1, _, _ => by simp at h1
  | _ :: _, [], _, _, _, _, _, _, h1, _ => by simp at h1
  | _ :: _, _ :: _, [], _, _, _, _, _, _, h1 => by simp at h1
/-- the number of a seat in a list of numbers -/
def dep (fs : List (List Int × Nat)) (p : List Int) : Option Nat := (fs.find? fun q => decide (q.1 = p)).map (·.2)
abbrev keysL (fs : List (List Int × Nat)) : List (List Int) := fs.map (·.1)
theorem dep_cons (f : List Int × Nat) (fs : List (List Int × Nat)) (p : List Int) : dep (f :: fs) p = if f.1 = p then some f.2 else dep fs p := by
  unfold dep
  rw [List.find?_cons]
  by_cases c : f.1 = p
  · rw [decide_eq_true c, if_pos c]
    rfl
  · rw [decide_eq_false c, if_neg c]
theorem dep_isSome {fs : List (List Int × Nat)} {p : List Int} : (dep fs p).isSome = decide (p ∈ keysL fs) := by
  induction fs with
  | nil => simp [dep]
  | cons f fs ih =>
    rw [dep_cons]
    by_cases c : f.1 = p
    · rw [if_pos c]
      simp [c]
    · rw [if_neg c, ih]
      have : ¬ p = f.1 := fun z => c z.symm
      simp [this]
/-- the seats that join next -/
def newL (ns : List Int) (fs : List (List Int × Nat)) (miss newest : List (List Int)) : List (List Int) := miss.filter fun s => newest.any fun o => decide (mirL ns s o ∈ keysL fs)
abbrev atD (d : Nat) (ps : List (List Int)) : List (List Int × Nat) := ps.map fun p => (p, d)
def missL (fs : List (List Int × Nat)) (miss : List (List Int)) : List (List Int) := miss.filter fun s => decide (s ∉ keysL fs)
def roundsL (ns : List Int) : Nat → List (List Int × Nat) → List (List Int) → List (List Int) → Nat → List (List Int × Nat)
  | 0, fs, _, _, _ => fs
  | f + 1, fs, miss, newest, d => if newest = [] then fs else
    roundsL ns f (fs ++ atD (d + 1) (newL ns fs miss newest)) (missL (fs ++ atD (d + 1) (newL ns fs miss newest)) miss) (newL ns fs miss newest) (d + 1)
def countsL (ns : List Int) (tss : List (List Int)) : List (List Int × Nat) := roundsL ns ((allS ns).length + 2) (atD 0 tss) (missL (atD 0 tss) (allS ns)) tss 0
theorem crossS_nodup {hss : List (List Int)} (n : Int) (h : hss.Nodup) : (crossS hss n).Nodup := by
  unfold crossS
  unfold List.Nodup at h ⊢
  rw [List.pairwise_flatMap]
  constructor
  · intro hs _
    rw [List.pairwise_map]
    refine List.Pairwise.imp (fun {a b} z e => z ?_) List.nodup_range
    have := (List.append_inj' e rfl).2
    exact Int.ofNat.inj (List.cons.inj this).1
  · refine h.imp fun {a b} z x hx y hy e => z ?_
    obtain ⟨i, _, rfl⟩ := List.mem_map.mp hx
    obtain ⟨j, _, rfl⟩ := List.mem_map.mp hy
    exact (List.append_inj' e rfl).1
theorem allS_nodup (ns : List Int) : (allS ns).Nodup := by
  unfold allS
  have : ∀ (ns : List Int) (hss : List (List Int)), hss.Nodup → (ns.foldl crossS hss).Nodup := fun ns => by
    induction ns with
    | nil => exact fun _ h => h
    | cons n ns ih => exact fun hss h => ih _ (crossS_nodup n h)
  exact this ns _ (by simp)
theorem filter_two {α : Type} {c d : α → Bool} : ∀ {l : List α}, (∀ x ∈ l, c x = true → d x = false) → (l.filter c).length + (l.filter d).length ≤ l.length
  | [], _ => by simp
  | x :: l, h => by
    have ih := filter_two (l := l) fun y hy => h y (List.mem_cons_of_mem _ hy)
    rw [List.filter_cons, List.filter_cons]
    cases hc : c x
    · cases d x <;> simp <;> omega
    · rw [h x List.mem_cons_self hc]
      simp
      omega
theorem newL_sub {ns : List Int} {fs : List (List Int × Nat)} {miss newest : List (List Int)} {p : List Int} (h : p ∈ newL ns fs miss newest) : p ∈ miss := (List.mem_filter.mp h).1
theorem keys_app (fs gs : List (List Int × Nat)) : keysL (fs ++ gs) = keysL fs ++ keysL gs := List.map_append
theorem mem_missL {fs : List (List Int × Nat)} {miss : List (List Int)} {p : List Int} : p ∈ missL fs miss ↔ p ∈ miss ∧ p ∉ keysL fs := by
  unfold missL
  rw [List.mem_filter, decide_eq_true_iff]

/-- a dict of numbers by seats -/
abbrev entK (p : List Int) : List L2.Key := p.map Sum.inl
abbrev entV (q : List Int × Nat) : List L2.Key × V := (entK q.1, V.int (q.2 : Int))
theorem entK_kV (p : List Int) : (entK p).map kV = p.map V.int := by rw [List.map_map]; rfl
theorem entK_inj {p q : List Int} (h : entK p = entK q) : p = q := by
  induction p generalizing q with
  | nil =>
    cases q with
    | nil => rfl
    | cons => cases h
  | cons a p ih =>
    cases q with
    | nil => cases h
    | cons b q =>
      obtain ⟨h1, h2⟩ := List.cons.inj h
      rw [Sum.inl.inj h1, ih h2]
def CntAt (H : Hp) (d : Addr) (fs : List (List Int × Nat)) : Prop := H d = some (.dT (fs.map entV))
theorem CntAt.mono {H H2 : Hp} {d : Addr} {fs : List (List Int × Nat)} (e : Ex H H2) (h : CntAt H d fs) : CntAt H2 d fs := e _ _ h
theorem val_ent (p : List Int) : ∀ fs : List (List Int × Nat), valV (fs.map entV) (entK p) = (dep fs p).map fun d : Nat => V.int (d : Int)
  | [] => rfl
  | f :: fs => by
    rw [List.map_cons]
    by_cases c : f.1 = p
    · rw [valV_pos (show entK f.1 = entK p by rw [c])]
      unfold dep
      rw [List.find?_cons, decide_eq_true c]
      rfl
    · rw [valV_neg (fun z => c (entK_inj z)), val_ent p fs]
      unfold dep
      rw [List.find?_cons, decide_eq_false c]
theorem cnt_get {H : Hp} {d r : Addr} {fs : List (List Int × Nat)} {p : List Int} (h : CntAt H d fs) (hr : H r = some (.tup (p.map V.int))) : DGet H d (.ref r) ((dep fs p).map fun d : Nat => V.int (d : Int)) := by
  rw [← val_ent]
  exact DGet.t h (by rw [entK_kV]; exact hr)
theorem tup_dict {q D : Addr} {H : Hp} {kvs : List (List L2.Key × V)} {ys : List V} {o : HO} (hD : H D = some (.dT kvs)) (h : H q = some (.tup ys)) : upd H D o q = some (.tup ys) := by
  rw [upd_ne (ne_of h hD (by intro z; cases z))]
  exact h
section
variable {P : Program} {w : World} {K : PySem.W.Frag} {mg : Str → Option Value} {base : Heap}
def sp_all_seats (C : Addr) : Sp := fun vs H Q _ => ∃ (a : Addr) (ns : List Int), vs = [.ref a] ∧ TabAt C H a ns ∧ SzOk ns ∧ prodL ns ≤ 300 ∧ ∀ q H2, Ex H H2 → H q = none → RowsAt H2 q (allS ns) → Q (.ref q) H2
theorem ok_all_seats (T : TX K mg) : FnOk P w K mg base CX0 2 T.f_all_seats T.fd_all_seats ["table"] (sp_all_seats T.C_Table) := by
  refine T.F_all_seats.ok sc_all_seats (fun vs H Q E h => ?_) (fun cdv A outer s H vs Q E hr h => ?_)
  · obtain ⟨a, ns, rfl, _⟩ := h
    rfl
  · obtain ⟨a, ns, rfl, ⟨dx, t, h1, h2⟩, ok, pr, k⟩ := h
    have l4 := ok.le
    refine ⟨_, (pss_cons (ps_set (i := 1) sc_all_seats.nd rfl (Or.inl rfl) (pe_lst (pa_cons (pe_tup pa_nil) pa_nil))) (pss_cons (ps_for PassesOwn.never rfl (pi_tup (pe_meth0 (pv 0) T.cl_Table T.me_Table_sizes (ok_Table_sizes T) hr T.b_Table_sizes .nil pass0)) (pg_name (i := 2) sc_all_seats.nd rfl (Or.inr rfl)) (pss_one (ps_setLc2 (own := [("start", 3), ("place", 4)]) (g := (gName 3)) (g1 := (gName 4)) (vs1 := [4]) (i := 1) rfl sc_all_seats.nd rfl rfl (sw_true rfl rfl rfl (by decide +kernel)) (pi_list (pv 1)) (blkOk_by (N := N_all_seats) (sc := defScope s_all_seats) (by decide +kernel)) (by decide) (fun _ _ _ _ _ => (pg_name (i := 3) sc_all_seats.nd rfl (Or.inl rfl))) (fun _ _ _ _ _ => pts_nil) (fun _ _ _ _ _ => (pi_range1 rfl T.z_range (pa_cons (pv 2) pa_nil))) (fun _ _ _ _ _ => (pg_name (i := 4) sc_all_seats.nd rfl (Or.inl rfl))) (fun _ _ _ _ _ => pts_nil) (fun _ _ _ _ _ => (pe_op (r := rCatA K) op_catA (pv 3) (pe_tup (pa_cons (pv 4) pa_nil))))))) (pss_one (ps_ret (pv 1))))), ?_⟩
    refine ⟨by show 0 ≤ sizeLine; decide, fun u hu => ⟨by show 1 ≤ sizeLine; decide, fun f hf => ?_⟩⟩
    have e2 : Ex H (upd (upd H u (.tup [])) f (.lst [.ref u])) := ext (exn hu) (exn hf)
    have f0 : H f = none := Evl.fresh_back (exn hu) hf
    refine ⟨_, rfl, a, dx, _, rfl, e2 _ _ h1, rfl, a, dx, t, rfl, e2 _ _ h1, t, rfl, ⟨_, SqT.of (e2 _ _ h2)⟩, ?_⟩
    refine for_it (walk_tup (xs := ns.map V.int)) (fun i σ H2 => ∃ (f : Addr) (y1 y2 y3 : Option V), σ = [some (.ref a), some (.ref f), y1, y2, y3] ∧ Ex H H2 ∧ H f = none ∧ RowsAt H2 f (allS (ns.take i))) ⟨_, _, _, _, rfl, e2, f0, _, upd_same, .cons ⟨u, rfl, by rw [upd_ne (ne_of_none upd_same hf)]; exact upd_same⟩ .nil⟩ (fun i σ H2 _ ⟨_, _, _, _, _, e, _⟩ => SqT.of (e _ _ h2)) ?_ ?_
    · rintro i x σ _ H4 hi ⟨f, y1, y2, y3, rfl, e4, f0, ra⟩ ⟨rfl, hx⟩
      obtain ⟨n, hn, rfl⟩ := map_get hx
      have n1 := ok.one n (List.mem_of_getElem? hn)
      have ezs := take_more hn
      have o1 : ∀ m ∈ ns.take i, 1 ≤ m := fun m hm => ok.one m (List.mem_of_mem_take hm)
      have len : ((allS (ns.take i)).length : Int) ≤ 300 := by
        rw [allS_len o1]
        exact Int.le_trans (prodL_take i ok.one) pr
      have nb : n ≤ 300 := by
        have a1 : prodL (ns.take (i + 1)) ≤ prodL ns := prodL_take (i + 1) ok.one
        rw [ezs, prodS_snoc] at a1
        have a2 := prodL_pos o1
        have a3 : 1 * n ≤ prodL (ns.take i) * n := Int.mul_le_mul_of_nonneg_right a2 (by omega)
        omega
      have rows : ∀ hs ∈ allS (ns.take i), hs.length ≤ 4 := fun hs hh => by
        rw [rows_allS hs hh, List.length_take]
        omega
      obtain ⟨xs, ra5, rr⟩ := ra
      generalize hh : allS (ns.take i) = hss at rr len rows
      dsimp only [gName]
      refine ⟨_, rfl, f, rfl, ⟨_, SqL.of ra5⟩, fun D hD => ?_⟩
      refine lc2_it (walk_list (xs := xs)) (fun j H => Ex H4 H ∧ RowsAt H D (crossS (hss.take j) n)) ⟨exn hD, _, upd_same, .nil⟩ (fun j H _ q => SqL.of (q.1 _ _ ra5)) ?_ ?_
      · rintro j x _ H5 hj ⟨e5, rb⟩ ⟨rfl, hx⟩
        obtain ⟨hs, r, hhs, rfl, hr4⟩ := rr.get hx
        refine ⟨rfl, ?_⟩
        refine ⟨_, rfl, n, rfl, by omega, by omega, ?_⟩
        refine in_it walk_range (fun l H => Ex H4 H ∧ RowsAt H D (crossS (hss.take j) n ++ (List.range l).map fun (i : Nat) => hs ++ [(i : Int)])) ⟨e5, ?_⟩ (fun l H _ q => True.intro) ?_ ?_
        · rw [List.range_zero, List.map_nil, List.append_nil]
          exact rb
        · rintro l x _ H7 hl ⟨e7, rc⟩ ⟨rfl, hx⟩
          obtain rfl : x = .int (l : Int) := hx.trans (congrArg V.int (Int.zero_add _))
          refine ⟨rfl, ?_⟩
          refine ⟨_, rfl, _, rfl, by show 1 ≤ sizeLine; decide, fun u hu => ?_⟩
          refine cat_row (exn hu _ _ (e7 _ _ hr4)) upd_same (Nat.le_trans (rows hs (List.mem_of_getElem? hhs)) (by decide)) fun v H8 e8 hv => ?_
          have e8' : Ex H7 H8 := ext (exn hu) e8
          obtain ⟨acc, g1, g2, g3⟩ := rows_push (rc.mono e8') hv
          refine ⟨acc, g1, ?_, ex_upd (ext e7 e8') hD, ?_⟩
          · rw [g2, List.length_append, crossS_len, List.length_map, List.length_range, List.length_take]
            have hl2 : l < n.toNat := hl
            have : min j hss.length * n.toNat ≤ 300 * 300 := Nat.mul_le_mul (by omega) (by omega)
            exact Nat.lt_of_le_of_lt (show _ ≤ 90300 by omega) (by decide)
          · rw [List.range_succ, List.map_append, ← List.append_assoc]
            exact g3
        · rintro Hz ⟨ez, rz⟩
          refine ⟨ez, ?_⟩
          rw [take_more hhs, crossS_snoc]
          exact rz
      · rintro Hz ⟨ez, rz⟩
        rw [List.take_of_length_le (by have := Paired.length rr; omega)] at rz
        refine ⟨D, _, _, _, rfl, ext e4 ez, Evl.fresh_back e4 hD, ?_⟩
        rw [ezs, allS_snoc, hh]
        exact rz
    · rintro σ H2 ⟨f, y1, y2, y3, rfl, e, f0, ra⟩
      rw [List.take_of_length_le (by simp)] at ra
      exact ⟨_, rfl, k f H2 e f0 ra⟩
def sp_mirror_seat (C : Addr) : Sp := fun vs H Q _ => ∃ (a s c : Addr) (ns ps os : List Int), vs = [.ref a, .ref s, .ref c] ∧ TabAt C H a ns ∧ SzOk ns ∧ H s = some (.tup (ps.map V.int)) ∧ H c = some (.tup (os.map V.int)) ∧ ps.length = ns.length ∧ os.length = ns.length ∧
  ∀ H2 q, Ex H H2 → H q = none → H2 q = some (.tup ((mirL ns ps os).map V.int)) → Q (.ref q) H2
theorem ok_mirror_seat (T : TX K mg) : FnOk P w K mg base CX0 2 T.f_mirror_seat T.fd_mirror_seat ["table", "seat", "other"] (sp_mirror_seat T.C_Table) := by
  refine T.F_mirror_seat.ok sc_mirror_seat (fun vs H Q E h => ?_) (fun cdv A outer s H vs Q E hr h => ?_)
  · obtain ⟨a, s, c, ns, ps, os, rfl, _⟩ := h
    rfl
  · obtain ⟨a, s, c, ns, ps, os, rfl, ⟨dx, t, h1, h2⟩, ok, hs, hc, lp, lc, k⟩ := h
    have l4 := ok.le
    refine ⟨_, (pss_one (ps_ret (pe_callTy call_tuple_of (by rfl) T.z_tuple (by decide +kernel) (pa_cons (pe_lc (own := [("place", 3), ("one", 4), ("size", 5)]) (g := (gTup K 3 (gCons (gName 3) (gCons (gName 4) (gCons (gName 5) gNil))))) rfl sc_mirror_seat.nd (CZ.pi_z3s (fl := [true, true, true]) rfl (by rfl) T.z_zip (pa_cons (pv 1) (pa_cons (pv 2) (pa_cons (pe_meth0 (pv 0) T.cl_Table T.me_Table_sizes (ok_Table_sizes T) hr T.b_Table_sizes .nil pass0) pa_nil)))) (blkOk_by (N := N_mirror_seat) (sc := defScope s_mirror_seat) (by decide +kernel)) (fun _ _ _ _ _ => (pg_tup rfl (pgs_cons (pg_name (i := 3) sc_mirror_seat.nd rfl (Or.inl rfl)) (pgs_cons (pg_name (i := 4) sc_mirror_seat.nd rfl (Or.inl rfl)) (pgs_cons (pg_name (i := 5) sc_mirror_seat.nd rfl (Or.inl rfl)) pgs_nil))))) (fun _ _ _ _ _ => pts_nil) (fun _ _ _ _ _ => (pe_op op_mod (pe_op op_sub (pe_op op_mulI pe_int (pv 3)) (pv 4)) (pv 5)))) pa_nil)))), ?_⟩
    refine ⟨_, rfl, _, rfl, _, rfl, a, dx, _, rfl, h1, rfl, a, dx, t, rfl, h1, [s, c, t], rfl, rfl, all3 (sqT hs) (sqT hc) (sqT h2), fun D hD => ?_⟩
    have ls : (mirL ns ps os).length = ns.length := mirL_len lp lc
    refine lc_vals (CZ.walk_rows (xss := [ps.map V.int, os.map V.int, ns.map V.int]) (n := ns.length) (lens3 (by rw [List.length_map, lp]) (by rw [List.length_map, lc]) (by rw [List.length_map]))) ((mirL ns ps os).map V.int) (by rw [List.length_map, ls]) (by omega) hD (fun H3 e => .cons (SqT.of (e _ _ hs)) (.cons (SqT.of (e _ _ hc)) (.cons (SqT.of (e _ _ h2)) .nil))) ?_ (gmono_tup (gmono_cons gmono_name (gmono_cons gmono_name (gmono_cons gmono_name gmono_nil)))) ?_
    · intro i y H3 H4 R hi e yy kk
      obtain ⟨Ta, p, d, n, rfl, hT, rfl, hp, hd, hn⟩ := yints3 yy
      have n1 := ok.one n (List.mem_of_getElem? hn)
      refine ⟨Ta, _, rfl, SqT.of upd_same, rfl, _, _, rfl, _, _, rfl, _, _, rfl, rfl, rfl, ?_⟩
      refine ⟨_, rfl, _, _, rfl, rfl, mul_ok (.inl (by decide)), _, rfl, _, _, rfl, rfl, _, rfl, _, _, rfl, rfl, (by show (0 : Int) < n; omega), ?_⟩
      refine kk _ _ (exn hT) ?_
      rw [List.getElem?_map, mirL_get hn hp hd]
      rfl
    · intro H3 e hD3
      exact ⟨D, _, rfl, .inl ⟨SqL.of hD3, fun q hq => k _ q (ext e (exn hq)) (Evl.fresh_back e hq) upd_same⟩⟩
end

theorem keys_atD (d : Nat) (ps : List (List Int)) : keysL (atD d ps) = ps := by
  unfold keysL atD
  rw [List.map_map]
  exact List.map_id _
theorem atD_snoc (d : Nat) (ps : List (List Int)) (p : List Int) : atD d (ps ++ [p]) = atD d ps ++ [(p, d)] := List.map_append
theorem dep_none {fs : List (List Int × Nat)} {p : List Int} (h : p ∉ keysL fs) : dep fs p = none := by
  have := dep_isSome (fs := fs) (p := p)
  rw [decide_eq_false h] at this
  exact Option.isSome_eq_false_iff.mp this |> Option.isNone_iff_eq_none.mp
theorem SqH.either {K : PySem.W.Frag} {H : Hp} : ∀ {q : Bool × Addr} {xs : List V}, SqH H q xs → SqL K H q.2 xs ∨ SqT K H q.2 xs
  | (false, _), _, h => .inl (SqL.of h)
  | (true, _), _, h => .inr (SqT.of h)
theorem eqv_ne' {css : List (List Int)} (ne : css ≠ []) : (!PyData.eqv (.list (css.map iT)) (.list (([] : List (List Int)).map iT))) = true := by
  cases css with
  | nil => exact absurd rfl ne
  | cons c r => simp [PyData.eqv, PyData.eqvAll]
theorem nodup_take {α : Type} {l : List α} (nod : l.Nodup) {i : Nat} {x : α} (h : l[i]? = some x) : x ∉ l.take i := fun z => by
  obtain ⟨j, hj⟩ := List.mem_iff_getElem?.mp z
  have jl : j < i := by
    have := (List.getElem?_eq_some_iff.mp hj).1
    rw [List.length_take] at this
    omega
  rw [List.getElem?_take_of_lt jl] at hj
  exact absurd ((List.getElem?_inj (List.getElem?_eq_some_iff.mp hj).1 nod).mp (hj.trans h.symm)) (by omega)
theorem merge_new {e : Nat} : ∀ {nw : List (List Int)} {fs : List (List Int × Nat)}, (∀ p ∈ nw, p ∉ keysL fs) → nw.Nodup → CD.mergeT (fs.map entV) ((atD e nw).map entV) = (fs ++ atD e nw).map entV
  | [], fs, _, _ => by simp [CD.mergeT]
  | p :: nw, fs, h, nod => by
    have hp := h p List.mem_cons_self
    show CD.mergeT (putK (fs.map entV) (entK p) (V.int (e : Int))) ((atD e nw).map entV) = _
    rw [putK_new _ (by rw [val_ent, dep_none hp]; rfl), show fs.map entV ++ [(entK p, V.int (e : Int))] = (fs ++ [(p, e)]).map entV by rw [List.map_append]; rfl, merge_new ?_ (List.nodup_cons.mp nod).2]
    · rw [List.append_assoc]
      rfl
    · intro r hr z
      rw [keys_app] at z
      rcases List.mem_append.mp z with z | z
      · exact h r (List.mem_cons_of_mem _ hr) z
      · have : r = p := List.mem_singleton.mp z
        exact (List.nodup_cons.mp nod).1 (this ▸ hr)
section
variable {P : Program} {w : World} {K : PySem.W.Frag} {mg : Str → Option Value} {base : Heap}
def sp_call_counts (C : Addr) : Sp := fun vs H Q _ => ∃ (a : Addr) (q : Bool × Addr) (ns : List Int) (tss : List (List Int)), vs = [.ref a, .ref q.2] ∧ TabAt C H a ns ∧ SzOk ns ∧ prodL ns ≤ 300 ∧ RowsQ H q tss ∧ tss ≠ [] ∧ tss.length ≤ 1000 ∧ (∀ ts ∈ tss, SeatOk ns ts) ∧ tss.Nodup ∧
  ∀ d H2, Ex H H2 → H d = none → CntAt H2 d (countsL ns tss) → Q (.ref d) H2
theorem ok_call_counts (T : TX K mg) : FnOk P w K mg base CX0 3 T.f_call_counts T.fd_call_counts ["table", "targets"] (sp_call_counts T.C_Table) := by
  refine T.F_call_counts.ok sc_call_counts (fun vs H Q E h => ?_) (fun cdv A outer s H vs Q E hr h => ?_)
  · obtain ⟨a, q, ns, tss, rfl, _⟩ := h
    rfl
  · obtain ⟨a, q, ns, tss, rfl, tab, ok, pr, ⟨xs, hq, rr⟩, ne, lt, sks, nod, k⟩ := h
    refine ⟨_, (pss_cons (ps_set (i := 2) sc_call_counts.nd rfl (Or.inr rfl) (CD.pe_dcT (own := [("target", 6)]) (g := (gName 6)) (hu_of hr) rfl sc_call_counts.nd (pi_seq (pv 1)) (blkOk_by (N := N_call_counts) (sc := defScope s_call_counts) (by decide +kernel)) (fun _ _ _ _ _ => (pg_name (i := 6) sc_call_counts.nd rfl (Or.inl rfl))) (fun _ _ _ _ _ => pts_nil) (fun _ _ _ _ _ => (pv 6)) (fun _ _ _ _ _ => pe_int))) (pss_cons (ps_setLc (own := [("seat", 7)]) (g := (gName 7)) (i := 3) rfl sc_call_counts.nd rfl rfl (sw_true rfl rfl rfl (by decide +kernel)) (pi_list (pe_call (ok_all_seats T) hr rfl T.m_all_seats T.F_all_seats.kp T.b_all_seats .nil pass0 (pa_cons (pv 0) pa_nil))) (blkOk_by (N := N_call_counts) (sc := defScope s_call_counts) (by decide +kernel)) (fun _ _ _ _ _ => (pg_name (i := 7) sc_call_counts.nd rfl (Or.inl rfl))) (fun _ _ _ _ _ => (pts_one (pt_cmp (pc_dnotin (hu_of hr) (pv 7) (pv 2))))) (fun _ _ _ _ _ => (pv 7))) (pss_cons (ps_asg (pe_tup (pa_cons (pe_callTy call_list_of (by rfl) T.z_list (by decide +kernel) (pa_cons (pv 1) pa_nil)) (pa_cons pe_int pa_nil))) (pg_tup rfl (pgs_cons (pg_name (i := 4) sc_call_counts.nd rfl (Or.inr rfl)) (pgs_cons (pg_name (i := 5) sc_call_counts.nd rfl (Or.inr rfl)) pgs_nil)))) (pss_cons (ps_while PassesOwn.never (pt_cmpR (r := rNeD K) (op_neD hr.units) (pv 4) (pe_lst pa_nil) (nomark _)) (pss_cons (ps_aug (i := 5) sc_call_counts.nd rfl (Or.inr rfl) pe_int ip_add) (pss_cons (ps_set (i := 4) sc_call_counts.nd rfl (Or.inr rfl) (pe_lc (own := [("seat", 7)]) (g := (gName 7)) rfl sc_call_counts.nd (pi_list (pv 3)) (blkOk_by (N := N_call_counts) (sc := defScope s_call_counts) (by decide +kernel)) (fun _ _ _ _ _ => (pg_name (i := 7) sc_call_counts.nd rfl (Or.inr rfl))) (fun _ _ _ _ _ => (pts_one (pt_val (pe_callB (r := rAny K) (cr_any rfl) (by rfl) T.z_any (by decide +kernel) (pa_cons (pe_lc (wi := iList K _) (own := [("one", 8)]) (g := (gName 8)) rfl sc_call_counts.nd (pi_list (pv 4)) (blkOk_by (N := N_call_counts) rfl) (fun _ _ _ _ _ => (pg_name (i := 8) sc_call_counts.nd rfl (Or.inl rfl))) (fun _ _ _ _ _ => pts_nil) (fun _ _ _ _ _ => (pe_cmp (pc_din (hu_of hr) (pe_call (ok_mirror_seat T) hr rfl T.m_mirror_seat T.F_mirror_seat.kp T.b_mirror_seat .nil pass0 (pa_cons (pv 0) (pa_cons (pv 7) (pa_cons (pv 8) pa_nil)))) (pv 2))))) pa_nil))))) (fun _ _ _ _ _ => (pv 7)))) (pss_cons (ps_expr (pe_bm PySem.F.plainAttrs_dict PySem.F.slot_dict_update PySem.F.type_dict_update (CD.mt_updT (hu_of hr)) (pv 2) (pa_cons (CD.pe_dcT (own := [("seat", 7)]) (g := (gName 7)) (hu_of hr) rfl sc_call_counts.nd (pi_list (pv 4)) (blkOk_by (N := N_call_counts) (sc := defScope s_call_counts) (by decide +kernel)) (fun _ _ _ _ _ => (pg_name (i := 7) sc_call_counts.nd rfl (Or.inl rfl))) (fun _ _ _ _ _ => pts_nil) (fun _ _ _ _ _ => (pv 7)) (fun _ _ _ _ _ => (pv 5))) pa_nil))) (pss_one (ps_setLc (own := [("seat", 7)]) (g := (gName 7)) (i := 3) rfl sc_call_counts.nd rfl rfl (sw_true rfl rfl rfl (by decide +kernel)) (pi_list (pv 3)) (blkOk_by (N := N_call_counts) (sc := defScope s_call_counts) (by decide +kernel)) (fun _ _ _ _ _ => (pg_name (i := 7) sc_call_counts.nd rfl (Or.inl rfl))) (fun _ _ _ _ _ => (pts_one (pt_cmp (pc_dnotin (hu_of hr) (pv 7) (pv 2))))) (fun _ _ _ _ _ => (pv 7)))))))) (pss_one (ps_ret (pv 2))))))), ?_⟩
    have lx : xs.length = tss.length := Paired.length rr
    -- found
    refine ⟨_, rfl, q, rfl, ⟨_, hq.sq⟩, fun D hD => ?_⟩
    refine CD.dcT_it (walk_seq (xs := xs)) (fun i Hx => Ex H Hx ∧ CntAt Hx D (atD 0 (tss.take i))) ⟨exn hD, upd_same⟩ (fun i Hx _ p => (hq.mono p.1).sq) ?_ ?_
    · rintro i x _ Hx hi ⟨ex, hc⟩ ⟨rfl, hx⟩
      obtain ⟨ts, r, hts, rfl, hr2⟩ := rr.get hx
      have hn : ts ∉ tss.take i := fun z => by
        obtain ⟨j, hj⟩ := List.mem_iff_getElem?.mp z
        have jl : j < i := by
          have := (List.getElem?_eq_some_iff.mp hj).1
          rw [List.length_take] at this
          omega
        rw [List.getElem?_take_of_lt jl] at hj
        exact absurd ((List.getElem?_inj (List.getElem?_eq_some_iff.mp hj).1 nod).mp (hj.trans hts.symm)) (by omega)
      refine ⟨rfl, _, rfl, _, entK ts, r, rfl, by rw [entK_kV]; exact ex _ _ hr2, hc, ?_, ex_upd ex hD, ?_⟩
      · rw [List.length_map, List.length_map, List.length_take]
        exact Nat.lt_of_le_of_lt (show _ ≤ 1000 by omega) (by decide)
      · show upd _ _ _ _ = _
        rw [upd_same, putK_new _ (by rw [val_ent, dep_none (by rw [keys_atD]; exact hn)]; rfl), take_more hts, atD_snoc, List.map_append]
        rfl
    rintro H1 ⟨e1, hc1⟩
    rw [List.take_of_length_le (by omega)] at hc1
    dsimp only [gName]
    -- missing
    refine ⟨_, rfl, a, ns, rfl, tab.mono e1, ok, pr, fun sl H2 e2 nsl ⟨ys, hsl, rs⟩ => ⟨sl, rfl, ⟨_, SqL.of hsl⟩, fun D2 hD2 => ?_⟩⟩
    have ly : ys.length = (allS ns).length := Paired.length rs
    have lA : (allS ns).length ≤ 300 := by have := allS_len ok.one; omega
    have hc2 := hc1.mono e2
    refine lc_filt (walk_list (xs := ys)) (ys.zip (allS ns)) (fun z => decide (z.2 ∉ keysL (atD 0 tss))) (fun z => z.1) (by rw [List.length_zip]; omega) (by omega) hD2 (fun Hx ex => SqL.of (ex _ _ hsl)) ?_ ?_
    · rintro i x ⟨z1, z2⟩ _ Hx R S hz ex ⟨rfl, hx⟩ kR kS
      obtain ⟨hz1, hz2⟩ := zip_at2 hz
      obtain ⟨p, r, hp, rfl, hr2⟩ := rs.get hx
      obtain rfl : p = z2 := Option.some.inj (hp.symm.trans hz2)
      obtain rfl : V.ref r = z1 := Option.some.inj (hx.symm.trans hz1)
      refine ⟨rfl, _, rfl, _, rfl, D, _, rfl, cnt_get (hc2.mono ex) (ex _ _ hr2), _, rfl, ?_⟩
      rw [Option.isSome_map, dep_isSome]
      by_cases c : p ∈ keysL (atD 0 tss)
      · exact itf (by rw [decide_eq_true c]; rfl) (kS _ exr (decide_eq_false (not_not_intro c)))
      · exact itt (by rw [decide_eq_false c]; rfl) ⟨_, rfl, kR _ _ exr (decide_eq_true c) rfl⟩
    intro H3 e3 hD3
    have rm : RowsR H3 (((ys.zip (allS ns)).filter fun z => decide (z.2 ∉ keysL (atD 0 tss))).map fun z => z.1) (missL (atD 0 tss) (allS ns)) := RowsR.filt (fun s => decide (s ∉ keysL (atD 0 tss))) (rs.mono e3)
    generalize (((ys.zip (allS ns)).filter fun z => decide (z.2 ∉ keysL (atD 0 tss))).map fun z => z.1) = zs at hD3 rm
    dsimp only [gName]
    -- newest, depth
    have E3 : Ex H H3 := ext e1 (ext e2 e3)
    have hq3 := hq.mono E3
    refine ⟨_, rfl, q.2, xs, rfl, hq3.either, fun nl hnl => ?_⟩
    generalize hG4 : upd H3 nl _ = H4
    have e4 := exG hG4 hnl
    have hnl4 := atG hG4
    clear hG4
    refine ⟨slen rfl, ?_⟩
    (intro tp ntp; generalize hGtp : upd _ tp _ = H5; have eH5 := exG hGtp ntp; have htp := atG hGtp; clear hGtp)
    refine ⟨tp, _, rfl, SqT.of htp, rfl, _, _, rfl, _, _, rfl, rfl, ?_⟩
    have E5 : Ex H H5 := ext E3 (ext e4 eH5)
    have E35 : Ex H3 H5 := ext e4 eH5
    refine ⟨fun m σ Hx => ∃ (fs : List (List Int × Nat)) (miss newest : List (List Int)) (d : Nat) (ml nl : Addr) (zs ws : List V), σ = [some (.ref a), some (.ref q.2), some (.ref D), some (.ref ml), some (.ref nl), some (.int (d : Int)), none, none, none] ∧ Ex H Hx ∧ CntAt Hx D fs ∧ Hx ml = some (.lst zs) ∧ RowsR Hx zs miss ∧ Hx nl = some (.lst ws) ∧ RowsR Hx ws newest ∧ roundsL ns m fs miss newest d = countsL ns tss ∧
        miss.length + (if newest = [] then 0 else 1) < m ∧ (∀ p ∈ miss, SeatOk ns p) ∧ (∀ p ∈ newest, SeatOk ns p) ∧ fs ≠ [] ∧ fs.length + miss.length ≤ 1300 ∧ (∀ p ∈ miss, p ∉ keysL fs) ∧ miss.Nodup ∧ newest.length ≤ 1300,
      ⟨(allS ns).length + 2, atD 0 tss, missL (atD 0 tss) (allS ns), tss, 0, D2, nl, zs, xs, rfl, E5, hc2.mono (ext e3 E35), E35 _ _ hD3, rm.mono E35, eH5 _ _ hnl4, rr.mono E5, rfl, ?_, fun p hp => mem_allS.mp (mem_missL.mp hp).1, sks, ?_, ?_, fun p hp => (mem_missL.mp hp).2, (allS_nodup ns).filter _, by omega⟩, ?_⟩
    · rw [if_neg ne]
      have : (missL (atD 0 tss) (allS ns)).length ≤ (allS ns).length := List.length_filter_le _ _
      omega
    · intro z
      exact ne (List.map_eq_nil_iff.mp z)
    · have : (missL (atD 0 tss) (allS ns)).length ≤ (allS ns).length := List.length_filter_le _ _
      rw [List.length_map]
      omega
    clear hc1 hc2 hD3 rm hnl4
    rintro m σ Hx ⟨fs, miss, newest, d, ml, nl, zs, ws, rfl, ex, hcx, hml, rz, hnl, rw', eqR, mlt, okm, okn, fne, flen, disj, mnod, nlen⟩
    refine ⟨_, rfl, slen rfl, ?_⟩
    (intro el nel; generalize hGel : upd _ el _ = H6; have eH6 := exG hGel nel; have hel := atG hGel; clear hGel)
    have shR : ∀ rows : List (List Int), Sh 60 (.list (rows.map iT)) := fun rows => sh_rows (n := 58) rows
    refine ⟨_, _, .lst (SqL.of (eH6 _ _ hnl)) (rw'.mono eH6).dp, .lst (SqL.of hel) (RowsR.dp (hss := []) .nil), (shR newest).ok, (shR []).ok, _, rfl, ?_⟩
    have ex6 := ext ex eH6
    by_cases c : newest = []
    · subst c
      refine itf (by rw [eqv_refl _ (shR []).1]; rfl) ?_
      obtain ⟨m, rfl⟩ : ∃ m', m = m' + 1 := ⟨m - 1, by omega⟩
      rw [roundsL, if_pos rfl] at eqR
      exact ⟨_, rfl, k D H6 ex6 hD (eqR ▸ hcx.mono eH6)⟩
    refine itt (eqv_ne' c) ⟨_, fun _ _ h => h, ?_⟩
    obtain ⟨m, rfl⟩ : ∃ m', m = m' + 1 := ⟨m - 1, by omega⟩
    rw [roundsL, if_neg c] at eqR
    rw [if_neg c] at mlt
    refine ⟨_, rfl, _, _, rfl, rfl, ?_⟩
    dsimp only [gName]
    -- newest
    have hml6 := eH6 _ _ hml
    have rz6 := rz.mono eH6
    have hnl6 := eH6 _ _ hnl
    have rw6 := rw'.mono eH6
    have hcx6 := hcx.mono eH6
    have lz : zs.length = miss.length := Paired.length rz
    have lw : ws.length = newest.length := Paired.length rw'
    refine ⟨_, rfl, ml, rfl, ⟨_, SqL.of hml6⟩, fun D3 hD3 => ?_⟩
    refine lc_filt (walk_list (xs := zs)) (zs.zip miss) (fun z => newest.any fun o => decide (mirL ns z.2 o ∈ keysL fs)) (fun z => z.1) (by rw [List.length_zip]; omega) (by omega) hD3 (fun Hy ey => SqL.of (ey _ _ hml6)) ?_ ?_
    · rintro i x ⟨z1, z2⟩ _ Hy R S hz ey ⟨rfl, hx⟩ kR kS
      obtain ⟨hz1, hz2⟩ := zip_at2 hz
      obtain ⟨p, r, hp, rfl, hr2⟩ := rz6.get hx
      obtain rfl : p = z2 := Option.some.inj (hp.symm.trans hz2)
      obtain rfl : V.ref r = z1 := Option.some.inj (hx.symm.trans hz1)
      have skp := okm p (List.mem_of_getElem? hp)
      refine ⟨rfl, ?_⟩
      refine ⟨_, rfl, nl, rfl, ⟨_, SqL.of (ey _ _ hnl6)⟩, fun D4 hD4 => ?_⟩
      refine lc_vals (walk_list (xs := ws)) ((newest.map fun o => decide (mirL ns p o ∈ keysL fs)).map V.bl) (by rw [List.length_map, List.length_map, lw]) (by omega) hD4 (fun Hz ez => SqL.of (ez _ _ (ey _ _ hnl6))) ?_ gmono_name ?_
      · rintro j x _ Hz R2 hj ez ⟨rfl, hx2⟩ kk
        obtain ⟨o, ro, ho, rfl, hro⟩ := rw6.get hx2
        have sko := okn o (List.mem_of_getElem? ho)
        have Ez := ext ey ez
        refine ⟨rfl, _, rfl, _, rfl, _, rfl, a, r, ro, ns, p, o, rfl, (tab.mono ex6).mono Ez, ok, Ez _ _ hr2, Ez _ _ hro, skp.len, sko.len, fun Hw qm ew nqm hqm => ?_⟩
        refine ⟨_, rfl, D, _, rfl, cnt_get (hcx6.mono (ext Ez ew)) hqm, ?_⟩
        rw [Option.isSome_map, dep_isSome]
        refine kk _ _ ew ?_
        rw [List.getElem?_map, List.getElem?_map, ho]
        rfl
      intro Hz ez hD4z
      refine ⟨D4, _, rfl, SqL.of hD4z, _, rfl, ?_⟩
      have ea : (newest.map fun o => decide (mirL ns p o ∈ keysL fs)).any id = newest.any fun o => decide (mirL ns p o ∈ keysL fs) := by rw [List.any_map]; rfl
      rw [ea]
      cases ca : newest.any fun o => decide (mirL ns p o ∈ keysL fs)
      · exact itf rfl (kS _ ez ca)
      · exact itt rfl ⟨_, rfl, kR _ _ ez ca rfl⟩
    intro H7 e7 hD37
    have rn : RowsR H7 (((zs.zip miss).filter fun z => newest.any fun o => decide (mirL ns z.2 o ∈ keysL fs)).map fun z => z.1) (newL ns fs miss newest) := RowsR.filt (fun s => newest.any fun o => decide (mirL ns s o ∈ keysL fs)) (rz6.mono e7)
    generalize (((zs.zip miss).filter fun z => newest.any fun o => decide (mirL ns z.2 o ∈ keysL fs)).map fun z => z.1) = us at hD37 rn
    have nws : ∀ p ∈ newL ns fs miss newest, p ∈ miss := fun p hp => newL_sub hp
    have nwn : (newL ns fs miss newest).Nodup := mnod.filter _
    have nwl : (newL ns fs miss newest).length + (missL (fs ++ atD (d + 1) (newL ns fs miss newest)) miss).length ≤ miss.length := filter_two fun p hp hc => decide_eq_false (not_not_intro (by
      rw [keys_app, keys_atD]
      exact List.mem_append_right _ (List.mem_filter.mpr ⟨hp, hc⟩)))
    have nw0 : newL ns fs miss newest = [] ∨ 0 < (newL ns fs miss newest).length := by
      cases newL ns fs miss newest with
      | nil => exact .inl rfl
      | cons => exact .inr (by simp)
    generalize newL ns fs miss newest = nw at rn nws nwn nwl nw0 eqR
    have hml7 := e7 _ _ hml6
    have rz7 := rz6.mono e7
    have hcx7 := hcx6.mono e7
    have lu : us.length = nw.length := Paired.length rn
    dsimp only [gName]
    -- update
    refine ⟨_, rfl, .inr (.inr (.inl ⟨rfl, .inr ⟨_, hcx7⟩⟩)), ?_⟩
    refine ⟨_, rfl, D3, rfl, ⟨_, SqL.of hD37⟩, fun D5 hD5 => ?_⟩
    refine CD.dcT_it (walk_list (xs := us)) (fun i Hy => Ex H7 Hy ∧ CntAt Hy D5 (atD (d + 1) (nw.take i))) ⟨exn hD5, upd_same⟩ (fun i Hy _ p => SqL.of (p.1 _ _ hD37)) ?_ ?_
    · rintro i x _ Hy hi ⟨ey, hc⟩ ⟨rfl, hx⟩
      obtain ⟨p, r, hp, rfl, hr2⟩ := rn.get hx
      have hn : p ∉ nw.take i := nodup_take nwn hp
      refine ⟨rfl, _, rfl, _, rfl, _, entK p, r, rfl, by rw [entK_kV]; exact ey _ _ hr2, hc, ?_, ex_upd ey hD5, ?_⟩
      · rw [List.length_map, List.length_map, List.length_take]
        exact Nat.lt_of_le_of_lt (show _ ≤ 1300 by omega) (by decide)
      · show upd _ _ _ _ = _
        rw [upd_same, putK_new _ (by rw [val_ent, dep_none (by rw [keys_atD]; exact hn)]; rfl), take_more hp, atD_snoc, List.map_append]
        rfl
    rintro H8 ⟨e8, hc8⟩
    rw [List.take_of_length_le (by omega)] at hc8
    have hcx8 := hcx7.mono e8
    have nD5 : D ≠ D5 := ne_of_none hcx7 hD5
    refine ⟨D, D5, _, _, rfl, rfl, nD5, hcx8, hc8, (.inl fun z => fne (List.map_eq_nil_iff.mp z)), ?_, ?_⟩
    · rw [List.length_map, List.length_map, List.length_map]
      exact Nat.le_trans (show _ ≤ 2600 by omega) (by decide)
    rw [merge_new (fun p hp z => disj p (nws p hp) z) nwn]
    generalize hG9 : upd H8 D _ = H9
    have hc9 : CntAt H9 D (fs ++ atD (d + 1) nw) := by rw [← hG9]; exact upd_same
    have tp9 : ∀ c zs, H8 c = some (.tup zs) → H9 c = some (.tup zs) := fun c zs z => hG9 ▸ tup_dict hcx8 z
    have ls9 : ∀ c zs, H8 c = some (.lst zs) → H9 c = some (.lst zs) := fun c zs z => by
      rw [← hG9, upd_ne (ne_of z hcx8 (by intro z; cases z))]
      exact z
    have ex9 : Ex H H9 := hG9 ▸ ex_upd (ext ex6 (ext e7 e8)) hD
    clear hG9
    have hml9 := ls9 _ _ (e8 _ _ hml7)
    have rz9 := (rz7.mono e8).monoT tp9
    have hD39 := ls9 _ _ (e8 _ _ hD37)
    have rn9 := (rn.mono e8).monoT tp9
    dsimp only [gName]
    -- missing
    refine ⟨_, rfl, ml, rfl, ⟨_, SqL.of hml9⟩, fun D6 hD6 => ?_⟩
    refine lc_filt (walk_list (xs := zs)) (zs.zip miss) (fun z => decide (z.2 ∉ keysL (fs ++ atD (d + 1) nw))) (fun z => z.1) (by rw [List.length_zip]; omega) (by omega) hD6 (fun Hy ey => SqL.of (ey _ _ hml9)) ?_ ?_
    · rintro i x ⟨z1, z2⟩ _ Hy R S hz ey ⟨rfl, hx⟩ kR kS
      obtain ⟨hz1, hz2⟩ := zip_at2 hz
      obtain ⟨p, r, hp, rfl, hr2⟩ := rz9.get hx
      obtain rfl : p = z2 := Option.some.inj (hp.symm.trans hz2)
      obtain rfl : V.ref r = z1 := Option.some.inj (hx.symm.trans hz1)
      refine ⟨rfl, _, rfl, _, rfl, D, _, rfl, cnt_get (hc9.mono ey) (ey _ _ hr2), _, rfl, ?_⟩
      rw [Option.isSome_map, dep_isSome]
      by_cases c : p ∈ keysL (fs ++ atD (d + 1) nw)
      · exact itf (by rw [decide_eq_true c]; rfl) (kS _ exr (decide_eq_false (not_not_intro c)))
      · exact itt (by rw [decide_eq_false c]; rfl) ⟨_, rfl, kR _ _ exr (decide_eq_true c) rfl⟩
    intro Ha ea hDa
    have ra : RowsR Ha (((zs.zip miss).filter fun z => decide (z.2 ∉ keysL (fs ++ atD (d + 1) nw))).map fun z => z.1) (missL (fs ++ atD (d + 1) nw) miss) := RowsR.filt (fun s => decide (s ∉ keysL (fs ++ atD (d + 1) nw))) (rz9.mono ea)
    refine ⟨m, Nat.lt_succ_self m, fs ++ atD (d + 1) nw, missL (fs ++ atD (d + 1) nw) miss, nw, d + 1, D6, D3, _, us, rfl, ext ex9 ea, hc9.mono ea, hDa, ra, ea _ _ hD39, rn9.mono ea, eqR, ?_, fun p hp => okm p (mem_missL.mp hp).1, fun p hp => okm p (nws p hp), (fun z => fne (List.append_eq_nil_iff.mp z).1), ?_, fun p hp => (mem_missL.mp hp).2, mnod.filter _, ?_⟩
    · rcases nw0 with z | z
      · rw [if_pos z]
        omega
      · rw [if_neg (fun e => by rw [e] at z; cases z)]
        omega
    · rw [List.length_append, List.length_map]
      omega
    · omega
end

section
variable {P : Program} {w : World} {K : PySem.W.Frag} {mg : Str → Option Value} {base : Heap}
def sp_Table_count (C : Addr) : Sp := fun vs H Q _ => ∃ (a : Addr) (ns : List Int), vs = [.ref a] ∧ TabAt C H a ns ∧ SzOk ns ∧ prodL ns ≤ 10 ^ 9 ∧ Q (.int (prodL ns)) H
theorem ok_Table_count (T : TX K mg) : FnOk P w K mg base CX0 1 T.f_Table_count T.fd_Table_count ["self"] (sp_Table_count T.C_Table) := by
  refine T.F_Table_count.ok sc_Table_count (fun vs H Q E h => ?_) (fun cdv A outer s H vs Q E hr h => ?_)
  · obtain ⟨a, ns, rfl, _⟩ := h
    rfl
  · obtain ⟨a, ns, rfl, ⟨dx, t, h1, h2⟩, ok, hB, k⟩ := h
    refine ⟨_, (pss_cons (ps_set (i := 1) sc_Table_count.nd rfl (Or.inl rfl) pe_int) (pss_cons (ps_for PassesOwn.never rfl (pi_tup (pe_fld (pv 0) rfl)) (pg_name (i := 2) sc_Table_count.nd rfl (Or.inl rfl)) (pss_one (ps_set (i := 1) sc_Table_count.nd rfl (Or.inl rfl) (pe_op op_mulI (pv 1) (pv 2))))) (pss_one (ps_ret (pv 1))))), ?_⟩
    refine ⟨_, rfl, a, _, dx, _, _, rfl, h1, T.cl_Table, T.n_Table_rings, rfl, t, rfl, ⟨_, SqT.of h2⟩, ?_⟩
    refine for_it (walk_tup (xs := ns.map V.int)) (fun i σ H2 => ∃ y : Option V, σ = [some (.ref a), some (.int (prodL (ns.take i))), y] ∧ H2 = H) ⟨none, rfl, rfl⟩ (fun i σ H2 _ ⟨_, _, e⟩ => by rw [e]; exact SqT.of h2) ?_ ?_
    · rintro i x σ H2 H3 hi ⟨y, rfl, rfl⟩ ⟨rfl, hx⟩
      obtain ⟨n, hn, rfl⟩ := map_get hx
      have b1 : 1 ≤ prodL (ns.take i) := prodL_pos fun m hm => ok.one m (List.mem_of_mem_take hm)
      have b2 : prodL (ns.take i) ≤ 10 ^ 9 := Int.le_trans (prodL_take i ok.one) hB
      refine ⟨_, rfl, _, rfl, _, _, rfl, rfl, mul_ok (.inl ⟨by omega, by omega⟩), some (.int n), ?_, rfl⟩
      rw [take_more hn, prodS_snoc]
      rfl
    · rintro σ H2 ⟨y, rfl, rfl⟩
      rw [List.length_map, List.take_length]
      exact ⟨_, rfl, k⟩
def sp_require_small (C : Addr) : Sp := fun vs H Q _ => ∃ (a : Addr) (ns : List Int), vs = [.ref a] ∧ TabAt C H a ns ∧ SzOk ns ∧ prodL ns ≤ 300 ∧ Q .non H
theorem ok_require_small (T : TX K mg) : FnOk P w K mg base CX0 2 T.f_require_small T.fd_require_small ["table"] (sp_require_small T.C_Table) := by
  refine T.F_require_small.ok sc_require_small (fun vs H Q E h => ?_) (fun cdv A outer s H vs Q E hr h => ?_)
  · obtain ⟨a, ns, rfl, _⟩ := h
    rfl
  · obtain ⟨a, ns, rfl, tab, ok, hB, k⟩ := h
    obtain ⟨dx, t, h1, h2⟩ := id tab
    refine ⟨_, (pss_one (ps_if (pt_cmpR op_gt (pe_meth0 (pv 0) T.cl_Table T.me_Table_count (ok_Table_count T) hr T.b_Table_count .nil pass0) (pe_glob (v := .int 300) rfl T.c_SMALL ⟨_, rfl⟩) (nomark _)) pss_never pss_nil)), ?_⟩
    refine ⟨_, rfl, a, dx, _, rfl, h1, rfl, a, ns, rfl, tab, ok, Int.le_trans hB (by decide), ?_⟩
    refine ⟨_, _, rfl, rfl, _, rfl, itf (decide_eq_false (by show ¬ (300 : Int) < prodL ns; omega)) k⟩
end

def closerL (fs : List (List Int × Nat)) (d : Nat) : List (List Int) := (fs.filter fun q => decide (q.2 < d)).map (·.1)
def fromL (ns : List Int) (fs : List (List Int × Nat)) (p : List Int) (d : Nat) : List (List Int) := ((closerL fs d).filter fun o => decide ((dep fs (mirL ns p o)).getD d < d)).map fun o => toL ns p o
theorem closer_snoc (fs : List (List Int × Nat)) (q : List Int × Nat) (d : Nat) : closerL (fs ++ [q]) d = if q.2 < d then closerL fs d ++ [q.1] else closerL fs d := by
  unfold closerL
  rw [List.filter_append, List.map_append]
  by_cases c : q.2 < d
  · rw [if_pos c]
    simp [c]
  · rw [if_neg c]
    simp [c]
theorem dep_mem {fs : List (List Int × Nat)} (nod : (keysL fs).Nodup) {q : List Int × Nat} (h : q ∈ fs) : dep fs q.1 = some q.2 := by
  induction fs with
  | nil => cases h
  | cons f fs ih =>
    rw [dep_cons]
    rcases List.mem_cons.mp h with rfl | h
    · rw [if_pos rfl]
    · have nf : f.1 ≠ q.1 := fun z => (List.nodup_cons.mp nod).1 (by show f.1 ∈ _; rw [z]; exact List.mem_map_of_mem h)
      rw [if_neg nf, ih (List.nodup_cons.mp nod).2 h]
theorem Ex.back {H H2 : Hp} {d : Addr} {u v : HO} (hd : H d = some u) (e : Ex (upd H d v) H2) : Ex H (upd H2 d u) := fun c o z => by
  by_cases cd : c = d
  · subst cd
    rw [upd_same]
    exact hd.symm.trans z
  · rw [upd_ne cd]
    exact e _ _ (by rw [upd_ne cd]; exact z)
theorem tup_pshL {q D : Addr} {H : Hp} {xs ys : List V} {o : HO} (hD : H D = some (.lst xs)) (h : H q = some (.tup ys)) : upd H D o q = some (.tup ys) := by
  rw [upd_ne (ne_of h hD (by intro z; cases z))]
  exact h
theorem getD_int (o : Option Nat) (d : Nat) : (o.map fun d : Nat => V.int (d : Int)).getD (V.int (d : Int)) = V.int ((o.getD d : Nat) : Int) := by cases o <;> rfl
section
variable {P : Program} {w : World} {K : PySem.W.Frag} {mg : Str → Option Value} {base : Heap}
end

/-- what a list of numbers keeps while it grows -/
structure GoodL (ns : List Int) (fs : List (List Int × Nat)) (d : Nat) : Prop where
  nod : (keysL fs).Nodup
  seat : ∀ q ∈ fs, SeatOk ns q.1
  le : ∀ q ∈ fs, q.2 ≤ d
  both : ∀ q ∈ fs, 0 < q.2 → ∃ o e e', (o, e) ∈ fs ∧ (mirL ns q.1 o, e') ∈ fs ∧ e < q.2 ∧ e' < q.2
theorem mem_keys {fs : List (List Int × Nat)} {p : List Int} (h : p ∈ keysL fs) : ∃ e, (p, e) ∈ fs := by
  obtain ⟨q, hq, rfl⟩ := List.mem_map.mp h
  exact ⟨q.2, hq⟩
theorem mem_atD {d : Nat} {ps : List (List Int)} {q : List Int × Nat} (h : q ∈ atD d ps) : q.1 ∈ ps ∧ q.2 = d := by
  obtain ⟨p, hp, rfl⟩ := List.mem_map.mp h
  exact ⟨hp, rfl⟩
theorem GoodL.step {ns : List Int} {fs : List (List Int × Nat)} {d : Nat} {miss newest : List (List Int)} (g : GoodL ns fs d) (okm : ∀ p ∈ miss, SeatOk ns p) (disj : ∀ p ∈ miss, p ∉ keysL fs) (mnod : miss.Nodup) (sub : ∀ p ∈ newest, p ∈ keysL fs) :
    GoodL ns (fs ++ atD (d + 1) (newL ns fs miss newest)) (d + 1) where
  nod := by
    rw [keys_app, keys_atD, List.nodup_append]
    refine ⟨g.nod, mnod.filter _, fun a ha b hb e => ?_⟩
    exact disj b (newL_sub hb) (e ▸ ha)
  seat := fun q hq => by
    rcases List.mem_append.mp hq with hq | hq
    · exact g.seat q hq
    · exact okm _ (newL_sub (mem_atD hq).1)
  le := fun q hq => by
    rcases List.mem_append.mp hq with hq | hq
    · exact Nat.le_succ_of_le (g.le q hq)
    · exact Nat.le_of_eq (mem_atD hq).2
  both := fun q hq h0 => by
    rcases List.mem_append.mp hq with hq | hq
    · obtain ⟨o, e, e', h1, h2, h3, h4⟩ := g.both q hq h0
      exact ⟨o, e, e', List.mem_append_left _ h1, List.mem_append_left _ h2, h3, h4⟩
    · obtain ⟨hm, he⟩ := mem_atD hq
      obtain ⟨_, hc⟩ := List.mem_filter.mp hm
      obtain ⟨o, ho, hk⟩ := List.any_eq_true.mp hc
      obtain ⟨e, h1⟩ := mem_keys (sub o ho)
      obtain ⟨e', h2⟩ := mem_keys (of_decide_eq_true hk)
      have a1 := g.le _ h1
      have a2 := g.le _ h2
      exact ⟨o, e, e', List.mem_append_left _ h1, List.mem_append_left _ h2, by rw [he]; exact Nat.lt_succ_of_le a1, by rw [he]; exact Nat.lt_succ_of_le a2⟩
theorem rounds_good {ns : List Int} : ∀ (f : Nat) {fs : List (List Int × Nat)} {miss newest : List (List Int)} {d : Nat}, GoodL ns fs d → (∀ p ∈ miss, SeatOk ns p) → (∀ p ∈ miss, p ∉ keysL fs) → miss.Nodup → (∀ p ∈ newest, p ∈ keysL fs) → ∃ d', GoodL ns (roundsL ns f fs miss newest d) d'
  | 0, fs, miss, newest, d, g, _, _, _, _ => ⟨d, g⟩
  | f + 1, fs, miss, newest, d, g, okm, disj, mnod, sub => by
    rw [roundsL]
    by_cases c : newest = []
    · rw [if_pos c]
      exact ⟨d, g⟩
    rw [if_neg c]
    refine rounds_good f (g.step okm disj mnod sub) (fun p hp => okm p (mem_missL.mp hp).1) (fun p hp => (mem_missL.mp hp).2) (mnod.filter _) fun p hp => ?_
    rw [keys_app, keys_atD]
    exact List.mem_append_right _ hp
theorem counts_good {ns : List Int} {tss : List (List Int)} (sks : ∀ t ∈ tss, SeatOk ns t) (nod : tss.Nodup) : ∃ d, GoodL ns (countsL ns tss) d := by
  refine rounds_good _ ⟨by rw [keys_atD]; exact nod, fun q hq => sks _ (mem_atD hq).1, fun q hq => Nat.le_of_eq (mem_atD hq).2, fun q hq h0 => absurd (mem_atD hq).2 (by omega)⟩ (fun p hp => mem_allS.mp (mem_missL.mp hp).1) (fun p hp => (mem_missL.mp hp).2) ((allS_nodup ns).filter _) fun p hp => ?_
  rw [keys_atD]
  exact hp
theorem GoodL.len {ns : List Int} {fs : List (List Int × Nat)} {d : Nat} (g : GoodL ns fs d) : fs.length ≤ (allS ns).length := by
  rw [← List.length_map (f := (·.1))]
  exact List.Nodup.length_le_of_subset g.nod fun p hp => by
    obtain ⟨e, he⟩ := mem_keys hp
    exact mem_allS.mpr (g.seat _ he)
theorem mem_dep {fs : List (List Int × Nat)} {p : List Int} {d : Nat} (h : dep fs p = some d) : (p, d) ∈ fs := by
  induction fs with
  | nil => cases h
  | cons f fs ih =>
    rw [dep_cons] at h
    by_cases c : f.1 = p
    · rw [if_pos c] at h
      obtain rfl := Option.some.inj h
      rw [← c]
      exact List.mem_cons_self
    · rw [if_neg c] at h
      exact List.mem_cons_of_mem _ (ih h)
theorem mirL_inv : ∀ {ns ps os : List Int}, SeatOk ns os → ps.length = ns.length → mirL ns ps (mirL ns ps os) = os
  | [], _, [], _, _ => by cases ‹List Int› <;> rfl
  | n :: ns, p :: ps, o :: os, h, l => by
    obtain ⟨⟨o0, o1⟩, h2⟩ : (0 ≤ o ∧ o < n) ∧ SeatOk ns os := h
    show ((2 * p - (2 * p - o) % n) % n) :: _ = _
    rw [mirL_inv h2 (by simpa using l)]
    congr 1
    rw [Int.sub_emod, Int.emod_emod, ← Int.sub_emod, show 2 * p - (2 * p - o) = o by omega, Int.emod_eq_of_lt o0 o1]
/-- from a seat with a positive number there is a call to smaller ones -/
theorem GoodL.from {ns : List Int} {fs : List (List Int × Nat)} {d e : Nat} {p : List Int} (g : GoodL ns fs d) (h : dep fs p = some e) (h0 : 0 < e) : ∃ c rest, fromL ns fs p e = c :: rest := by
  obtain ⟨o, e1, e2, m1, m2, l1, l2⟩ := g.both _ (mem_dep h) h0
  have hm : toL ns p o ∈ fromL ns fs p e := by
    unfold fromL
    refine List.mem_map.mpr ⟨o, List.mem_filter.mpr ⟨?_, decide_eq_true ?_⟩, rfl⟩
    · unfold closerL
      exact List.mem_map.mpr ⟨(o, e1), List.mem_filter.mpr ⟨m1, decide_eq_true l1⟩, rfl⟩
    · rw [dep_mem g.nod m2]
      exact l2
  cases hf : fromL ns fs p e with
  | nil => rw [hf] at hm; cases hm
  | cons c rest => exact ⟨c, rest, rfl⟩
/-- the greatest number -/
def topL (fs : List (List Int × Nat)) : Nat := fs.foldl (fun m q => max m q.2) 0
theorem fold_top : ∀ (fs : List (List Int × Nat)) (m : Nat), m ≤ fs.foldl (fun m q => max m q.2) m ∧ (∀ q ∈ fs, q.2 ≤ fs.foldl (fun m q => max m q.2) m) ∧ (fs.foldl (fun m q => max m q.2) m = m ∨ ∃ q ∈ fs, q.2 = fs.foldl (fun m q => max m q.2) m)
  | [], m => ⟨Nat.le_refl _, (fun q h => absurd h List.not_mem_nil), Or.inl rfl⟩
  | f :: fs, m => by
    obtain ⟨h1, h2, h3⟩ := fold_top fs (max m f.2)
    rw [List.foldl_cons]
    refine ⟨by omega, fun q hq => ?_, ?_⟩
    · rcases List.mem_cons.mp hq with rfl | hq
      · omega
      · exact h2 q hq
    · rcases h3 with h3 | ⟨q, hq, h3⟩
      · rw [h3]
        by_cases c : f.2 ≤ m
        · exact .inl (by omega)
        · exact .inr ⟨f, List.mem_cons_self, by omega⟩
      · exact .inr ⟨q, List.mem_cons_of_mem _ hq, h3⟩
theorem top_is {fs : List (List Int × Nat)} (ne : fs ≠ []) {m : Int} (h1 : m ∈ fs.map fun q => (q.2 : Int)) (h2 : ∀ j ∈ fs.map (fun q => (q.2 : Int)), j ≤ m) : m = topL fs := by
  obtain ⟨a, b, c⟩ := fold_top fs 0
  obtain ⟨q, hq, rfl⟩ := List.mem_map.mp h1
  have b1 := b q hq
  have : topL fs ≤ q.2 := by
    rcases c with c | ⟨r, hr, c⟩
    · unfold topL
      omega
    · have := h2 _ (List.mem_map_of_mem hr)
      unfold topL
      omega
  unfold topL at this ⊢
  omega
theorem rounds_pre {ns : List Int} : ∀ (f : Nat) (fs : List (List Int × Nat)) (miss newest : List (List Int)) (d : Nat), ∃ gs, roundsL ns f fs miss newest d = fs ++ gs
  | 0, fs, _, _, _ => ⟨[], by rw [List.append_nil]; rfl⟩
  | f + 1, fs, miss, newest, d => by
    rw [roundsL]
    by_cases c : newest = []
    · rw [if_pos c]
      exact ⟨[], (List.append_nil _).symm⟩
    rw [if_neg c]
    obtain ⟨gs, h⟩ := rounds_pre f (fs ++ atD (d + 1) (newL ns fs miss newest)) (missL (fs ++ atD (d + 1) (newL ns fs miss newest)) miss) (newL ns fs miss newest) (d + 1)
    exact ⟨_, by rw [h, List.append_assoc]⟩
theorem counts_ne {ns : List Int} {tss : List (List Int)} (ne : tss ≠ []) : countsL ns tss ≠ [] := by
  obtain ⟨gs, h⟩ := rounds_pre ((allS ns).length + 2) (atD 0 tss) (missL (atD 0 tss) (allS ns)) tss 0 (ns := ns)
  intro z
  rw [countsL, h] at z
  exact ne (List.map_eq_nil_iff.mp (List.append_eq_nil_iff.mp z).1)

/-- the state of the rounds: all that is due is there -/
structure FullL (ns : List Int) (tss : List (List Int)) (fs : List (List Int × Nat)) (miss newest : List (List Int)) (d : Nat) : Prop where
  all : ∀ p, SeatOk ns p → p ∈ keysL fs ∨ p ∈ miss
  newest : ∀ q ∈ fs, q.2 = d → q.1 ∈ newest
  le : ∀ q ∈ fs, q.2 ≤ d
  zero : ∀ q ∈ fs, q.2 = 0 → q.1 ∈ tss
  seat : ∀ q ∈ fs, SeatOk ns q.1
  least : ∀ p o a b, SeatOk ns p → (o, a) ∈ fs → (mirL ns p o, b) ∈ fs → a < d → b < d → ∃ e, (p, e) ∈ fs ∧ e ≤ max a b + 1
theorem mem_keys' {fs : List (List Int × Nat)} {p : List Int} {e : Nat} (h : (p, e) ∈ fs) : p ∈ keysL fs := List.mem_map_of_mem (f := (·.1)) h
theorem FullL.step {ns : List Int} {tss : List (List Int)} {fs : List (List Int × Nat)} {miss newest : List (List Int)} {d : Nat} (g : FullL ns tss fs miss newest d) (okm : ∀ p ∈ miss, SeatOk ns p) :
    FullL ns tss (fs ++ atD (d + 1) (newL ns fs miss newest)) (missL (fs ++ atD (d + 1) (newL ns fs miss newest)) miss) (newL ns fs miss newest) (d + 1) where
  all := fun p sk => by
    by_cases c : p ∈ keysL (fs ++ atD (d + 1) (newL ns fs miss newest))
    · exact .inl c
    · rcases g.all p sk with h | h
      · exact absurd (by rw [keys_app]; exact List.mem_append_left _ h) c
      · exact .inr (mem_missL.mpr ⟨h, c⟩)
  newest := fun q hq e => by
    rcases List.mem_append.mp hq with hq | hq
    · have := g.le q hq
      omega
    · exact (mem_atD hq).1
  le := fun q hq => by
    rcases List.mem_append.mp hq with hq | hq
    · exact Nat.le_succ_of_le (g.le q hq)
    · exact Nat.le_of_eq (mem_atD hq).2
  zero := fun q hq e => by
    rcases List.mem_append.mp hq with hq | hq
    · exact g.zero q hq e
    · have := (mem_atD hq).2
      omega
  seat := fun q hq => by
    rcases List.mem_append.mp hq with hq | hq
    · exact g.seat q hq
    · exact okm _ (newL_sub (mem_atD hq).1)
  least := fun p o a b sk ho hm la lb => by
    have old : ∀ {x : List Int} {y : Nat}, (x, y) ∈ fs ++ atD (d + 1) (newL ns fs miss newest) → y < d + 1 → (x, y) ∈ fs := fun {x y} h l => by
      rcases List.mem_append.mp h with h | h
      · exact h
      · have : y = d + 1 := (mem_atD h).2
        omega
    have ho := old ho la
    have hm := old hm lb
    by_cases c : a < d ∧ b < d
    · obtain ⟨e, h1, h2⟩ := g.least p o a b sk ho hm c.1 c.2
      exact ⟨e, List.mem_append_left _ h1, h2⟩
    rcases g.all p sk with h | h
    · obtain ⟨e, he⟩ := mem_keys h
      have := g.le _ he
      exact ⟨e, List.mem_append_left _ he, by simp only at this; omega⟩
    · have hn : p ∈ newL ns fs miss newest := by
        refine List.mem_filter.mpr ⟨h, List.any_eq_true.mpr ?_⟩
        by_cases ca : a = d
        · exact ⟨o, g.newest _ ho ca, decide_eq_true (mem_keys' hm)⟩
        · have cb : b = d := by omega
          refine ⟨mirL ns p o, g.newest _ hm cb, decide_eq_true ?_⟩
          rw [mirL_inv (g.seat _ ho) sk.len]
          exact mem_keys' ho
      exact ⟨d + 1, List.mem_append_right _ (List.mem_map.mpr ⟨p, hn, rfl⟩), by omega⟩
theorem rounds_full {ns : List Int} {tss : List (List Int)} : ∀ (f : Nat) {fs : List (List Int × Nat)} {miss newest : List (List Int)} {d : Nat}, FullL ns tss fs miss newest d → (∀ p ∈ miss, SeatOk ns p) → miss.length + (if newest = [] then 0 else 1) < f → ∃ m' d', FullL ns tss (roundsL ns f fs miss newest d) m' [] d'
  | 0, fs, miss, newest, d, _, _, h => by omega
  | f + 1, fs, miss, newest, d, g, okm, h => by
    rw [roundsL]
    by_cases c : newest = []
    · rw [if_pos c]
      exact ⟨miss, d, c ▸ g⟩
    rw [if_neg c]
    rw [if_neg c] at h
    have nwl : (newL ns fs miss newest).length + (missL (fs ++ atD (d + 1) (newL ns fs miss newest)) miss).length ≤ miss.length := filter_two fun p hp hc => decide_eq_false (not_not_intro (by
      rw [keys_app, keys_atD]
      exact List.mem_append_right _ (List.mem_filter.mpr ⟨hp, hc⟩)))
    refine rounds_full f (g.step okm) (fun p hp => okm p (mem_missL.mp hp).1) ?_
    by_cases cn : newL ns fs miss newest = []
    · rw [if_pos cn]
      omega
    · rw [if_neg cn]
      have := List.length_pos_iff.mpr cn
      omega
/-- what the numbers of calls are -/
structure LeastL (ns : List Int) (tss : List (List Int)) (fs : List (List Int × Nat)) : Prop where
  zero : ∀ p, dep fs p = some 0 ↔ p ∈ tss
  seat : ∀ p e, dep fs p = some e → SeatOk ns p
  both : ∀ p e, dep fs p = some (e + 1) → ∃ o a b, dep fs o = some a ∧ dep fs (mirL ns p o) = some b ∧ a ≤ e ∧ b ≤ e
  least : ∀ p o a b, SeatOk ns p → dep fs o = some a → dep fs (mirL ns p o) = some b → ∃ e, dep fs p = some e ∧ e ≤ max a b + 1
theorem counts_least {ns : List Int} {tss : List (List Int)} (sks : ∀ t ∈ tss, SeatOk ns t) (nod : tss.Nodup) (ne : tss ≠ []) : LeastL ns tss (countsL ns tss) := by
  obtain ⟨d0, g⟩ := counts_good sks nod
  have hf : ∃ m' d', FullL ns tss (countsL ns tss) m' [] d' := by
    refine rounds_full _ ⟨fun p sk => ?_, fun q hq e => (mem_atD hq).1, fun q hq => Nat.le_of_eq (mem_atD hq).2, fun q hq _ => (mem_atD hq).1, fun q hq => sks _ (mem_atD hq).1, fun p o a b _ _ _ la _ => by omega⟩ (fun p hp => mem_allS.mp (mem_missL.mp hp).1) ?_
    · by_cases c : p ∈ keysL (atD 0 tss)
      · exact .inl c
      · exact .inr (mem_missL.mpr ⟨mem_allS.mpr sk, c⟩)
    · rw [if_neg ne]
      have : (missL (atD 0 tss) (allS ns)).length ≤ (allS ns).length := List.length_filter_le _ _
      omega
  obtain ⟨m', d', fl⟩ := hf
  obtain ⟨gs, hpre⟩ := rounds_pre (ns := ns) ((allS ns).length + 2) (atD 0 tss) (missL (atD 0 tss) (allS ns)) tss 0
  have lt : ∀ {x : List Int} {y : Nat}, (x, y) ∈ countsL ns tss → y < d' := fun {x y} h => by
    have h1 := fl.le _ h
    have h2 : y ≠ d' := fun z => by
      have := fl.newest _ h z
      cases this
    simp only at h1
    omega
  refine ⟨fun p => ⟨fun h => fl.zero _ (mem_dep h) rfl, fun h => ?_⟩, fun p e h => g.seat _ (mem_dep h), fun p e h => ?_, fun p o a b sk ho hm => ?_⟩
  · have : (p, 0) ∈ countsL ns tss := by
      unfold countsL
      rw [hpre]
      exact List.mem_append_left _ (List.mem_map.mpr ⟨p, h, rfl⟩)
    exact dep_mem g.nod this
  · obtain ⟨o, a, b, h1, h2, h3, h4⟩ := g.both _ (mem_dep h) (Nat.succ_pos e)
    exact ⟨o, a, b, dep_mem g.nod h1, dep_mem g.nod h2, Nat.le_of_lt_succ h3, Nat.le_of_lt_succ h4⟩
  · obtain ⟨e, h1, h2⟩ := fl.least p o a b sk (mem_dep ho) (mem_dep hm) (lt (mem_dep ho)) (lt (mem_dep hm))
    exact ⟨e, dep_mem g.nod h1, h2⟩

def optV : Option Nat → V
  | some d => .int (d : Int)
  | none => .non
theorem optV_get (o : Option Nat) : (o.map fun d : Nat => V.int (d : Int)).getD .non = optV o := by cases o <;> rfl
section
variable {P : Program} {w : World} {K : PySem.W.Frag} {mg : Str → Option Value} {base : Heap}
def sp_min_calls (C : Addr) : Sp := fun vs H Q _ => ∃ (a s : Addr) (q : Bool × Addr) (ns ps : List Int) (tss : List (List Int)), vs = [.ref a, .ref q.2, .ref s] ∧ TabAt C H a ns ∧ SzOk ns ∧ prodL ns ≤ 300 ∧ RowsQ H q tss ∧ tss ≠ [] ∧ tss.length ≤ 1000 ∧ (∀ ts ∈ tss, SeatOk ns ts) ∧ tss.Nodup ∧ H s = some (.tup (ps.map V.int)) ∧ SeatOk ns ps ∧
  ∀ H2, Ex H H2 → Q (optV (dep (countsL ns tss) ps)) H2
theorem ok_min_calls (T : TX K mg) : FnOk P w K mg base CX0 6 T.f_min_calls T.fd_min_calls ["table", "targets", "seat"] (sp_min_calls T.C_Table) := by
  refine T.F_min_calls.ok sc_min_calls (fun vs H Q E h => ?_) (fun cdv A outer s H vs Q E hr h => ?_)
  · obtain ⟨a, s, q, ns, ps, tss, rfl, _⟩ := h
    rfl
  · obtain ⟨a, s, q, ns, ps, tss, rfl, tab, ok, pr, hq, ne, lt, sks, nod, hs, sk, k⟩ := h
    refine ⟨_, (pss_cons (ps_expr (pe_call (ok_require_table T) hr rfl T.m_require_table T.F_require_table.kp T.b_require_table .nil pass0 (pa_cons (pv 0) pa_nil))) (pss_cons (ps_expr (pe_call (ok_require_targets T) (hr.mono (by decide)) rfl T.m_require_targets T.F_require_targets.kp T.b_require_targets .nil pass0 (pa_cons (pv 0) (pa_cons (pv 1) pa_nil)))) (pss_cons (ps_expr (pe_call (ok_require_seat T) (hr.mono (by decide)) rfl T.m_require_seat T.F_require_seat.kp T.b_require_seat .nil pass0 (pa_cons (pv 0) (pa_cons (pv 2) pa_nil)))) (pss_cons (ps_expr (pe_call (ok_require_small T) (hr.mono (by decide)) rfl T.m_require_small T.F_require_small.kp T.b_require_small .nil pass0 (pa_cons (pv 0) pa_nil))) (pss_one (ps_ret (pe_dget1 (hu_of hr) (pe_call (ok_call_counts T) (hr.mono (by decide)) rfl T.m_call_counts T.F_call_counts.kp T.b_call_counts .nil pass0 (pa_cons (pv 0) (pa_cons (pv 1) pa_nil))) (pv 2) ⟨rfl, rfl, rfl, rfl⟩))))))), ?_⟩
    have l4 := ok.le
    have lp := sk.len
    refine ⟨_, rfl, a, ns, rfl, tab, ?_⟩
    refine ⟨_, rfl, _, rfl, a, q, ns, tss, rfl, tab, l4, hq, ne, by omega, sks, nod, fun H1 e1 => ?_⟩
    refine ⟨_, rfl, _, rfl, a, _, ns, _, rfl, tab.mono e1, l4, TupA.ints (e1 _ _ hs) (by omega), isSeat_ok sk, fun H2 e2 => ?_⟩
    have E2 := ext e1 e2
    refine ⟨_, rfl, a, ns, rfl, tab.mono E2, ok, pr, ?_⟩
    refine ⟨_, rfl, _, rfl, a, q, ns, tss, rfl, tab.mono E2, ok, pr, hq.mono E2, ne, lt, sks, nod, fun d H3 e3 nd hd => ?_⟩
    have E3 := ext E2 e3
    refine ⟨d, rfl, .inr ⟨_, .inl hd⟩, _, rfl, _, cnt_get hd (E3 _ _ hs), ?_⟩
    rw [optV_get]
    exact k H3 E3
end

-- dictcomps
-- sorts
/-! ### sorted(d) of a dict whose keys are tuples of ints (behind baseS) -/
section
variable {prog : Program} {w : World}
open PySem.W PySem.Calls in
theorem kdl_rawD {d : Addr} {es : Array DictEntry} {ep : Nat} (lo : (d == sysModules) = false) : KdlSrc prog w "dict" d d es.size (fun i v => ∃ hi : i < es.size, v = es[i].key) (fun h => h.DictRaw d es ep) where
  type := fun _ hm => hm.typeIs
  there := fun _ ⟨_, ho, _⟩ => ⟨Heap.lt_size ho, Heap.lt_size ho⟩
  keep := fun _ _ hm hk => hm.at fun o e => hk d (.inl rfl) o e
  notList := by decide
  notTuple := by decide
  hint := fun _ _ _ _ hm hq => kdl_hint_dict hm.typeIs hq
  iter := fun _ s hh hm => ⟨_, _, (fun _ _ hq => wpAny_pyIter_dict_raw lo hm hq), Walks.rawKeys hh _ d (by obtain ⟨_, ho, _⟩ := hm; exact Nat.ne_of_lt (Heap.lt_size ho)) es ep, ⟨⟨_, Heap.get?_push_size _ rfl, rfl, rfl⟩, hm.at fun o e => Heap.get?_push_of_some _ e⟩⟩
end
def rSortD : List V → Hp → VK → Prop := fun vs H Q => ∃ (a : Addr) (kvs : List (List L2.Key × V)) (tss : List (List Int)), vs = [V.ref a] ∧ H a = some (.dT kvs) ∧ kvs.map (·.1) = tss.map (fun ts => ts.map Sum.inl) ∧ (∀ ts ∈ tss, ts ≠ []) ∧
  ∀ (ys : List V) (p : Addr), RowsR H ys (tss.mergeSort leT) → H p = none → Q (.ref p) (upd H p (.lst ys))
open PySem.W in
theorem each_dkeys {H : Hp} : ∀ {kvs : List (List L2.Key × V)} {xs : List (List L2.Key × Addr × Value)} {tss : List (List Int)}, KT H kvs xs → kvs.map (·.1) = tss.map (fun ts => ts.map Sum.inl) →
    EachIs (fun (u : Value) (ts : List Int) => ∃ t, u = Value.ref t ∧ H t = some (.tup (ts.map V.int))) (xs.map fun x => Value.ref x.2.1) tss
  | _, _, [], .nil, _ => .nil
  | _, _, _ :: _, .nil, h => by simp at h
  | _, _, [], .cons _ _, h => by simp at h
  | kv :: _, x :: _, ts :: tss, .cons ⟨h1, h2, _⟩ t, h => by
    rw [List.map_cons, List.map_cons] at h
    obtain ⟨e1, e2⟩ := List.cons.inj h
    refine .cons ⟨x.2.1, rfl, ?_⟩ (each_dkeys t e2)
    rw [h2]
    rw [e1, List.map_map]
    rfl
open PySem.W PySem.Calls in
theorem cr_sortDT {X : Cx} (hcalm : X.calm = true) (hu : X.A.units + 65 < cLine) : CallR X (.builtin "sorted") rSortD := by
  intro pins s σ H vs us Q I r h
  obtain ⟨a, kvs, tss, rfl, ha, hks, ne, q⟩ := h
  rw [Vals.ref1 r]
  obtain ⟨z, hd, xs, rel, o, es, ep, ho, hx, hdat, hes, hxs, hnod⟩ := dt_of I.hok ha
  have raw : s.heap.DictRaw a es ep := ⟨o, ho, hx, hdat⟩
  have l1 : es.size = xs.length := by rw [← Array.length_toList, hes, List.length_map]
  have l2 : kvs.length = xs.length := Paired.length rel
  have l3 : kvs.length = tss.length := by
    have := congrArg List.length hks
    rwa [List.length_map, List.length_map] at this
  have hk : PySem.W.Sortable (tss.map iT) := .inl fun d hd => by
    obtain ⟨ts, ht, rfl⟩ := List.mem_map.mp hd
    cases ts with
    | nil => exact absurd rfl (ne _ ht)
    | cons x l => exact ⟨_, _, rfl⟩
  have hU : ∀ ts, ts ∈ tss → X.A.units + 2 + (iT ts).depth < cLine := fun ts _ => by
    have e := PySem.W.depth_ints ts
    have : (iT ts).depth = 1 := by
      show PyData.depth (.tuple (ts.map .int)) = 1
      simp only [PyData.depth, e]
    omega
  have hal : PySem.W.AllAlike (tss.map iT) := PySem.W.AllAlike.of alike_iT
  refine call_function_entry kind_sorted plain_sorted entry_sorted (args_sorted1 _) ?_
  unfold Builtin.«sorted»
  refine wpAny_bind (m := checkCount "sorted" 1 1 _) (wpAny_pure ?_)
  refine wpAny_bind (PySem.W.kdu_collect (A := X.A.in1) (kdl_rawD hd) (I.ok.hd hcalm) raw (by omega) fun h' tk acc hkk hacc => ?_)
  have ev : acc.toList = xs.map fun x => Value.ref x.2.1 := by
    refine List.ext_getElem? fun i => ?_
    by_cases hi : i < es.size
    · have hia : i < acc.size := by rw [hacc.1]; exact hi
      have e1 : acc.toList[i]? = some acc[i] := by rw [Array.getElem?_toList, Array.getElem?_eq_getElem hia]
      obtain ⟨hi2, e2⟩ := hacc.2 i acc[i] (Array.getElem?_eq_getElem hia)
      have iy : i < xs.length := by omega
      have e3 : es[i] = entryOfKey (tupleKind (mixKind X.prog X.w)) xs[i] := by
        have : es.toList[i]? = some es[i] := by rw [Array.getElem?_toList, Array.getElem?_eq_getElem hi]
        rw [hes, List.getElem?_map, List.getElem?_eq_getElem iy] at this
        exact (Option.some.inj this).symm
      rw [e1, e2, e3, List.getElem?_map, List.getElem?_eq_getElem iy]
      rfl
    · rw [List.getElem?_eq_none (by rw [Array.length_toList, hacc.1]; omega), List.getElem?_eq_none (by rw [List.length_map]; omega)]
  have hE := each_dkeys rel hks
  rw [← ev] at hE
  generalize acc.toList = vs at hE ev
  have lvs : vs.length ≤ sizeLine := by rw [hE.length]; omega
  have I1 : Inv X pins σ H { s with heap := h', toks := tk } := I.kept hkk
  refine wpAny_bind (wpAny_newList ?_ lvs)
  have hoL : (h'.push (seqObj "list" vs.toArray 0)).get? h'.objs.size = some (seqObj "list" vs.toArray 0) := Heap.get?_push_size _ rfl
  have er : EachIs (fun v b => ∃ as, Reads (sortingHeap (h'.push (seqObj "list" vs.toArray 0)) h'.objs.size vs) v (iT b) as) vs tss := (each_dp I1 hE).mono fun _ _ ⟨as, r⟩ => ⟨as, PyProof.Rows.Reads.keeps (fun b o e => sortingHeap_old (Nat.ne_of_lt (Heap.lt_size e)) (Heap.get?_push_of_some _ e)) r⟩
  show wpAny _ _ _ _ _ { s with heap := h'.push (seqObj "list" vs.toArray 0), toks := tk }
  have S := SortsAt.data (prog := X.prog) (w := X.w) (A := X.A.in1.in1) (s := { s with heap := sortingHeap (h'.push (seqObj "list" vs.toArray 0)) h'.objs.size vs, toks := tk }) (each_map (R := fun v d => ∃ as, Reads (sortingHeap (h'.push (seqObj "list" vs.toArray 0)) h'.objs.size vs) v d as) iT er) hal hk (bound_map (A := X.A.in1.in1) hU)
  refine wpAny_bind (wpAny_holding (wpAny_call_entry slot_list_sort ⟨_, hoL, rfl⟩ entry_list_sort (list_sort_vals (s := { s with heap := h'.push (seqObj "list" vs.toArray 0), toks := tk }) hoL S lvs ⟨_, rfl, ?_⟩) (args_list_sort _)))
  have eo := sortVals_data false hE er hal
  have lo2 := eo.length
  obtain ⟨ys, h1, h2⟩ := rows_each eo
  obtain ⟨e', he'⟩ := sortedHeap_at (vs := vs) (out := (sortVals (dataKind (sortingHeap (h'.push (seqObj "list" vs.toArray 0)) h'.objs.size vs) (tss.map iT)) false vs vs).toArray) hoL
  have hlen : ys.length ≤ sizeLine := by
    rw [h2.length, lo2, List.length_mergeSort]
    omega
  refine wpAny_pure ⟨_, rfl, .ref h'.objs.size, upd H h'.objs.size (.lst ys), I1.laid (t' := tk) (fun b u e => ?_) (Nat.le_refl _)
    (show ObjOk X.prog X.w _ _ _ (.lst ys) from ⟨hlen, _, e', h2, he'⟩), rfl, q ys _ h1 (I1.hok.fresh (Nat.le_refl _))⟩
  have hb : b < h'.objs.size := Heap.lt_size e
  rw [sortedHeap_old (Nat.ne_of_lt hb) (by rw [size_push']; exact Nat.lt_succ_of_lt hb)]
  exact Heap.get?_push_of_some _ e

-- sorts
/-! ### sorted(xs) of pairs of an int and a tuple of ints (behind baseS) -/
abbrev IPr := Int × List Int
def encP (a : IPr) : PyData := .tuple [.int a.1, iT a.2]
def leP (a b : IPr) : Bool := PySem.W.dataLe false encP a b
def PdP (H : Hp) (x : V) (a : IPr) : Prop := ∃ t u, x = V.ref t ∧ H t = some (.tup [.int a.1, .ref u]) ∧ H u = some (.tup (a.2.map V.int))
theorem pdp_mono (H H2 : Hp) (v : V) (a : IPr) (e : ∀ c xs, H c = some (.tup xs) → H2 c = some (.tup xs)) (h : PdP H v a) : PdP H2 v a := by
  obtain ⟨r, u, h1, h2, h3⟩ := h
  exact ⟨r, u, h1, e _ _ h2, e _ _ h3⟩
def rSortP (K : PySem.W.Frag) : List V → Hp → VK → Prop := fun vs H Q => ∃ (q : Bool × Addr) (xs : List V) (ds : List IPr), vs = [V.ref q.2] ∧ CZ.SqK K H q xs ∧ Paired (PdP H) xs ds ∧
  ∀ (ys : List V) (p : Addr), Paired (PdP H) ys (ds.mergeSort leP) → H p = none → Q (.ref p) (upd H p (.lst ys))
def VdP (H : Hp) (u : Value) (a : IPr) : Prop := ∃ t r, u = Value.ref t ∧ H t = some (.tup [.int a.1, .ref r]) ∧ H r = some (.tup (a.2.map V.int))
open PySem.W in
theorem each_prs {H : Hp} : ∀ {xs : List V} {ds : List IPr} {us : List Value}, Paired (PdP H) xs ds → Vals xs us → EachIs (VdP H) us ds
  | _, _, _, .nil, .nil => .nil
  | _, _, _, .cons ⟨t, r, e, h1, h2⟩ tl, .cons rv tv => by
    subst e
    cases rv
    exact .cons ⟨t, r, rfl, h1, h2⟩ (each_prs tl tv)
open PySem.W in
theorem prs_each {H : Hp} : ∀ {us : List Value} {ds : List IPr}, EachIs (VdP H) us ds → ∃ ys, Paired (PdP H) ys ds ∧ Vals ys us
  | _, _, .nil => ⟨[], .nil, .nil⟩
  | _, _, .cons ⟨t, r, e, h1, h2⟩ tl => by
    subst e
    obtain ⟨ys, g1, g2⟩ := prs_each tl
    exact ⟨.ref t :: ys, .cons ⟨t, r, rfl, h1, h2⟩ g1, .cons rfl g2⟩
open PySem.W in
theorem each_dpP {X : Cx} {pins : List (Addr × Obj)} {σ : L2.St} {H : Hp} {s : Shared} (I : Inv X pins σ H s) : ∀ {us : List Value} {ds : List IPr}, EachIs (VdP H) us ds → EachIs (fun v b => ∃ as, Reads s.heap v (encP b) as) us ds
  | _, _, .nil => .nil
  | _, _, .cons ⟨t, r, e, h1, h2⟩ tl => by
    subst e
    exact .cons (Dp.reads I _ (.ref t) _ (.tup (SqT.of h1) (.cons (.int _) (.cons (dp_ints h2) .nil))) rfl) (each_dpP I tl)
theorem alike_encP (a b : IPr) : PySem.W.alike (encP a) (encP b) = true := by
  show PySem.W.alike (.tuple [.int a.1, iT a.2]) (.tuple [.int b.1, iT b.2]) = true
  rw [PySem.W.alike]
  have h1 : PySem.W.alike (.int a.1) (.int b.1) = true := by simp [PySem.W.alike]
  have h2 := alike_iT a.2 b.2
  simp only [PySem.W.alikeAll, h1, h2, Bool.and_true, Bool.or_true, Bool.true_or]
theorem depth_encP (a : IPr) : (encP a).depth = 2 := by
  have e := PySem.W.depth_ints a.2
  show PyData.depth (.tuple [.int a.1, .tuple (a.2.map .int)]) = 2
  simp only [PyData.depth, PyData.depthAll, e]
  rfl
theorem cr_sortP {X : Cx} (hu : X.A.units + 65 < cLine) : CallR X (.builtin "sorted") (rSortP X.K) := by
  intro pins s σ H vs us Q I r h
  obtain ⟨⟨b, a⟩, xs, ds, rfl, hs, rr, q⟩ := h
  rw [Vals.ref1 r]
  have hk : PySem.W.Sortable (ds.map encP) := .inl fun d hd => by
    obtain ⟨ts, ht, rfl⟩ := List.mem_map.mp hd
    exact ⟨_, _, rfl⟩
  have hU : ∀ ts, ts ∈ ds → X.A.units + 2 + (encP ts).depth < cLine := fun ts _ => by
    rw [depth_encP]
    omega
  have fin : ∀ its : List Value, Vals xs its → xs.length ≤ sizeLine → ∀ out, out.length = ds.length → PySem.W.EachIs (VdP H) out (ds.mergeSort (PySem.W.dataLe false encP)) → EP X pins σ Q (.ref (s.heap.objs.size + 1)) { s with heap := sortedAll s.heap its (List.toArray out) } := by
    intro its rv hz out lo eo
    obtain ⟨ys, h1, h2⟩ := prs_each eo
    obtain ⟨ep, he'⟩ := PyProof.Rows.sortedAll_at s.heap its (List.toArray out)
    have hlen : ys.length ≤ sizeLine := by
      rw [h2.length, lo, ← Paired.length rr]
      exact hz
    exact ⟨.ref _, upd H (s.heap.objs.size + 1) (.lst ys), I.laid (t' := s.toks) (fun _ _ => PyProof.Rows.sortedAll_old) (Nat.le_succ _) ⟨hlen, out, ep, h2, he'⟩, rfl, q ys _ h1 (I.hok.fresh (Nat.le_succ _))⟩
  have hal : PySem.W.AllAlike (ds.map encP) := PySem.W.AllAlike.of alike_encP
  cases b with
  | false =>
    obtain ⟨its, rv, hl, hz⟩ := I.list (show SqL X.K H a xs from hs)
    have e := each_prs rr rv
    exact PySem.W.sorted_data (enc := encP) hl.isList e (each_dpP I e) hal hk (by rw [← Paired.length rr]; exact hz) hU (fin its rv hz)
  | true =>
    obtain ⟨its, rv, hl, hz⟩ := I.tuple (show SqT X.K H a xs from hs)
    have e := each_prs rr rv
    exact sorted_data_t (enc := encP) hl e (each_dpP I e) hal hk (by rw [← Paired.length rr]; exact hz) hU (fin its rv hz)

/-! ### comprehensions of new tuples -/
theorem paired_mono {α : Type} {P Q : V → α → Prop} (h : ∀ v a, P v a → Q v a) : ∀ {xs : List V} {as : List α}, Paired P xs as → Paired Q xs as
  | _, _, .nil => .nil
  | _, _, .cons q t => .cons (h _ _ q) (paired_mono h t)
theorem paired_snoc {α : Type} {P : V → α → Prop} {v : V} {a : α} (h : P v a) : ∀ {xs : List V} {as : List α}, Paired P xs as → Paired P (xs ++ [v]) (as ++ [a])
  | _, _, .nil => .cons h .nil
  | _, _, .cons q t => .cons q (paired_snoc h t)
theorem lc_new {α : Type} (Pd : Hp → V → α → Prop) (mono : ∀ (H H2 : Hp) (v : V) (a : α), (∀ c xs, H c = some (.tup xs) → H2 c = some (.tup xs)) → Pd H v a → Pd H2 v a)
    {J : It} {n : Nat} {G : Hp → Prop} {Y : Nat → Hp → V → Hp → Prop} (w : Walk J n G Y) {g : TG} {te : TE} {vs : List Nat} {σ : L2.St} {H1 : Hp} {D : Addr} {Qd : Hp → Prop} (as : List α) (hn : as.length = n) (hl : n ≤ 10000000) (hD : H1 D = none)
    (hG : ∀ H, Ex H1 H → G H)
    (hs : ∀ i x a H H2 (R : VK), as[i]? = some a → Ex H1 H → Y i H x H2 → (∀ v H5, Ex H H5 → Pd H5 v a → R v H5) → g x (wipe σ vs) H2 fun σ2 H3 => wipe σ2 vs = wipe σ vs ∧ te σ2 H3 R)
    (hg : ∀ x σ2 H2 (R R2 : L2.St → Hp → Prop), (∀ σ3 H3, R σ3 H3 → R2 σ3 H3) → g x σ2 H2 R → g x σ2 H2 R2)
    (hd : ∀ H xs, Ex H1 H → H D = some (.lst xs) → Paired (Pd H) xs as → Qd H) :
    ∃ W : Nat → Nat → Hp → Prop, (∃ m, W 0 m (upd H1 D (.lst []))) ∧ ∀ i m H, W i m H →
      (J.stop i H ∧ Qd H) ∨ (J.go i H ∧ ∃ Nx : Hp → Prop, (∀ H2, Nx H2 → ∃ m2, m2 < m ∧ W (i + 1) m2 H2) ∧ ∀ x H2, J.yld i H x H2 → g x (wipe σ vs) H2 fun σ2 H3 => wipe σ2 vs = wipe σ vs ∧ tYes σ2 H3 fun b H4 =>
        if b = true then te σ2 H4 fun y H5 => ∃ acc, H5 D = some (.lst acc) ∧ acc.length < sizeLine ∧ Nx (upd H5 D (.lst (acc ++ [y]))) else Nx H4) := by
  refine lc_it w (fun i H => Ex H1 H ∧ ∃ xs, H D = some (.lst xs) ∧ Paired (Pd H) xs (as.take i)) ⟨exn hD, [], upd_same, .nil⟩ (fun i H _ p => hG H p.1) (fun i x H H2 hi p y => ?_) (fun H p => ?_)
  · obtain ⟨a, ha⟩ : ∃ a, as[i]? = some a := ⟨_, List.getElem?_eq_getElem (by omega)⟩
    refine hg _ _ _ _ _ (fun σ3 H3 q => ⟨q.1, q.2⟩) (hs i x a H H2 (fun y H5 => ∃ acc, H5 D = some (.lst acc) ∧ acc.length < sizeLine ∧ Ex H1 (upd H5 D (.lst (acc ++ [y]))) ∧ ∃ xs, upd H5 D (.lst (acc ++ [y])) D = some (.lst xs) ∧ Paired (Pd (upd H5 D (.lst (acc ++ [y])))) xs (as.take (i + 1))) ha p.1 y fun v H5 e hv => ?_)
    obtain ⟨p1, xs, p2, p3⟩ := p
    have tp : ∀ c zs, H5 c = some (.tup zs) → upd H5 D (.lst (xs ++ [v])) c = some (.tup zs) := fun c zs z => by
      rw [upd_ne (ne_of z (e _ _ p2) (by intro q; cases q))]
      exact z
    refine ⟨xs, e _ _ p2, ?_, ex_upd (ext p1 e) hD, xs ++ [v], upd_same, ?_⟩
    · rw [Paired.length p3, List.length_take]
      exact Nat.lt_of_le_of_lt (Nat.le_trans (Nat.min_le_right _ _) (by rw [hn]; exact hl)) (by decide)
    · rw [take_more ha]
      refine paired_snoc (mono _ _ _ _ tp hv) (paired_mono (fun v a q => mono _ _ _ _ tp (mono _ _ _ _ (fun c zs z => e _ _ z) q)) p3)
  · obtain ⟨p1, xs, p2, p3⟩ := p
    rw [List.take_of_length_le (by omega)] at p3
    exact hd H xs p1 p2 p3
def PdRow (H : Hp) (x : V) (hs : List Int) : Prop := ∃ r, x = V.ref r ∧ H r = some (.tup (hs.map V.int))
theorem pdrow_mono (H H2 : Hp) (v : V) (a : List Int) (e : ∀ c xs, H c = some (.tup xs) → H2 c = some (.tup xs)) (h : PdRow H v a) : PdRow H2 v a := by
  obtain ⟨r, h1, h2⟩ := h
  exact ⟨r, h1, e _ _ h2⟩

theorem mir_shift : ∀ {ns ps cs : List Int}, ps.length = ns.length → cs.length = ns.length → mirL ns ps (shiftL ns ps cs 1) = shiftL ns ps cs (-1)
  | [], _, _, _, _ => by cases ‹List Int› <;> cases ‹List Int› <;> rfl
  | n :: ns, p :: ps, c :: cs, h1, h2 => by
    show ((2 * p - (p + 1 * c) % n) % n) :: mirL ns ps (shiftL ns ps cs 1) = ((p + -1 * c) % n) :: shiftL ns ps cs (-1)
    rw [mir_shift (by simpa using h1) (by simpa using h2)]
    congr 1
    rw [emod_eq_iff]
    have e := Int.mul_ediv_add_emod (p + 1 * c) n
    refine ⟨(p + 1 * c) / n, ?_⟩
    grind
theorem shift_to : ∀ {ns ps os : List Int}, SeatOk ns os → ps.length = ns.length → shiftL ns ps (toL ns ps os) 1 = os
  | [], _, [], _, _ => by cases ‹List Int› <;> rfl
  | n :: ns, p :: ps, o :: os, h, l => by
    obtain ⟨⟨o0, o1⟩, h2⟩ : (0 ≤ o ∧ o < n) ∧ SeatOk ns os := h
    show (p + 1 * ((o - p) % n)) % n :: shiftL ns ps (toL ns ps os) 1 = _
    rw [shift_to h2 (by simpa using l)]
    congr 1
    rw [Int.one_mul, Int.add_emod, Int.emod_emod, ← Int.add_emod, show p + (o - p) = o by omega, Int.emod_eq_of_lt o0 o1]

/-! ### the numbers of calls by trying all calls -/
theorem toL_seat : ∀ {ns ps os : List Int}, SeatOk ns ps → os.length = ns.length → SeatOk ns (toL ns ps os)
  | [], [], [], _, _ => True.intro
  | n :: ns, p :: ps, o :: os, h, l => by
    obtain ⟨⟨h1, h2⟩, h3⟩ : (0 ≤ p ∧ p < n) ∧ SeatOk ns ps := h
    exact ⟨⟨Int.emod_nonneg _ (by omega), Int.emod_lt_of_pos _ (by omega)⟩, toL_seat h3 (by simpa using l)⟩
def hasL (fs : List (List Int × Nat)) (p : List Int) : Bool := (dep fs p).isSome
/-- a call leads both ways into fs -/
def tryL (ns : List Int) (fs : List (List Int × Nat)) (ds : List (List Int)) (p : List Int) : Bool := ds.any fun d => hasL fs (shiftL ns p d 1) && hasL fs (shiftL ns p d (-1))
def joinL (ns : List Int) (fs : List (List Int × Nat)) (p : List Int) : Bool := !hasL fs p && tryL ns fs (allS ns) p
def lawNew (ns : List Int) (fs : List (List Int × Nat)) : List (List Int) := (allS ns).filter (joinL ns fs)
/-- all numbers up to r, and no others -/
structure UpTo (ns : List Int) (tss : List (List Int)) (fs : List (List Int × Nat)) (r : Nat) : Prop where
  is : ∀ p d, dep fs p = some d ↔ dep (countsL ns tss) p = some d ∧ d ≤ r
  nod : (keysL fs).Nodup
  seat : ∀ q ∈ keysL fs, SeatOk ns q
  ne : fs ≠ []
  len : fs.length ≤ (allS ns).length
section
variable {ns : List Int} {tss : List (List Int)} {fs : List (List Int × Nat)} {r : Nat}
theorem UpTo.has (u : UpTo ns tss fs r) {p : List Int} : hasL fs p = true ↔ ∃ d, dep (countsL ns tss) p = some d ∧ d ≤ r := by
  unfold hasL
  rw [Option.isSome_iff_exists]
  constructor
  · rintro ⟨d, h⟩
    exact ⟨d, (u.is p d).mp h⟩
  · rintro ⟨d, h⟩
    exact ⟨d, (u.is p d).mpr h⟩
theorem UpTo.start (sks : ∀ t ∈ tss, SeatOk ns t) (nod : tss.Nodup) (ne : tss ≠ []) : UpTo ns tss (atD 0 tss) 0 where
  is := fun p d => by
    have L := counts_least sks nod ne
    constructor
    · intro h
      obtain ⟨h1, h2⟩ := mem_atD (mem_dep h)
      have h2 : d = 0 := h2
      subst h2
      exact ⟨(L.zero p).mpr h1, Nat.le_refl _⟩
    · rintro ⟨h, hd⟩
      obtain rfl : d = 0 := by omega
      exact dep_mem (by rw [keys_atD]; exact nod) (List.mem_map_of_mem (f := fun p => (p, 0)) ((L.zero p).mp h))
  nod := by rw [keys_atD]; exact nod
  seat := fun q hq => by rw [keys_atD] at hq; exact sks q hq
  ne := fun z => ne (List.map_eq_nil_iff.mp z)
  len := by
    rw [List.length_map]
    exact List.Nodup.length_le_of_subset nod fun p hp => mem_allS.mpr (sks p hp)
/-- what is found beside an own seat -/
theorem UpTo.next (u : UpTo ns tss fs r) (L : LeastL ns tss (countsL ns tss)) {p d : List Int} (sp : SeatOk ns p) (ld : d.length = ns.length) (hn : hasL fs p = false) {a b : Nat} (ha : dep fs (shiftL ns p d 1) = some a) (hb : dep fs (shiftL ns p d (-1)) = some b) :
    max a b = r ∧ dep (countsL ns tss) p = some (r + 1) := by
  obtain ⟨a1, a2⟩ := (u.is _ _).mp ha
  obtain ⟨b1, b2⟩ := (u.is _ _).mp hb
  obtain ⟨e, h1, h2⟩ := L.least p _ a b sp a1 (by rw [mir_shift sp.len ld]; exact b1)
  have h3 : ¬ e ≤ r := fun z => by
    have := u.has.mpr ⟨e, h1, z⟩
    rw [hn] at this
    cases this
  have : e = r + 1 := by omega
  subst this
  exact ⟨by omega, h1⟩
theorem UpTo.try_is (u : UpTo ns tss fs r) (L : LeastL ns tss (countsL ns tss)) {p : List Int} (sp : SeatOk ns p) : joinL ns fs p = true ↔ dep (countsL ns tss) p = some (r + 1) := by
  unfold joinL tryL
  rw [Bool.and_eq_true, Bool.not_eq_true', List.any_eq_true]
  constructor
  · rintro ⟨hn, d, hd, h⟩
    rw [Bool.and_eq_true] at h
    obtain ⟨a, ha⟩ := Option.isSome_iff_exists.mp h.1
    obtain ⟨b, hb⟩ := Option.isSome_iff_exists.mp h.2
    exact (u.next L sp (mem_allS.mp hd).len hn ha hb).2
  · intro h
    refine ⟨?_, ?_⟩
    · cases c : hasL fs p with
      | false => rfl
      | true =>
        obtain ⟨d, h1, h2⟩ := u.has.mp c
        rw [h] at h1
        have := Option.some.inj h1
        omega
    · obtain ⟨o, a, b, h1, h2, h3, h4⟩ := L.both p r h
      have so := L.seat o a h1
      have lt := toL_len (ns := ns) sp.len so.len
      have e1 := shift_to so sp.len
      have st : SeatOk ns (toL ns p o) := toL_seat sp so.len
      refine ⟨toL ns p o, mem_allS.mpr st, ?_⟩
      rw [Bool.and_eq_true]
      refine ⟨u.has.mpr ⟨a, by rw [e1]; exact h1, h3⟩, u.has.mpr ⟨b, ?_, h4⟩⟩
      rw [← mir_shift sp.len lt, e1]
      exact h2
theorem dep_app (fs gs : List (List Int × Nat)) (p : List Int) : dep (fs ++ gs) p = match dep fs p with
    | some d => some d
    | none => dep gs p := by
  induction fs with
  | nil => rfl
  | cons f fs ih =>
    rw [List.cons_append, dep_cons, dep_cons]
    by_cases c : f.1 = p
    · rw [if_pos c, if_pos c]
    · rw [if_neg c, if_neg c, ih]
theorem dep_atD {d : Nat} {ps : List (List Int)} (nod : ps.Nodup) (p : List Int) : dep (atD d ps) p = if p ∈ ps then some d else none := by
  by_cases c : p ∈ ps
  · rw [if_pos c]
    exact dep_mem (q := (p, d)) (by rw [keys_atD]; exact nod) (List.mem_map_of_mem (f := fun p => (p, d)) c)
  · rw [if_neg c]
    cases h : dep (atD d ps) p with
    | none => rfl
    | some e => exact absurd (mem_atD (mem_dep h)).1 c
theorem UpTo.step (u : UpTo ns tss fs r) (L : LeastL ns tss (countsL ns tss)) : UpTo ns tss (fs ++ atD (r + 1) (lawNew ns fs)) (r + 1) := by
  have nn : (lawNew ns fs).Nodup := (allS_nodup ns).filter _
  have mem : ∀ p, p ∈ lawNew ns fs ↔ dep (countsL ns tss) p = some (r + 1) := fun p => by
    unfold lawNew
    rw [List.mem_filter]
    constructor
    · rintro ⟨h1, h2⟩
      exact (u.try_is L (mem_allS.mp h1)).mp h2
    · intro h
      have sp := L.seat _ _ h
      exact ⟨mem_allS.mpr sp, (u.try_is L sp).mpr h⟩
  have nod : (keysL (fs ++ atD (r + 1) (lawNew ns fs))).Nodup := by
    rw [keys_app, keys_atD, List.nodup_append]
    refine ⟨u.nod, nn, fun a ha b hb e => ?_⟩
    subst e
    have h1 := (mem a).mp hb
    obtain ⟨d, hd⟩ := mem_keys ha
    have h2 := (u.is a d).mp (dep_mem u.nod hd)
    rw [h1] at h2
    have := Option.some.inj h2.1
    omega
  have seat : ∀ q ∈ keysL (fs ++ atD (r + 1) (lawNew ns fs)), SeatOk ns q := fun q hq => by
    rw [keys_app, keys_atD] at hq
    rcases List.mem_append.mp hq with h | h
    · exact u.seat q h
    · exact L.seat _ _ ((mem q).mp h)
  refine ⟨fun p d => ?_, nod, seat, (fun z => u.ne (List.append_eq_nil_iff.mp z).1), ?_⟩
  · rw [dep_app, dep_atD nn]
    constructor
    · intro h
      cases hf : dep fs p with
      | some e =>
        rw [hf] at h
        obtain rfl := Option.some.inj h
        obtain ⟨h1, h2⟩ := (u.is p e).mp hf
        exact ⟨h1, by omega⟩
      | none =>
        rw [hf] at h
        by_cases c : p ∈ lawNew ns fs
        · have h : (if p ∈ lawNew ns fs then some (r + 1) else none) = some d := h
          rw [if_pos c] at h
          obtain rfl := Option.some.inj h
          exact ⟨(mem p).mp c, Nat.le_refl _⟩
        · have h : (if p ∈ lawNew ns fs then some (r + 1) else none) = some d := h
          rw [if_neg c] at h
          cases h
    · rintro ⟨h1, h2⟩
      by_cases c : d ≤ r
      · rw [(u.is p d).mpr ⟨h1, c⟩]
      · obtain rfl : d = r + 1 := by omega
        have hf : dep fs p = none := by
          cases hf : dep fs p with
          | none => rfl
          | some e =>
            obtain ⟨h3, h4⟩ := (u.is p e).mp hf
            rw [h1] at h3
            have := Option.some.inj h3
            omega
        rw [hf]
        show (if p ∈ lawNew ns fs then some (r + 1) else none) = some (r + 1)
        rw [if_pos ((mem p).mpr h1)]
  · rw [← List.length_map (f := (·.1))]
    exact List.Nodup.length_le_of_subset nod fun p hp => mem_allS.mpr (seat p hp)
/-- every number comes behind the one before -/
theorem LeastL.below (L : LeastL ns tss (countsL ns tss)) (k : Nat) : ∀ (m : Nat) (p : List Int), dep (countsL ns tss) p = some m → k ≤ m → ∃ q, dep (countsL ns tss) q = some k := by
  intro m
  induction m using Nat.strongRecOn with
  | ind m ih =>
    intro p h hk
    by_cases c : k = m
    · exact ⟨p, by rw [c]; exact h⟩
    cases m with
    | zero => omega
    | succ m =>
      obtain ⟨o, a, b, h1, h2, h3, h4⟩ := L.both p m h
      obtain ⟨e, g1, g2⟩ := L.least p o a b (L.seat _ _ h) h1 h2
      rw [h] at g1
      have := Option.some.inj g1
      by_cases c2 : a = m
      · exact ih a (by omega) o h1 (by omega)
      · have : b = m := by omega
        exact ih b (by omega) _ h2 (by omega)
/-- nothing new: all numbers are there -/
theorem UpTo.done (u : UpTo ns tss fs r) (L : LeastL ns tss (countsL ns tss)) (h : lawNew ns fs = []) (p : List Int) : dep fs p = dep (countsL ns tss) p := by
  have no : ∀ q d, dep (countsL ns tss) q = some d → d ≤ r := fun q d hd => by
    by_cases c : d ≤ r
    · exact c
    obtain ⟨q2, h2⟩ := L.below (r + 1) d q hd (by omega)
    have sp := L.seat _ _ h2
    have : q2 ∈ lawNew ns fs := List.mem_filter.mpr ⟨mem_allS.mpr sp, (u.try_is L sp).mpr h2⟩
    rw [h] at this
    cases this
  cases hc : dep (countsL ns tss) p with
  | some d => exact (u.is p d).mpr ⟨hc, no p d hc⟩
  | none =>
    cases hf : dep fs p with
    | none => rfl
    | some e =>
      have := ((u.is p e).mp hf).1
      rw [hc] at this
      cases this
theorem putK_same {k : List L2.Key} {v : V} : ∀ {kvs : List (List L2.Key × V)}, (kvs.map (·.1)).Nodup → (k, v) ∈ kvs → putK kvs k v = kvs := fun {kvs} nod h => by
  unfold putK
  have e : (kvs.any fun kv => decide (kv.1 = k)) = true := List.any_eq_true.mpr ⟨(k, v), h, decide_eq_true rfl⟩
  rw [if_pos e]
  conv => rhs; rw [← List.map_id kvs]
  refine List.map_congr_left fun kv hkv => ?_
  by_cases c : kv.1 = k
  · rw [if_pos c]
    have : kv = (k, v) := by
      clear e
      induction kvs with
      | nil => cases h
      | cons a r ih =>
        rw [List.map_cons] at nod
        obtain ⟨n1, n2⟩ := List.nodup_cons.mp nod
        rcases List.mem_cons.mp hkv with rfl | h1
        · rcases List.mem_cons.mp h with h2 | h2
          · exact h2.symm
          · exact absurd (List.mem_map.mpr ⟨_, h2, c.symm⟩) n1
        · rcases List.mem_cons.mp h with h2 | h2
          · subst h2
            exact absurd (List.mem_map.mpr ⟨_, h1, c⟩) n1
          · exact ih n2 h2 h1
    rw [this]
    rfl
  · rw [if_neg c]
    rfl
end

/-! ### one target: the numbers are the powers of two that bring the difference to nothing -/
def DivL : List Int → Int → List Int → List Int → Prop
  | [], _, [], [] => True
  | n :: ns, c, p :: ps, t :: ts => n ∣ c * (p - t) ∧ DivL ns c ps ts
  | _, _, _, _ => False
theorem div_self : ∀ {ns t : List Int} (c : Int), SeatOk ns t → DivL ns c t t
  | [], [], _, _ => True.intro
  | n :: ns, t :: ts, c, h => ⟨⟨0, by rw [Int.sub_self]; simp⟩, div_self c h.2⟩
theorem div_mid {c : Int} : ∀ {ns p o t : List Int}, SeatOk ns p → SeatOk ns o → SeatOk ns t → DivL ns c o t → DivL ns c (mirL ns p o) t → DivL ns (2 * c) p t
  | [], [], [], [], _, _, _, _, _ => True.intro
  | n :: ns, p :: ps, o :: os, t :: ts, hp, ho, ht, ⟨⟨x, h1⟩, h2⟩, h => by
    obtain ⟨⟨y, h3⟩, h4⟩ : n ∣ c * ((2 * p - o) % n - t) ∧ DivL ns c (mirL ns ps os) ts := h
    refine ⟨?_, div_mid hp.2 ho.2 ht.2 h2 h4⟩
    have e := Int.mul_ediv_add_emod (2 * p - o) n
    exact ⟨x + y + c * ((2 * p - o) / n), by grind⟩
theorem div_mir {c : Int} : ∀ {ns p t : List Int}, SeatOk ns p → SeatOk ns t → DivL ns (2 * c) p t → DivL ns c (mirL ns p t) t
  | [], [], [], _, _, _ => True.intro
  | n :: ns, p :: ps, t :: ts, hp, ht, ⟨⟨x, h1⟩, h2⟩ => by
    show n ∣ c * ((2 * p - t) % n - t) ∧ DivL ns c (mirL ns ps ts) ts
    refine ⟨?_, div_mir hp.2 ht.2 h2⟩
    have e := Int.mul_ediv_add_emod (2 * p - t) n
    exact ⟨x - c * ((2 * p - t) / n), by grind⟩
theorem div_one : ∀ {ns p t : List Int}, SeatOk ns p → SeatOk ns t → DivL ns 1 p t → p = t
  | [], [], [], _, _, _ => rfl
  | n :: ns, p :: ps, t :: ts, hp, ht, ⟨h1, h2⟩ => by
    obtain ⟨⟨p0, p1⟩, hp2⟩ : (0 ≤ p ∧ p < n) ∧ SeatOk ns ps := hp
    obtain ⟨⟨t0, t1⟩, ht2⟩ : (0 ≤ t ∧ t < n) ∧ SeatOk ns ts := ht
    rw [div_one hp2 ht2 h2]
    rw [Int.one_mul] at h1
    have : p % n = t % n := Int.emod_eq_emod_iff_emod_sub_eq_zero.mpr (Int.emod_eq_zero_of_dvd h1)
    rw [Int.emod_eq_of_lt p0 p1, Int.emod_eq_of_lt t0 t1] at this
    rw [this]
theorem mir_ok : ∀ {ns p t : List Int}, SeatOk ns p → SeatOk ns t → SeatOk ns (mirL ns p t)
  | [], [], [], _, _ => True.intro
  | n :: ns, p :: ps, t :: ts, hp, ht => by
    obtain ⟨⟨p0, p1⟩, hp2⟩ : (0 ≤ p ∧ p < n) ∧ SeatOk ns ps := hp
    exact ⟨⟨Int.emod_nonneg _ (by omega), Int.emod_lt_of_pos _ (by omega)⟩, mir_ok hp2 ht.2⟩
theorem one_dep {ns t : List Int} (L : LeastL ns [t] (countsL ns [t])) (st : SeatOk ns t) : ∀ (k : Nat) (p : List Int), SeatOk ns p → ((∃ d, dep (countsL ns [t]) p = some d ∧ d ≤ k) ↔ DivL ns (2 ^ k) p t)
  | 0, p, sp => by
    constructor
    · rintro ⟨d, hd, h0⟩
      obtain rfl : d = 0 := by omega
      obtain rfl := List.mem_singleton.mp ((L.zero p).mp hd)
      exact div_self _ st
    · intro h
      obtain rfl := div_one sp st h
      exact ⟨0, (L.zero p).mpr (List.mem_singleton.mpr rfl), Nat.le_refl _⟩
  | k + 1, p, sp => by
    have e2 : (2 : Int) ^ (k + 1) = 2 * 2 ^ k := by rw [Int.pow_succ, Int.mul_comm]
    constructor
    · rintro ⟨d, hd, hk⟩
      cases d with
      | zero =>
        obtain rfl := List.mem_singleton.mp ((L.zero p).mp hd)
        exact div_self _ st
      | succ d =>
        obtain ⟨o, a, b, h1, h2, h3, h4⟩ := L.both p d hd
        have so := L.seat _ _ h1
        have r1 := (one_dep L st k o so).mp ⟨a, h1, by omega⟩
        have r2 := (one_dep L st k _ (L.seat _ _ h2)).mp ⟨b, h2, by omega⟩
        rw [e2]
        exact div_mid sp so st r1 r2
    · intro h
      rw [e2] at h
      have h1 := div_mir sp st h
      have lm := mirL_inv st sp.len
      have sm : SeatOk ns (mirL ns p t) := mir_ok sp st
      obtain ⟨a, ha, hk⟩ := (one_dep L st k _ sm).mpr h1
      obtain ⟨e, he1, he2⟩ := L.least p (mirL ns p t) a 0 sp ha (by rw [lm]; exact (L.zero t).mpr (List.mem_singleton.mpr rfl))
      exact ⟨e, he1, by omega⟩

/-- the larger numbers need many seats -/
theorem LeastL.few {ns : List Int} {tss : List (List Int)} (L : LeastL ns tss (countsL ns tss)) {p : List Int} {d : Nat} (hd : dep (countsL ns tss) p = some d) : d + 1 ≤ (allS ns).length := by
  have ex : ∀ k, ∃ q, k ≤ d → dep (countsL ns tss) q = some k := fun k => by
    by_cases c : k ≤ d
    · obtain ⟨q, hq⟩ := L.below k d p hd c
      exact ⟨q, fun _ => hq⟩
    · exact ⟨[], fun z => absurd z c⟩
  have hf : ∃ f : Nat → List Int, ∀ k, k ≤ d → dep (countsL ns tss) (f k) = some k := ⟨fun k => Classical.choose (ex k), fun k => Classical.choose_spec (ex k)⟩
  obtain ⟨f, hf⟩ := hf
  have nod : ((List.range (d + 1)).map f).Nodup := by
    have : ∀ l : List Nat, (∀ k ∈ l, k ≤ d) → l.Nodup → (l.map f).Nodup := fun l => by
      induction l with
      | nil => exact fun _ _ => List.nodup_nil
      | cons a l ih =>
        intro h n
        obtain ⟨n1, n2⟩ := List.nodup_cons.mp n
        rw [List.map_cons, List.nodup_cons]
        refine ⟨fun z => ?_, ih (fun k hk => h k (List.mem_cons_of_mem _ hk)) n2⟩
        obtain ⟨k, hk, e⟩ := List.mem_map.mp z
        have h1 := hf k (h k (List.mem_cons_of_mem _ hk))
        rw [e, hf a (h a List.mem_cons_self)] at h1
        obtain rfl := Option.some.inj h1
        exact n1 hk
    exact this _ (fun k hk => by have := List.mem_range.mp hk; omega) List.nodup_range
  have := List.Nodup.length_le_of_subset nod (l₂ := allS ns) fun q hq => by
    obtain ⟨k, hk, rfl⟩ := List.mem_map.mp hq
    have := List.mem_range.mp hk
    exact mem_allS.mpr (L.seat _ _ (hf k (by omega)))
  rw [List.length_map, List.length_range] at this
  exact this

theorem paired_ix {α β : Type} {R : α → β → Prop} : ∀ {xs : List α} {ys : List β}, xs.length = ys.length → (∀ (i : Nat) (x : α) (y : β), xs[i]? = some x → ys[i]? = some y → R x y) → Paired R xs ys
  | [], [], _, _ => .nil
  | x :: xs, y :: ys, l, h => .cons (h 0 x y rfl rfl) (paired_ix (by simpa using l) fun i a b ha hb => h (i + 1) a b ha hb)
/-- the keys by their numbers -/
def rowD (fs : List (List Int × Nat)) (ks : List (List Int)) (d : Nat) : List (List Int) := ks.filter fun p => decide (dep fs p = some d)
def sortK (fs : List (List Int × Nat)) : List (List Int) := (keysL fs).mergeSort leT
def laysL (fs : List (List Int × Nat)) : List (List (List Int)) := (List.range (topL fs + 1)).map (rowD fs (sortK fs))
def LayR (H : Hp) (xs : List V) (rows : List (List (List Int))) : Prop := Paired (fun x row => ∃ a, x = V.ref a ∧ RowsAt H a row) xs rows
section
variable {P : Program} {w : World} {K : PySem.W.Frag} {mg : Str → Option Value} {base : Heap}
def sp_check_small_table (C : Addr) : Sp := fun vs H Q _ => ∃ (a : Addr) (q : Bool × Addr) (ns : List Int) (tss : List (List Int)), vs = [.ref a, .ref q.2] ∧ TabAt C H a ns ∧ SzOk ns ∧ prodL ns ≤ 300 ∧ RowsQ H q tss ∧ tss ≠ [] ∧ tss.length ≤ 1000 ∧ (∀ ts ∈ tss, SeatOk ns ts) ∧ tss.Nodup ∧ ∀ H2, Ex H H2 → Q .non H2
theorem ok_check_small_table (T : TX K mg) : FnOk P w K mg base CX0 6 T.f_check_small_table T.fd_check_small_table ["table", "targets"] (sp_check_small_table T.C_Table) := by
  refine T.F_check_small_table.ok sc_check_small_table (fun vs H Q E h => ?_) (fun cdv A outer s H vs Q E hr h => ?_)
  · obtain ⟨a, q, ns, tss, rfl, _⟩ := h
    rfl
  · obtain ⟨a, q, ns, tss, rfl, tab, ok, pr, hq, ne, lt, sks, nod, k⟩ := h
    refine ⟨_, (pss_cons (ps_expr (pe_call (ok_require_table T) hr rfl T.m_require_table T.F_require_table.kp T.b_require_table .nil pass0 (pa_cons (pv 0) pa_nil))) (pss_cons (ps_expr (pe_call (ok_require_targets T) (hr.mono (by decide)) rfl T.m_require_targets T.F_require_targets.kp T.b_require_targets .nil pass0 (pa_cons (pv 0) (pa_cons (pv 1) pa_nil)))) (pss_one (ps_expr (pe_call (ok_require_small T) (hr.mono (by decide)) rfl T.m_require_small T.F_require_small.kp T.b_require_small .nil pass0 (pa_cons (pv 0) pa_nil)))))), ?_⟩
    have l4 := ok.le
    refine ⟨_, rfl, a, ns, rfl, tab, ?_⟩
    refine ⟨_, rfl, _, rfl, a, q, ns, tss, rfl, tab, l4, hq, ne, by omega, sks, nod, fun H1 e1 => ?_⟩
    exact ⟨_, rfl, a, ns, rfl, tab.mono e1, ok, pr, k _ e1⟩
def sp_layers (C : Addr) : Sp := fun vs H Q _ => ∃ (a : Addr) (q : Bool × Addr) (ns : List Int) (tss : List (List Int)), vs = [.ref a, .ref q.2] ∧ TabAt C H a ns ∧ SzOk ns ∧ prodL ns ≤ 300 ∧ RowsQ H q tss ∧ tss ≠ [] ∧ tss.length ≤ 1000 ∧ (∀ ts ∈ tss, SeatOk ns ts) ∧ tss.Nodup ∧
  ∀ (f : Addr) (zs : List V) H2, Ex H H2 → H f = none → H2 f = some (.lst zs) → LayR H2 zs (laysL (countsL ns tss)) → (∀ x ∈ zs, ∃ b, x = V.ref b ∧ H b = none ∧ b ≠ f) → Q (.ref f) H2
theorem ok_layers (T : TX K mg) : FnOk P w K mg base CX0 7 T.f_layers T.fd_layers ["table", "targets"] (sp_layers T.C_Table) := by
  refine T.F_layers.ok sc_layers (fun vs H Q E h => ?_) (fun cdv A outer s H vs Q E hr h => ?_)
  · obtain ⟨a, q, ns, tss, rfl, _⟩ := h
    rfl
  · obtain ⟨a, q, ns, tss, rfl, tab, ok, pr, hq, ne, lt, sks, nod, k⟩ := h
    refine ⟨_, (pss_cons (ps_expr (pe_call (ok_check_small_table T) hr rfl T.m_check_small_table T.F_check_small_table.kp T.b_check_small_table .nil pass0 (pa_cons (pv 0) (pa_cons (pv 1) pa_nil)))) (pss_cons (ps_set (i := 2) sc_layers.nd rfl (Or.inl rfl) (pe_call (ok_call_counts T) (hr.mono (by decide)) rfl T.m_call_counts T.F_call_counts.kp T.b_call_counts .nil pass0 (pa_cons (pv 0) (pa_cons (pv 1) pa_nil)))) (pss_cons (ps_setLc (own := [("depth", 5)]) (g := (gName 5)) (i := 3) rfl sc_layers.nd rfl rfl (sw_true rfl rfl rfl (by decide +kernel)) (pi_range1 rfl T.z_range (pa_cons (pe_op op_add (pe_callB (CD.cr_maxT rfl) (by rfl) T.z_max (by decide +kernel) (pa_cons (pe_bm0 PySem.F.plainAttrs_dict PySem.F.slot_dict_values PySem.F.type_dict_values CD.mt_valuesT (pv 2)) pa_nil)) pe_int) pa_nil)) (blkOk_by (N := N_layers) (sc := defScope s_layers) (by decide +kernel)) (fun _ _ _ _ _ => (pg_name (i := 5) sc_layers.nd rfl (Or.inl rfl))) (fun _ _ _ _ _ => pts_nil) (fun _ _ _ _ _ => (pe_lst pa_nil))) (pss_cons (ps_for PassesOwn.never rfl (pi_list (pe_callB (cr_sortDT rfl (u65 hr)) (by rfl) T.z_sorted (by decide +kernel) (pa_cons (pv 2) pa_nil))) (pg_name (i := 4) sc_layers.nd rfl (Or.inl rfl)) (pss_one (ps_expr (pe_bm PySem.F.plainAttrs_list PySem.F.slot_list_append PySem.F.type_list_append mt_append (pe_ix ix_list (pv 3) (pe_dget (hu_of hr) (pv 2) (pv 4) (fun _ _ => rfl)) (fun _ _ => rfl)) (pa_cons (pv 4) pa_nil))))) (pss_one (ps_ret (pv 3))))))), ?_⟩
    refine ⟨_, rfl, _, rfl, a, q, ns, tss, rfl, tab, ok, pr, hq, ne, lt, sks, nod, fun H1 e1 => ?_⟩
    refine ⟨_, rfl, _, rfl, a, q, ns, tss, rfl, tab.mono e1, ok, pr, hq.mono e1, ne, lt, sks, nod, fun D H2 e2 nD hD => ?_⟩
    dsimp only [gName]
    obtain ⟨d0, gd⟩ := counts_good sks nod
    have fne : countsL ns tss ≠ [] := counts_ne ne
    generalize hfs : countsL ns tss = fs at hD gd fne k
    have E2 := ext e1 e2
    have lfs : fs.length ≤ 300 := by
      have h1 : (keysL fs).length ≤ (allS ns).length := List.Nodup.length_le_of_subset gd.nod fun p hp => by
        obtain ⟨e, he⟩ := mem_keys hp
        exact mem_allS.mpr (gd.seat _ he)
      have h2 := allS_len ok.one
      rw [List.length_map] at h1
      omega
    have ltop : topL fs ≤ 300 := by
      have hb := counts_least sks nod ne
      by_cases c : topL fs = 0
      · omega
      obtain ⟨_, _, h3⟩ := fold_top fs 0
      rcases h3 with h3 | ⟨f, hf, h3⟩
      · exact absurd h3 c
      · have hdp : dep (countsL ns tss) f.1 = some f.2 := by rw [hfs]; exact dep_mem gd.nod hf
        have := hb.few hdp
        have h2 := allS_len ok.one
        unfold topL
        omega
    refine ⟨_, rfl, .inr (.inr (.inl ⟨rfl, .inr ⟨_, hD⟩⟩)), D, _, rfl, rfl, hD, fun vv hvv => ?_⟩
    generalize hG1 : upd H2 vv _ = H3
    have e3 := exG hG1 hvv
    have hv3 := atG hG1
    clear hG1
    refine ⟨vv, D, _, fs.map fun q => (q.2 : Int), rfl, hv3, e3 _ _ hD, by rw [List.map_map, List.map_map]; rfl, (fun z => fne (List.map_eq_nil_iff.mp z)), fun m hm1 hm2 => ?_⟩
    obtain rfl := top_is fne hm1 hm2
    refine ⟨_, _, rfl, rfl, _, rfl, by omega, by omega, fun L hL => ?_⟩
    have E3 := ext E2 e3
    refine lc_it walk_range (fun i Hx => ∃ as : List Addr, Hx L = some (.lst (as.map V.ref)) ∧ as.length = i ∧ as.Nodup ∧ (∀ a ∈ as, a ≠ L ∧ H3 a = none ∧ Hx a = some (.lst [])) ∧ Ex H3 Hx) ⟨[], upd_same, rfl, List.nodup_nil, by simp, exn hL⟩ (fun _ _ _ _ => True.intro) ?_ ?_
    · rintro i x Hx _ hi ⟨as, hLx, las, nda, hz, ex⟩ ⟨rfl, hx⟩
      refine ⟨rfl, slen rfl, ?_⟩
      (intro zz nzz; generalize hGzz : upd _ zz _ = H5; have eH5 := exG hGzz nzz; have hzz := atG hGzz; clear hGzz)
      have hL5 := eH5 _ _ hLx
      have nzL : zz ≠ L := (ne_of_none hLx nzz).symm
      have nza : zz ∉ as := fun z => by
        have := (hz zz z).2.2
        rw [nzz] at this
        cases this
      refine ⟨as.map V.ref, hL5, ?_, as ++ [zz], ?_, by rw [List.length_append, las]; rfl, ?_, fun a ha => ?_, ex_upd (ext ex eH5) hL⟩
      · rw [List.length_map, las]
        have h9 : i < ((topL fs : Int) + 1).toNat := hi
        exact Nat.lt_of_le_of_lt (show i ≤ 301 by omega) (by decide)
      · rw [upd_same, List.map_append]
        rfl
      · rw [List.nodup_append]
        exact ⟨nda, by simp, fun a ha b hb z => nza (by rw [← List.mem_singleton.mp hb, ← z]; exact ha)⟩
      · rcases List.mem_append.mp ha with h | h
        · obtain ⟨h1, h2, h3⟩ := hz a h
          exact ⟨h1, h2, by rw [upd_ne h1]; exact eH5 _ _ h3⟩
        · rw [List.mem_singleton.mp h]
          exact ⟨nzL, Evl.fresh_back ex nzz, by rw [upd_ne nzL]; exact hzz⟩
    rintro Hy ⟨as, hLy, las, nda, hz, ey⟩
    dsimp only [gName]
    have hDy : CntAt Hy D fs := (hD.mono e3).mono ey
    refine ⟨_, rfl, D, _, keysL fs, rfl, hDy, ?_, fun ts hts z => ?_, fun ys p rows hp => ⟨p, rfl, ⟨_, SqL.of upd_same⟩, ?_⟩⟩
    · rw [List.map_map, List.map_map]
      rfl
    · obtain ⟨e, he⟩ := mem_keys hts
      have := (gd.seat _ he).len
      rw [z] at this
      exact ok.1 (List.length_eq_zero_iff.mp this.symm)
    generalize hG6 : upd Hy p (.lst ys) = H6
    have e6 := exG hG6 hp
    have hp6 := atG hG6
    clear hG6
    have rows6 := rows.mono e6
    have hL6 := e6 _ _ hLy
    have hD6 := hDy.mono e6
    have E6 := ext E3 (ext ey e6)
    have lys : ys.length = fs.length := by
      have h := Paired.length rows
      unfold sortK at *
      rw [List.length_mergeSort, List.length_map] at h
      exact h
    have a0 : ∀ b ∈ as, H b = none := fun b hb => Evl.fresh_back E3 (hz b hb).2.1
    have a6 : ∀ b ∈ as, H6 b = some (.lst []) := fun b hb => e6 _ _ (hz b hb).2.2
    have aL : ∀ b ∈ as, b ≠ L := fun b hb => (hz b hb).1
    have ap : ∀ b ∈ as, b ≠ p := fun b hb => ne_of_none (hz b hb).2.2 hp
    have aD : ∀ b ∈ as, b ≠ D := fun b hb => ne_of (a6 b hb) hD6 (by intro z; cases z)
    have las2 : as.length = topL fs + 1 := by rw [las]; omega
    refine for_it (walk_list (xs := ys)) (fun i σ Hx => ∃ y4 : Option V, σ = [some (.ref a), some (.ref q.2), some (.ref D), some (.ref L), y4, none] ∧ Ex H Hx ∧ Hx p = some (.lst ys) ∧ RowsR Hx ys (sortK fs) ∧ Hx L = some (.lst (as.map V.ref)) ∧ CntAt Hx D fs ∧ ∀ (d : Nat) (b : Addr), as[d]? = some b → ∃ zs, Hx b = some (.lst zs) ∧ zs.length ≤ i ∧ RowsR Hx zs (rowD fs ((sortK fs).take i) d)) ⟨_, rfl, E6, hp6, rows6, hL6, hD6, fun d b hb => ⟨[], a6 b (List.mem_of_getElem? hb), Nat.le_refl _, .nil⟩⟩ (fun i σ Hx _ ⟨_, _, _, h, _⟩ => SqL.of h) ?_ ?_
    · rintro i x σ _ Hx hi ⟨y4, rfl, ex, hpx, rwx, hLx, hDx, hr⟩ ⟨rfl, hx⟩
      obtain ⟨ts, r, hts, rfl, hrr⟩ := rwx.get hx
      have htk : ts ∈ keysL fs := List.mem_mergeSort.mp (List.mem_of_getElem? hts)
      obtain ⟨d, hd⟩ := mem_keys htk
      have hdp := dep_mem gd.nod hd
      have dt : d ≤ topL fs := (fold_top fs 0).2.1 _ hd
      obtain ⟨b, hb⟩ : ∃ b, as[d]? = some b := ⟨as[d], List.getElem?_eq_getElem (by omega)⟩
      have hbm := List.mem_of_getElem? hb
      obtain ⟨zs, hz1, hz2, hz3⟩ := hr d b hb
      have hg := cnt_get hDx hrr
      rw [show dep fs ts = some d from hdp] at hg
      dsimp only [gName]
      refine ⟨_, rfl, _, rfl, _, rfl, D, V.int (d : Int), rfl, hg, L, _, _, V.ref b, rfl, rfl, SqL.of hLx, L2.atI_nat (by rw [List.getElem?_map, hb]; rfl), ?_⟩
      refine ⟨.inl ⟨rfl, _, SqL.of hz1⟩, _, rfl, b, _, _, rfl, rfl, hz1, Nat.lt_of_le_of_lt (show zs.length ≤ 300 by have h9 : i < ys.length := hi; omega) (by decide), ?_⟩
      have tpn : ∀ c ws, Hx c = some (.tup ws) → upd Hx b (.lst (zs ++ [.ref r])) c = some (.tup ws) := fun c ws z => tup_pshL hz1 z
      refine ⟨_, rfl, ex_upd ex (a0 b hbm), ?_, rwx.monoT tpn, ?_, ?_, fun d2 b2 hb2 => ?_⟩
      · rw [upd_ne (Ne.symm (ap b hbm))]
        exact hpx
      · rw [upd_ne (Ne.symm (aL b hbm))]
        exact hLx
      · show upd _ _ _ _ = _
        rw [upd_ne (Ne.symm (aD b hbm))]
        exact hDx
      · have er : rowD fs ((sortK fs).take (i + 1)) d2 = rowD fs ((sortK fs).take i) d2 ++ if d2 = d then [ts] else [] := by
          unfold rowD
          rw [take_more hts, List.filter_append]
          congr 1
          by_cases c : d2 = d
          · rw [if_pos c, c]
            simp [show dep fs ts = some d from hdp]
          · rw [if_neg c]
            have : ¬ d = d2 := fun z => c z.symm
            simp [show dep fs ts = some d from hdp, this]
        rw [er]
        by_cases c : d2 = d
        · subst c
          obtain rfl : b2 = b := Option.some.inj (hb2.symm.trans hb)
          rw [if_pos rfl]
          exact ⟨zs ++ [.ref r], upd_same, by rw [List.length_append]; show _ + 1 ≤ _; omega, RowsR.snoc (tpn _ _ hrr) (hz3.monoT tpn)⟩
        · rw [if_neg c, List.append_nil]
          obtain ⟨ws, g1, g2, g3⟩ := hr d2 b2 hb2
          have nb : b2 ≠ b := fun z => c ((List.getElem?_inj (List.getElem?_eq_some_iff.mp hb2).1 nda).mp (hb2.trans (by rw [z, hb])))
          exact ⟨ws, by rw [upd_ne nb]; exact g1, by omega, g3.monoT tpn⟩
    · rintro σ Hx ⟨y4, rfl, ex, hpx, rwx, hLx, hDx, hr⟩
      refine ⟨_, rfl, k L _ Hx ex (Evl.fresh_back E3 hL) hLx ?_ fun x hx => ?_⟩
      rotate_left
      · obtain ⟨b, hb, rfl⟩ := List.mem_map.mp hx
        exact ⟨b, rfl, a0 b hb, aL b hb⟩
      unfold LayR laysL
      refine paired_ix (by rw [List.length_map, List.length_map, List.length_range, las2]) fun d x row hx hrow => ?_
      rw [List.getElem?_map] at hx hrow
      obtain ⟨b, hb, rfl⟩ := Option.map_eq_some_iff.mp hx
      have hdl : d < topL fs + 1 := by
        have := (List.getElem?_eq_some_iff.mp hb).1
        omega
      rw [List.getElem?_range hdl] at hrow
      obtain rfl := Option.some.inj hrow
      obtain ⟨zs, g1, _, g3⟩ := hr d b hb
      rw [List.take_of_length_le (by unfold sortK; rw [List.length_mergeSort, List.length_map]; omega)] at g3
      exact ⟨b, rfl, zs, g1, g3⟩
end

/-! ### the orders of sorted: tuples of ints, pairs of an int and a tuple -/
theorem ltT_is (a b : List Int) : PySem.W.dataLt (iT a) (iT b) = decide (a < b) := by
  show PySem.W.dataLt (.tuple (a.map .int)) (.tuple (b.map .int)) = _
  rw [PySem.W.dataLt_tuple]
  exact PySem.W.dataLt_ints a b
theorem leT_is (a b : List Int) : leT a b = decide (a ≤ b) := by
  show (!PySem.W.dataLt (iT b) (iT a)) = _
  rw [ltT_is]
  by_cases h : b < a
  · have h' : ¬ a ≤ b := fun r => List.not_lt.mpr r h
    simp [h, h']
  · have h' : a ≤ b := List.not_lt.mp h
    simp [h, h']
theorem leT_trans (a b c : List Int) (h1 : leT a b = true) (h2 : leT b c = true) : leT a c = true := by
  rw [leT_is] at *
  exact decide_eq_true (List.le_trans (of_decide_eq_true h1) (of_decide_eq_true h2))
theorem leT_total (a b : List Int) : (leT a b || leT b a) = true := by
  rw [leT_is, leT_is, Bool.or_eq_true, decide_eq_true_iff, decide_eq_true_iff]
  exact List.le_total a b
theorem leT_anti {a b : List Int} (h1 : leT a b = true) (h2 : leT b a = true) : a = b := by
  rw [leT_is] at *
  exact List.le_antisymm (of_decide_eq_true h1) (of_decide_eq_true h2)
theorem sortT_same {l m : List (List Int)} (h : l.Perm m) : l.mergeSort leT = m.mergeSort leT :=
  List.Perm.eq_of_pairwise (le := fun a b => leT a b = true) (fun a b _ _ h1 h2 => leT_anti h1 h2) (List.pairwise_mergeSort leT_trans leT_total l) (List.pairwise_mergeSort leT_trans leT_total m) (((List.mergeSort_perm l leT).trans h).trans (List.mergeSort_perm m leT).symm)
theorem sortT_id {l : List (List Int)} (h : l.Pairwise fun a b => leT a b = true) : l.mergeSort leT = l :=
  List.Perm.eq_of_pairwise (le := fun a b => leT a b = true) (fun a b _ _ h1 h2 => leT_anti h1 h2) (List.pairwise_mergeSort leT_trans leT_total l) h (List.mergeSort_perm l leT)
theorem leP_is (a b : IPr) : leP a b = decide (a.1 < b.1 ∨ (a.1 = b.1 ∧ a.2 ≤ b.2)) := by
  show (!PySem.W.dataLt (.tuple [.int b.1, iT b.2]) (.tuple [.int a.1, iT a.2])) = _
  rw [PySem.W.dataLt_pair (by simp [PySem.W.alike]) (alike_iT _ _), PySem.W.dataLt_int, ltT_is, eqv_ints]
  simp only [PyData.eqv, beq_iff_eq]
  by_cases h1 : b.1 = a.1
  · rw [if_pos h1]
    by_cases h2 : b.2 = a.2
    · rw [if_pos (decide_eq_true h2)]
      have : a.2 ≤ b.2 := by rw [h2]; exact List.le_refl _
      simp [h1, this]
    · rw [if_neg (by simpa using h2)]
      by_cases h : b.2 < a.2
      · have h' : ¬ a.2 ≤ b.2 := fun r => List.not_lt.mpr r h
        simp [h, h', h1]
      · have h' : a.2 ≤ b.2 := List.not_lt.mp h
        simp [h, h', h1]
  · rw [if_neg h1]
    by_cases h : b.1 < a.1
    · have e1 : ¬ a.1 < b.1 := by omega
      have e2 : ¬ a.1 = b.1 := by omega
      simp [h, e1, e2]
    · have e1 : a.1 < b.1 := by omega
      simp [h, e1]
theorem leP_trans (a b c : IPr) (h1 : leP a b = true) (h2 : leP b c = true) : leP a c = true := by
  rw [leP_is] at *
  have h1 := of_decide_eq_true h1
  have h2 := of_decide_eq_true h2
  refine decide_eq_true ?_
  rcases h1 with h1 | ⟨h1, g1⟩
  · rcases h2 with h2 | ⟨h2, g2⟩
    · exact .inl (by omega)
    · exact .inl (by omega)
  · rcases h2 with h2 | ⟨h2, g2⟩
    · exact .inl (by omega)
    · exact .inr ⟨by omega, List.le_trans g1 g2⟩
theorem leP_total (a b : IPr) : (leP a b || leP b a) = true := by
  rw [leP_is, leP_is, Bool.or_eq_true, decide_eq_true_iff, decide_eq_true_iff]
  rcases List.le_total a.2 b.2 with h | h
  · by_cases c : a.1 ≤ b.1
    · by_cases d : a.1 = b.1
      · exact .inl (.inr ⟨d, h⟩)
      · exact .inl (.inl (by omega))
    · exact .inr (.inl (by omega))
  · by_cases c : b.1 ≤ a.1
    · by_cases d : a.1 = b.1
      · exact .inr (.inr ⟨d.symm, h⟩)
      · exact .inr (.inl (by omega))
    · exact .inl (.inl (by omega))
theorem leP_fst {a b : IPr} (h : leP a b = true) : a.1 ≤ b.1 := by
  rw [leP_is] at h
  rcases of_decide_eq_true h with h | ⟨h, _⟩ <;> omega
theorem leP_anti {a b : IPr} (h1 : leP a b = true) (h2 : leP b a = true) : a = b := by
  rw [leP_is] at *
  have h1 := of_decide_eq_true h1
  have h2 := of_decide_eq_true h2
  obtain ⟨x, p⟩ := a
  obtain ⟨y, q⟩ := b
  rcases h1 with h1 | ⟨h1, g1⟩
  · rcases h2 with h2 | ⟨h2, g2⟩ <;> simp only at h1 h2 <;> omega
  · rcases h2 with h2 | ⟨h2, g2⟩
    · simp only at h1 h2
      omega
    · simp only at h1 g1 g2
      rw [h1, List.le_antisymm g1 g2]
theorem sortP_same {l m : List IPr} (h : l.Perm m) : l.mergeSort leP = m.mergeSort leP :=
  List.Perm.eq_of_pairwise (le := fun a b => leP a b = true) (fun a b _ _ h1 h2 => leP_anti h1 h2) (List.pairwise_mergeSort leP_trans leP_total l) (List.pairwise_mergeSort leP_trans leP_total m) (((List.mergeSort_perm l leP).trans h).trans (List.mergeSort_perm m leP).symm)
theorem sortP_fst (l : List IPr) : (l.mergeSort leP).Pairwise fun a b => a.1 ≤ b.1 := (List.pairwise_mergeSort leP_trans leP_total l).imp fun h => leP_fst h

/-- all seats stand in order -/
theorem lt_app {a b : List Int} (x y : List Int) (l : a.length = b.length) (h : a < b) : a ++ x < b ++ y := by
  induction a generalizing b with
  | nil =>
    cases b with
    | nil => exact absurd h (List.lt_irrefl _)
    | cons => cases l
  | cons c a ih =>
    cases b with
    | nil => cases l
    | cons d b =>
      rw [List.cons_append, List.cons_append, List.cons_lt_cons_iff]
      rcases List.cons_lt_cons_iff.mp h with h | ⟨h1, h2⟩
      · exact .inl h
      · exact .inr ⟨h1, ih (by simpa using l) h2⟩
theorem app_lt {x y : List Int} (h : x < y) : ∀ a : List Int, a ++ x < a ++ y
  | [] => h
  | c :: a => by
    rw [List.cons_append, List.cons_append, List.cons_lt_cons_iff]
    exact .inr ⟨rfl, app_lt h a⟩
theorem crossS_lt {hss : List (List Int)} {k : Nat} (n : Int) (len : ∀ h ∈ hss, h.length = k) (h : hss.Pairwise (· < ·)) : (crossS hss n).Pairwise (· < ·) := by
  unfold crossS
  rw [List.pairwise_flatMap]
  constructor
  · intro hs _
    rw [List.pairwise_map]
    refine List.Pairwise.imp (fun {a b} z => app_lt ?_ hs) List.pairwise_lt_range
    rw [List.cons_lt_cons_iff]
    exact .inl (by omega)
  · refine List.Pairwise.imp_of_mem (fun {a b} ha hb z x hx y hy => ?_) h
    obtain ⟨i, _, rfl⟩ := List.mem_map.mp hx
    obtain ⟨j, _, rfl⟩ := List.mem_map.mp hy
    exact lt_app _ _ ((len a ha).trans (len b hb).symm) z
theorem foldS_lt : ∀ (ns : List Int) (hss : List (List Int)) (k : Nat), (∀ h ∈ hss, h.length = k) → hss.Pairwise (· < ·) → (ns.foldl crossS hss).Pairwise (· < ·)
  | [], _, _, _, h => h
  | n :: ns, hss, k, len, h => by
    rw [List.foldl_cons]
    refine foldS_lt ns _ (k + 1) (fun x hx => ?_) (crossS_lt n len h)
    unfold crossS at hx
    obtain ⟨a, ha, hx⟩ := List.mem_flatMap.mp hx
    obtain ⟨i, _, rfl⟩ := List.mem_map.mp hx
    rw [List.length_append, len a ha]
    rfl
theorem allS_lt (ns : List Int) : (allS ns).Pairwise (· < ·) := foldS_lt ns [[]] 0 (fun h hh => by rw [List.mem_singleton.mp hh]; rfl) (List.pairwise_singleton _ _)
theorem allS_leT (ns : List Int) : (allS ns).Pairwise fun a b => leT a b = true := (allS_lt ns).imp fun {a b} h => by
  rw [leT_is]
  exact decide_eq_true (List.le_of_lt h)

/-- the sorted keys are the seats that have a number, in the order of all seats -/
theorem sortK_is {ns : List Int} {fs : List (List Int × Nat)} (nod : (keysL fs).Nodup) (seat : ∀ q ∈ fs, SeatOk ns q.1) : sortK fs = (allS ns).filter fun p => decide (p ∈ keysL fs) := by
  unfold sortK
  have hp : (keysL fs).Perm ((allS ns).filter fun p => decide (p ∈ keysL fs)) := by
    refine (List.perm_ext_iff_of_nodup nod ((allS_nodup ns).filter _)).mpr fun p => ?_
    rw [List.mem_filter]
    constructor
    · intro h
      obtain ⟨e, he⟩ := mem_keys h
      exact ⟨mem_allS.mpr (seat _ he), decide_eq_true h⟩
    · rintro ⟨_, h⟩
      exact of_decide_eq_true h
  rw [sortT_same hp]
  exact sortT_id ((allS_leT ns).filter _)
theorem rowD_is {ns : List Int} {fs : List (List Int × Nat)} (nod : (keysL fs).Nodup) (seat : ∀ q ∈ fs, SeatOk ns q.1) (d : Nat) : rowD fs (sortK fs) d = (allS ns).filter fun p => decide (dep fs p = some d) := by
  unfold rowD
  rw [sortK_is nod seat, List.filter_filter]
  refine List.filter_congr fun p _ => ?_
  by_cases c : dep fs p = some d
  · have : p ∈ keysL fs := by
      have := dep_isSome (fs := fs) (p := p)
      rw [c] at this
      exact of_decide_eq_true this.symm
    simp [c, this]
  · simp [c]

def PdS (H : Hp) (x : V) (e : List Int × Nat) : Prop := ∃ r c, x = V.ref r ∧ H r = some (.tup [.ref c, .int (e.2 : Int)]) ∧ H c = some (.tup (e.1.map V.int))
theorem pds_mono (H H2 : Hp) (v : V) (a : List Int × Nat) (e : ∀ c xs, H c = some (.tup xs) → H2 c = some (.tup xs)) (h : PdS H v a) : PdS H2 v a := by
  obtain ⟨r, c, h1, h2, h3⟩ := h
  exact ⟨r, c, h1, e _ _ h2, e _ _ h3⟩

theorem merge_any : ∀ {more fs : List (List Int × Nat)}, (keysL more).Nodup → (∀ p ∈ keysL more, p ∉ keysL fs) → CD.mergeT (fs.map entV) (more.map entV) = (fs ++ more).map entV
  | [], fs, _, _ => by simp [CD.mergeT]
  | f :: more, fs, nod, h => by
    have hp := h f.1 List.mem_cons_self
    obtain ⟨n1, n2⟩ := List.nodup_cons.mp (show (f.1 :: keysL more).Nodup from nod)
    show CD.mergeT (putK (fs.map entV) (entK f.1) (V.int (f.2 : Int))) (more.map entV) = _
    rw [putK_new _ (by rw [val_ent, dep_none hp]; rfl), show fs.map entV ++ [(entK f.1, V.int (f.2 : Int))] = (fs ++ [f]).map entV by rw [List.map_append]; rfl, merge_any n2 (fun p hp2 z => ?_), List.append_assoc]
    · rfl
    · rw [keys_app] at z
      rcases List.mem_append.mp z with z | z
      · exact h p (List.mem_cons_of_mem _ hp2) z
      · exact n1 (by rw [← show p = f.1 from List.mem_singleton.mp z]; exact hp2)
theorem prs_of {H : Hp} {xs : List V} {zs : List (List Int × Nat)} (h : Paired (PdS H) xs zs) : Paired (CD.PrT H) xs (zs.map entV) := by
  induction h with
  | nil => exact .nil
  | cons h t ih =>
    obtain ⟨r, c, h1, h2, h3⟩ := h
    exact .cons ⟨r, c, h1, h2, by rw [entK_kV]; exact h3⟩ ih

/-! ### the numbers of all seats, row by row -/
def LK (fs : List (List Int × Nat)) (i : Nat) : List (List Int × Nat) := (List.range i).flatMap fun d => atD d (rowD fs (sortK fs) d)
theorem LK_succ (fs : List (List Int × Nat)) (i : Nat) : LK fs (i + 1) = LK fs i ++ atD i (rowD fs (sortK fs) i) := by
  unfold LK
  rw [List.range_succ, List.flatMap_append]
  simp
theorem mem_rowD {fs : List (List Int × Nat)} {d : Nat} {p : List Int} : p ∈ rowD fs (sortK fs) d ↔ dep fs p = some d := by
  unfold rowD
  rw [List.mem_filter, decide_eq_true_iff]
  refine ⟨fun h => h.2, fun h => ⟨?_, h⟩⟩
  unfold sortK
  refine (List.mergeSort_perm _ _).mem_iff.mpr ?_
  have := dep_isSome (fs := fs) (p := p)
  rw [h] at this
  exact of_decide_eq_true this.symm
theorem rowD_nod {fs : List (List Int × Nat)} (nod : (keysL fs).Nodup) (d : Nat) : (rowD fs (sortK fs) d).Nodup := by
  unfold rowD sortK
  exact ((List.mergeSort_perm _ _).nodup_iff.mpr nod).filter _
theorem LK_key {fs : List (List Int × Nat)} : ∀ {i : Nat} {p : List Int}, p ∈ keysL (LK fs i) → ∃ d, d < i ∧ dep fs p = some d
  | 0, _, h => nomatch h
  | i + 1, p, h => by
    rw [LK_succ, keys_app, keys_atD] at h
    rcases List.mem_append.mp h with h | h
    · obtain ⟨d, h1, h2⟩ := LK_key h
      exact ⟨d, by omega, h2⟩
    · exact ⟨i, by omega, mem_rowD.mp h⟩
theorem LK_fresh {fs : List (List Int × Nat)} {i : Nat} : ∀ p ∈ keysL (atD i (rowD fs (sortK fs) i)), p ∉ keysL (LK fs i) := fun p hp z => by
  rw [keys_atD] at hp
  obtain ⟨d, h1, h2⟩ := LK_key z
  rw [mem_rowD.mp hp] at h2
  have := Option.some.inj h2
  omega
theorem LK_nod {fs : List (List Int × Nat)} (nod : (keysL fs).Nodup) : ∀ i, (keysL (LK fs i)).Nodup
  | 0 => List.nodup_nil
  | i + 1 => by
    rw [LK_succ, keys_app]
    refine List.nodup_append.mpr ⟨LK_nod nod i, by rw [keys_atD]; exact rowD_nod nod i, fun x hx y hy e => LK_fresh y hy (e ▸ hx)⟩
theorem LK_mem {fs : List (List Int × Nat)} {p : List Int} {d : Nat} (h : dep fs p = some d) : ∀ {i : Nat}, d < i → (p, d) ∈ LK fs i
  | 0, h => by omega
  | i + 1, l => by
    rw [LK_succ]
    by_cases c : d < i
    · exact List.mem_append_left _ (LK_mem h c)
    · obtain rfl : d = i := by omega
      exact List.mem_append_right _ (List.mem_map_of_mem (f := fun p => (p, d)) (mem_rowD.mpr h))
theorem LK_dep {fs : List (List Int × Nat)} (nod : (keysL fs).Nodup) {p : List Int} {d i : Nat} (h : dep fs p = some d) (l : d < i) : dep (LK fs i) p = some d := dep_mem (q := (p, d)) (LK_nod nod i) (LK_mem h l)
theorem LK_len {fs : List (List Int × Nat)} (nod : (keysL fs).Nodup) (i : Nat) : (LK fs i).length ≤ fs.length := by
  have h := (LK_nod nod i).length_le_of_subset (l₂ := keysL fs) fun p hp => by
    obtain ⟨d, _, h⟩ := LK_key hp
    have := dep_isSome (fs := fs) (p := p)
    rw [h] at this
    exact of_decide_eq_true this.symm
  rw [List.length_map, List.length_map] at h
  exact h
theorem val_le {fs : List (List Int × Nat)} {M : Int} (h : ∀ j ∈ fs.map fun f => (f.2 : Int), j ≤ M) {q : List Int} {d : Nat} (hd : dep fs q = some d) : (d : Int) ≤ M := h _ (List.mem_map_of_mem (f := fun f : List Int × Nat => (f.2 : Int)) (mem_dep hd))
theorem top_ge {fs : List (List Int × Nat)} {p : List Int} {d : Nat} (h : dep fs p = some d) : d ≤ topL fs := (fold_top fs 0).2.1 _ (mem_dep h)
theorem paired_cat {α β : Type} {R : α → β → Prop} : ∀ {xs : List α} {ys : List β} {us : List α} {ws : List β}, Paired R xs ys → Paired R us ws → Paired R (xs ++ us) (ys ++ ws)
  | _, _, _, _, .nil, h => h
  | _, _, _, _, .cons h t, h2 => .cons h (paired_cat t h2)
theorem paired_filt {α β : Type} {R : α → β → Prop} (p : β → Bool) : ∀ {xs : List α} {ys : List β}, Paired R xs ys → Paired R (((xs.zip ys).filter fun z => p z.2).map fun z => z.1) (ys.filter p)
  | _, _, .nil => .nil
  | _, _, .cons (a := x) (b := y) h t => by
    rw [List.zip_cons_cons, List.filter_cons, List.filter_cons]
    by_cases c : p y = true
    · rw [if_pos c, if_pos c]
      exact .cons h (paired_filt p t)
    · rw [if_neg c, if_neg c]
      exact paired_filt p t
theorem paired_drop' {α β : Type} {R : α → β → Prop} : ∀ (n : Nat) {xs : List α} {ys : List β}, Paired R xs ys → Paired R (xs.drop n) (ys.drop n)
  | 0, _, _, h => h
  | _ + 1, _, _, .nil => .nil
  | n + 1, _, _, .cons _ t => paired_drop' n t

/-! ### layers from the first layers, and one more target -/
theorem near_some {o : Option Nat} {P : Nat → Prop} (h : ∃ d, o = some d ∧ P d) : ∃ d, o = some d ∧ P d := h
section
variable {ns : List Int} {T S : List (List Int)} {fs gs : List (List Int × Nat)} {i : Nat}
/-- seats of the first layers as targets: nobody needs more than what is left -/
theorem shift_le (L : LeastL ns T fs) (M : LeastL ns S gs) (hS : ∀ q, q ∈ S ↔ ∃ d, dep fs q = some d ∧ d ≤ i) : ∀ (d : Nat) (q : List Int), dep fs q = some d → ∃ e, dep gs q = some e ∧ e ≤ d - i := by
  intro d
  induction d using Nat.strongRecOn with
  | ind d ih =>
    intro q hq
    by_cases c : d ≤ i
    · exact ⟨0, (M.zero q).mpr ((hS q).mpr ⟨d, hq, c⟩), Nat.zero_le _⟩
    · obtain ⟨d1, rfl⟩ : ∃ d1, d = d1 + 1 := ⟨d - 1, by omega⟩
      obtain ⟨o, a, b, ha, hb, la, lb⟩ := L.both q d1 hq
      obtain ⟨a2, ha2, la2⟩ := ih a (by omega) o ha
      obtain ⟨b2, hb2, lb2⟩ := ih b (by omega) _ hb
      obtain ⟨e, he, le⟩ := M.least q o a2 b2 (L.seat q _ hq) ha2 hb2
      exact ⟨e, he, by omega⟩
theorem shift_ge (L : LeastL ns T fs) (M : LeastL ns S gs) (hS : ∀ q, q ∈ S ↔ ∃ d, dep fs q = some d ∧ d ≤ i) : ∀ (e : Nat) (q : List Int), dep gs q = some e → ∃ d, dep fs q = some d ∧ d ≤ e + i := by
  intro e
  induction e using Nat.strongRecOn with
  | ind e ih =>
    intro q hq
    cases e with
    | zero =>
      obtain ⟨d, hd, ld⟩ := (hS q).mp ((M.zero q).mp hq)
      exact ⟨d, hd, by omega⟩
    | succ e =>
      obtain ⟨o, a, b, ha, hb, la, lb⟩ := M.both q e hq
      obtain ⟨a2, ha2, la2⟩ := ih a (by omega) o ha
      obtain ⟨b2, hb2, lb2⟩ := ih b (by omega) _ hb
      obtain ⟨d, hd, ld⟩ := L.least q o a2 b2 (M.seat q _ hq) ha2 hb2
      exact ⟨d, hd, by omega⟩
theorem shift_is (L : LeastL ns T fs) (M : LeastL ns S gs) (hS : ∀ q, q ∈ S ↔ ∃ d, dep fs q = some d ∧ d ≤ i) (q : List Int) : dep gs q = (dep fs q).map (· - i) := by
  cases hf : dep fs q with
  | some d =>
    obtain ⟨e, he, le⟩ := shift_le L M hS d q hf
    obtain ⟨d2, hd2, ld2⟩ := shift_ge L M hS e q he
    rw [hf] at hd2
    obtain rfl := Option.some.inj hd2
    rw [he]
    show some e = some (d - i)
    by_cases c : d ≤ i
    · have := (M.zero q).mpr ((hS q).mpr ⟨d, hf, c⟩)
      rw [he] at this
      have := Option.some.inj this
      rw [show e = d - i by omega]
    · rw [show e = d - i by omega]
  | none =>
    cases hg : dep gs q with
    | none => rfl
    | some e =>
      obtain ⟨d, hd, _⟩ := shift_ge L M hS e q hg
      rw [hf] at hd
      cases hd
/-- more targets: nobody needs more -/
theorem more_le (L : LeastL ns T fs) (M : LeastL ns S gs) (hS : ∀ q ∈ T, q ∈ S) : ∀ (d : Nat) (q : List Int), dep fs q = some d → ∃ e, dep gs q = some e ∧ e ≤ d := by
  intro d
  induction d using Nat.strongRecOn with
  | ind d ih =>
    intro q hq
    cases d with
    | zero => exact ⟨0, (M.zero q).mpr (hS q ((L.zero q).mp hq)), Nat.le_refl _⟩
    | succ d =>
      obtain ⟨o, a, b, ha, hb, la, lb⟩ := L.both q d hq
      obtain ⟨a2, ha2, la2⟩ := ih a (by omega) o ha
      obtain ⟨b2, hb2, lb2⟩ := ih b (by omega) _ hb
      obtain ⟨e, he, le⟩ := M.least q o a2 b2 (L.seat q _ hq) ha2 hb2
      exact ⟨e, he, by omega⟩
/-- a new target saves no more than it needed -/
theorem more_ge {s : List Int} {k : Nat} (L : LeastL ns T fs) (M : LeastL ns S gs) (hS : ∀ q ∈ S, q ∈ T ∨ q = s) (hs : dep fs s = some k) : ∀ (e : Nat) (q : List Int), dep gs q = some e → ∃ d, dep fs q = some d ∧ d ≤ e + k := by
  intro e
  induction e using Nat.strongRecOn with
  | ind e ih =>
    intro q hq
    cases e with
    | zero =>
      rcases hS q ((M.zero q).mp hq) with h | h
      · exact ⟨0, (L.zero q).mpr h, Nat.zero_le _⟩
      · rw [h]
        exact ⟨k, hs, by omega⟩
    | succ e =>
      obtain ⟨o, a, b, ha, hb, la, lb⟩ := M.both q e hq
      obtain ⟨a2, ha2, la2⟩ := ih a (by omega) o ha
      obtain ⟨b2, hb2, lb2⟩ := ih b (by omega) _ hb
      obtain ⟨d, hd, ld⟩ := L.least q o a2 b2 (M.seat q _ hq) ha2 hb2
      exact ⟨d, hd, by omega⟩
end
/-- seats with some number -/
theorem key_iff {fs : List (List Int × Nat)} {q : List Int} : q ∈ keysL fs ↔ ∃ d, dep fs q = some d := by
  have := dep_isSome (fs := fs) (p := q)
  constructor
  · intro h
    rw [decide_eq_true h] at this
    exact Option.isSome_iff_exists.mp this
  · rintro ⟨d, h⟩
    rw [h] at this
    exact of_decide_eq_true this.symm
theorem top_ex {fs : List (List Int × Nat)} (nod : (keysL fs).Nodup) (ne : fs ≠ []) : ∃ q, dep fs q = some (topL fs) := by
  obtain ⟨_, h2, h3⟩ := fold_top fs 0
  rcases h3 with h3 | ⟨z, hz, h3⟩
  · obtain ⟨f, hf⟩ := List.exists_mem_of_ne_nil _ ne
    have hd := dep_mem nod hf
    have := h2 f hf
    refine ⟨f.1, ?_⟩
    rw [hd]
    unfold topL
    rw [show f.2 = fs.foldl (fun m q => max m q.2) 0 by omega]
  · exact ⟨z.1, by rw [dep_mem nod hz]; unfold topL; rw [h3]⟩
theorem LK_iff {fs : List (List Int × Nat)} {i : Nat} {q : List Int} : q ∈ keysL (LK fs (i + 1)) ↔ ∃ d, dep fs q = some d ∧ d ≤ i := by
  constructor
  · intro h
    obtain ⟨d, l, h⟩ := LK_key h
    exact ⟨d, h, by omega⟩
  · rintro ⟨d, h, l⟩
    exact mem_keys' (LK_mem h (show d < i + 1 by omega))
theorem lays_at (fs : List (List Int × Nat)) (j : Nat) : (laysL fs)[j]? = if j < topL fs + 1 then some (rowD fs (sortK fs) j) else none := by
  unfold laysL
  rw [List.getElem?_map]
  by_cases c : j < topL fs + 1
  · rw [if_pos c, List.getElem?_range c]
    rfl
  · rw [if_neg c, List.getElem?_eq_none (by rw [List.length_range]; omega)]
    rfl
theorem lays_shift {ns : List Int} {fs gs : List (List Int × Nat)} {i : Nat} (nf : (keysL fs).Nodup) (sf : ∀ q ∈ fs, SeatOk ns q.1) (fne : fs ≠ []) (ng : (keysL gs).Nodup) (sg : ∀ q ∈ gs, SeatOk ns q.1) (gne : gs ≠ []) (h : ∀ q, dep gs q = (dep fs q).map (· - i)) (hi : i ≤ topL fs) :
    laysL gs = (keysL (LK fs (i + 1))).mergeSort leT :: (laysL fs).drop (i + 1) := by
  have e1 : topL gs = topL fs - i := by
    obtain ⟨q, hq⟩ := top_ex ng gne
    obtain ⟨r, hr⟩ := top_ex nf fne
    have h1 := h q
    rw [hq] at h1
    obtain ⟨d, hd, e⟩ := Option.map_eq_some_iff.mp h1.symm
    have h2 := top_ge hd
    have h3 := h r
    rw [hr] at h3
    have h4 := top_ge (show dep gs r = some (topL fs - i) from h3)
    omega
  refine List.ext_getElem? fun j => ?_
  rw [lays_at]
  cases j with
  | zero =>
    rw [if_pos (by omega), rowD_is ng sg]
    show some _ = some _
    have hp : (keysL (LK fs (i + 1))).Perm ((allS ns).filter fun p => decide (dep gs p = some 0)) := by
      refine (List.perm_ext_iff_of_nodup (LK_nod nf _) ((allS_nodup ns).filter _)).mpr fun p => ?_
      rw [LK_iff, List.mem_filter, decide_eq_true_iff, h p]
      constructor
      · rintro ⟨d, hd, l⟩
        rw [hd]
        exact ⟨mem_allS.mpr (sf _ (mem_dep hd)), congrArg some (show d - i = 0 by omega)⟩
      · rintro ⟨_, h2⟩
        obtain ⟨d, hd, e⟩ := Option.map_eq_some_iff.mp h2
        exact ⟨d, hd, by omega⟩
    rw [sortT_same hp, sortT_id ((allS_leT ns).filter _)]
  | succ k =>
    rw [List.getElem?_cons_succ, List.getElem?_drop, lays_at]
    by_cases c : k + 1 < topL gs + 1
    · rw [if_pos c, if_pos (by omega), rowD_is ng sg, rowD_is nf sf]
      refine congrArg some (List.filter_congr fun p _ => decide_eq_decide.mpr ?_)
      rw [h p]
      constructor
      · intro h2
        obtain ⟨d, hd, e⟩ := Option.map_eq_some_iff.mp h2
        rw [hd]
        exact congrArg some (by omega)
      · intro h2
        rw [h2]
        exact congrArg some (show i + 1 + k - i = k + 1 by omega)
    · rw [if_neg c, if_neg (by omega)]

/-! ### the hashes of the seats of a small table differ -/
def smallT : Nat → Nat → List (List Nat)
  | 0, _ => [[]]
  | l + 1, b => (List.range b).flatMap fun x => (smallT l (b / (x + 1))).map (x :: ·)
def hN (ts : List Nat) : Nat := (reduceHash (Builtin.Tuple.tupleHashOf (ts.map fun (x : Nat) => hashInt ((x : Nat) : Int))) + 2 ^ 63).toNat
noncomputable def noneB (x : Nat) (ys : List Nat) : Bool := @List.rec Nat (fun _ => Bool) true (fun y _ ih => Bool.rec ih false (Nat.beq x y)) ys
noncomputable def diffN (ys : List Nat) : Bool := @List.rec Nat (fun _ => Bool) true (fun y ys ih => Bool.rec false ih (noneB y ys)) ys
theorem noneB_ok {x : Nat} : ∀ {ys : List Nat}, noneB x ys = true → x ∉ ys
  | [], _, h => nomatch h
  | y :: ys, h, hm => by
    have h2 : (Bool.rec (noneB x ys) false (Nat.beq x y) : Bool) = true := h
    cases c : Nat.beq x y with
    | true =>
      rw [c] at h2
      cases h2
    | false =>
      rw [c] at h2
      rcases List.mem_cons.mp hm with rfl | hm
      · rw [Nat.beq_refl] at c
        cases c
      · exact noneB_ok h2 hm
theorem diffN_ok : ∀ {ys : List Nat}, diffN ys = true → ys.Nodup
  | [], _ => List.nodup_nil
  | y :: ys, h => by
    have h2 : (Bool.rec false (diffN ys) (noneB y ys) : Bool) = true := h
    cases c : noneB y ys with
    | false =>
      rw [c] at h2
      cases h2
    | true =>
      rw [c] at h2
      exact List.nodup_cons.mpr ⟨noneB_ok c, diffN_ok h2⟩
noncomputable def pickN (m r : Nat) (ys : List Nat) : List Nat := @List.rec Nat (fun _ => List Nat) [] (fun y _ ih => Bool.rec ih (y :: ih) (Nat.beq (y % m) r)) ys
theorem pickN_mem {m r x : Nat} (hx : x % m = r) : ∀ {ys : List Nat}, x ∈ ys → x ∈ pickN m r ys
  | y :: ys, h => by
    show x ∈ (Bool.rec (pickN m r ys) (y :: pickN m r ys) (Nat.beq (y % m) r) : List Nat)
    rcases List.mem_cons.mp h with rfl | h
    · rw [hx, Nat.beq_refl]
      exact List.mem_cons_self
    · cases Nat.beq (y % m) r with
      | true => exact List.mem_cons_of_mem _ (pickN_mem hx h)
      | false => exact pickN_mem hx h
theorem pickN_nod {m : Nat} : ∀ {ys : List Nat}, (∀ r, (pickN m r ys).Nodup) → ys.Nodup
  | [], _ => List.nodup_nil
  | y :: ys, h => by
    refine List.nodup_cons.mpr ⟨fun z => ?_, pickN_nod (m := m) fun r => ?_⟩
    · have h1 : (Bool.rec (pickN m (y % m) ys) (y :: pickN m (y % m) ys) (Nat.beq (y % m) (y % m)) : List Nat).Nodup := h (y % m)
      rw [Nat.beq_refl] at h1
      exact (List.nodup_cons.mp h1).1 (pickN_mem rfl z)
    · have h1 : (Bool.rec (pickN m r ys) (y :: pickN m r ys) (Nat.beq (y % m) r) : List Nat).Nodup := h r
      cases c : Nat.beq (y % m) r with
      | true =>
        rw [c] at h1
        exact (List.nodup_cons.mp h1).2
      | false =>
        rw [c] at h1
        exact h1
theorem pickN_none {m r : Nat} (m0 : 0 < m) (h : m ≤ r) : ∀ ys : List Nat, pickN m r ys = []
  | [] => rfl
  | y :: ys => by
    show (Bool.rec (pickN m r ys) (y :: pickN m r ys) (Nat.beq (y % m) r) : List Nat) = []
    cases c : Nat.beq (y % m) r with
    | true =>
      have := Nat.eq_of_beq_eq_true c
      have := Nat.mod_lt y m0
      omega
    | false => exact pickN_none m0 h ys
noncomputable def classN (m : Nat) (ys : List Nat) : Nat → Bool := @Nat.rec (fun _ => Bool) true (fun r ih => Bool.rec false ih (diffN (pickN m r ys)))
theorem classN_ok {m : Nat} {ys : List Nat} : ∀ {k : Nat}, classN m ys k = true → ∀ r, r < k → (pickN m r ys).Nodup
  | 0, _, r, h => by omega
  | k + 1, h, r, hr => by
    have h2 : (Bool.rec false (classN m ys k) (diffN (pickN m k ys)) : Bool) = true := h
    cases c : diffN (pickN m k ys) with
    | false =>
      rw [c] at h2
      cases h2
    | true =>
      rw [c] at h2
      by_cases e : r = k
      · rw [e]
        exact diffN_ok c
      · exact classN_ok h2 r (by omega)
theorem class_nod {m : Nat} {ys : List Nat} (m0 : 0 < m) (h : classN m ys m = true) : ys.Nodup := pickN_nod (m := m) fun r => by
  by_cases c : r < m
  · exact classN_ok h r c
  · rw [pickN_none m0 (by omega)]
    exact List.nodup_nil
def lits1 : List Nat := [469874208863542616, 2579157581981172913, 16132827626718028163, 4193724309110474972, 17747394353847330222, 1409933653255408903, 7917574409357407328, 3024500380384710962, 9532141136486709387, 4639067107514013021, 6748350480631643318, 1855276451658946952, 8362917207760945377, 14870557963862943802, 5579126551905879308, 12086767308007877733, 7193693279035181367, 13701334035137179792, 4409902623180115298, 10917543379282113723, 17425184135384112148, 12532110106411415782, 14641393479529046079, 9748319450556349713, 16255960206658348138, 11362886177685651772, 13472169550803282069, 1533066233195728878, 15086736277932584128, 3147632960325030937, 12302945622077518059, 363842304469964868, 6871483060571963293, 1978409031599266927, 8486049787701265352, 17641362449453752474, 5702259131846199283, 809185102873502917, 7316825858975501342, 9426109232093131639, 4533035203120435273, 11040675959222433698, 6147601930249737332, 8256885303367367629, 3363811274394671263, 9871452030496669688, 16379092786598668113, 7087661374641603619, 13595302130743602044, 8702228101770905678, 15209868857872904103, 17319152230990534400, 12426078202017838034, 486974884410284843, 14040644929147140093, 16149928302264770390, 11256854273292074024, 17764495029394072449, 5825391711786519258, 932317682813822892, 3041601055931453189, 16595271100668308439, 4656167783060755248, 18209837827797610498, 1872377127205689179, 8380017883307687604, 3486943854334991238, 9994584610436989663, 703153198479925169, 7210793954581923594, 2317719925609227228, 8825360681711225653, 10934644054828855950, 6041570025856159584, 12549210781958158009, 7656136752985461643, 9765420126103091940, 16273060882205090365, 11379986853232393999, 17887627609334392424]
theorem lits1_is : (smallT 1 80).map hN = lits1 := by decide +kernel
theorem lits1_ok : lits1.Nodup := class_nod (m := 1) (by decide) (by decide +kernel)
def lits2 : List Nat := [765232833172254823, 7272873589274253248, 16428186251026740370, 4489082933419187179, 10996723689521185604, 6103649660548489238, 8212933033666119535, 3319859004693423169, 9827499760795421594, 4934425731822725228, 7043709104940355525, 13551349861042353950, 8658275832069657584, 15165916588171656009, 10272842559198959643, 12382125932316589940, 7489051903343893574, 13996692659445891999, 2057589341838338808, 11212902003590825930, 17720542759692824355, 12827468730720127989, 888365413112574798, 10043678074865061920, 16551318830967060345, 4612215513359507154, 18165885558096362404, 1828424857504441085, 15382094902241296335, 3442991584633743144, 9950632340735741569, 659200928778677075, 7166841684880675500, 2273767655907979134, 8781408412009977559, 17936721073762464681, 5997617756154911490, 12505258512256909915, 7612184483284213549, 14119825239386211974, 4828393827429147480, 11336034583531145905, 6442960554558449539, 12950601310660447964, 15059884683778078261, 10166810654805381895, 16674451410907380320, 11781377381934683954, 13890660755052314251, 1951557437444761060, 15505227482181616310, 3566124164574063119, 12721436826326550241, 782333508718997050, 14336003553455852300, 2396900235848299109, 4506183608965929406, 18059853653702784656, 6120750336095231465, 1227676307122535099, 7735317063224533524, 16890629724977020646, 4951526407369467455, 11459167163471465880, 6566093134498769514, 8675376507616399811, 3782302478643703445, 10289943234745701870, 5396869205773005504, 7506152578890635801, 14013793334992634226, 9120719306019937860, 15628360062121936285, 6336928650164871791, 12844569406266870216, 905466088659317025, 14459136133396172275, 16568419506513802572, 11675345477541106206, 18182986233643104631, 4058750184239831832, 17612420228976687082, 5673316911369133891, 7782600284486764188, 2889526255514067822, 9397167011616066247, 4504092982643369881, 6613376355761000178, 13121017111862998603, 8227943082890302237, 14735583838992300662, 5444152427035236168, 11951793183137234593, 7058719154164538227, 13566359910266536652, 15675643283384166949, 10782569254411470583, 17290210010513469008, 12397135981540772642, 14506419354658402939, 9613345325685706573, 16120986081787704998, 4181882764180151807, 13337195425932638929, 1398092108325085738, 14951762153061940988, 3012658835454387797, 9520299591556386222, 228868179599321728, 6736508935701320153, 1843434906728623787, 8351075662830622212, 17506388324583109334, 5567285006975556143, 12074925763077554568, 7181851734104858202, 9291135107222488499, 4398061078249792133, 10905701834351790558, 6012627805379094192, 13908898836204219884, 16018182209321850181, 11125108180349153815, 17632748936451152240, 12739674907478455874, 800571589870902683, 2909854962988532980, 16463525007725388230, 4524421690117835039, 18078091734854690289, 1740631034262768970, 15294301078999624220, 3355197761392071029, 9862838517494069454, 571407105537004960, 7079047861639003385, 2185973832666307019, 8693614588768305444, 17848927250520792566, 5909823932913239375, 12417464689015237800, 7524390660042541434, 9633674033160171731, 4740600004187475365, 11248240760289473790, 17755881516391472215, 11471840989463974191, 17979481745565972616, 13086407716593276250, 15195691089710906547, 10302617060738210181, 16810257816840208606, 4871154499232655415, 14026467160985142537, 2087363843377589346, 15641033888114444596, 3701930570506891405, 12857243232259378527, 918139914651825336, 7425780670753823761, 2532706641781127395, 4641990014898757692, 18195660059635612942, 6256556742028059751, 1363482713055363385, 7871123469157361810, 2875245567718810627, 9382886323820809052, 91454911863744558, 6599095667965742983, 13106736424067741408, 8213662395095045042, 10322945768212675339, 5429871739239978973, 11937512495341977398, 7044438466369281032, 9153721839486911329, 15661362595588909754, 10768288566616213388, 17275929322718211813, 7984497910761147319, 14492138666863145744, 6168762918786387636, 12676403674888386061, 3384972262931321567, 9892613019033319992, 4999538990060623626, 11507179746162622051, 2215748334205557557, 8723389090307555982, 15231029846409554407, 10337955817436858041, 16845596573538856466, 7554165161581791972, 14061805917683790397, 3731705072046141943, 17285375116782997193, 5346271799175444002, 11853912555277442427, 2562481143320377933, 9070121899422376358, 4177047870449679992, 10684688626551678417, 12793971999669308714, 7900897970696612348, 14408538726798610773, 13581853724010529995, 1642750406402976804, 15196420451139832054, 17305703824257462351, 12412629795284765985, 473526477677212794, 6981167233779211219, 16136479895531698341, 4197376577924145150, 17751046622661000400, 11144795877270284302, 17652436633372282727, 12759362604399586361, 820259286792033170, 9975571948544520292, 16483212704646518717, 4544109387038965526, 18097779431775820776, 2548200455525120738, 9055841211627119163, 4162767182654422797, 6272050555772053094, 12779691311874051519, 7886617282901355153, 14394258039003353578, 5102826627046289084, 5841717806592697747, 12349358562694696172, 7456284533721999806, 9565567906839630103, 4672493877866933737, 11180134633968932162, 6287060604996235796, 15691866458557085799, 3752763140949532608, 12908075802702019730, 968972485094466539, 14522642529831321789, 2583539212223768598, 13254808611816840106, 1315705294209286915, 14869375338946142165, 2930272021338588974, 12085584683091076096, 146481365483522905, 15216108148060962541, 17325391521178592838, 12432317492205896472, 493214174598343281, 14046884219335198531, 7951730541139253551, 14459371297241251976, 9566297268268555610, 11675580641386185907, 6782506612413489541, 5514672694399007858, 12022313450501006283, 7129239421528309917, 13636880177630308342, 8743806148657611976, 15364821346363395910, 3425718028755842719, 16979388073492697969, 5040284755885144778, 17326120882607518345, 988660182015597026, 14542330226752452276, 2603226909144899085, 10061743275685809355, 16569384031787807780, 11676310002815111414, 13785593375932741711, 7624685428945563662, 14132326185047562087, 9239252156074865721, 15746892912176864146, 9585984965189686097, 16093625721291684522, 6802194309334620028, 989389543444522533, 3098672916562152830, 16652342961299008080, 4282906894512099542, 13438219556264586664, 1499116238657033473, 9734698163492119466, 16242338919594117891, 11349264890621421525, 11695997699736241901, 13805281072853872198, 8912207043881175832, 17147788968716261825, 5208685651108708634, 315611622136012268, 6392919629058655346, 15548232290811142468, 3955861782318409653, 17509531827055264903, 13806010434282797705, 15915293807400428002, 11368952587542552012, 17876593343644550437, 8502932363605211150, 10612215736722841447, 6065874516864965457, 12573515272966963882, 3628816670124719764, 17182486714861575014, 13478965322089107816, 1539862004481554625, 11041907475348862123, 17549548231450860548, 8175887251411521261, 14683528007513519686, 5738829404671275568, 12246470160773273993, 15588978056635663620, 3649874739028110429, 13151920209895417927, 1212816892287864736, 16445437560962994936, 11552363531990298570, 7848842139217831372, 5411784292477585679, 15261932944441973731, 108706221799999124, 9958854873764387176, 7521797027024141483, 9483096563268263918, 2218718956346554928, 4180018492590677363, 9631809761570697287, 11593109297814819722, 14886626648882396731, 6290031227137233167, 3852973380396987474, 13703122032361375526, 16996639383428952535, 4001686578699420843, 5962986114943543278, 3525928268203297585, 13376076920167685637, 16669594271235262646, 8072998849490099082, 5635941002749853389, 15486089654714241441, 332862932072266834, 16342549159041572757, 7745953737296409193, 5308895890556163500, 2442875666618822638, 5817819878576945, 9855966471842964997, 7418908625102719304, 10712425976170296313, 2115830554425132749, 4077130090669255184, 9528921359649275108, 12822438710716852117, 14783738246960974552, 1788785442231442860, 3750084978475565295]
theorem lits2_is : (smallT 2 80).map hN = lits2 := by decide +kernel
theorem lits2_ok : lits2.Nodup := class_nod (m := 8) (by decide) (by decide +kernel)
def lits3 : List Nat := [12233809548791785034, 7340735519819088668, 9450018892936718965, 4556944863964022599, 11064585620066021024, 6171511591093324658, 8280794964210954955, 14788435720312953380, 9895361691340257014, 16403002447442255439, 7111571035485190945, 13619211791587189370, 8726137762614493004, 15233778518716491429, 3294675201108938238, 12449987862861425360, 510884545253872169, 14064554589990727419, 2125451272383174228, 11280763934135661350, 17788404690237659775, 5849301372630106584, 956227343657410218, 3065510716775040515, 16619180761511895765, 4680077443904342574, 11187718200006340999, 1896286788049276505, 8403927544151274930, 3510853515178578564, 10018494271280576989, 727062859323512495, 7234703615425510920, 13742344371527509345, 8849270342554812979, 15356911098656811404, 6065479686699746910, 12573120442801745335, 7680046413829048969, 14187687169931047394, 16296970543048677691, 11403896514075981325, 17911537270177979750, 13018463241205283384, 15127746614322913681, 3188643296715360490, 16742313341452215740, 4803210023844662549, 13958522685597149671, 2019419367989596480, 15573089412726451730, 3633986095118898539, 5743269468236528836, 850195439263832470, 7357836195365830895, 2464762166393134529, 4574045539510764826, 18127715584247620076, 6188612266640066885, 12696253022742065310, 7803178993769368944, 9912462366886999241, 5019388337914302875, 11527029094016301300, 6633955065043604934, 8743238438161235231, 15250879194263233656, 10357805165290537290, 16865445921392535715, 7574014509435471221, 14081655265537469646, 2142551947929916455, 15696221992666771705, 17805505365784402002, 12912431336811705636, 973328019204152445, 14526998063941007695, 16636281437058637992, 4697178119451084801, 18250848164187940051, 16842780990686396166, 4903677673078842975, 11411318429180841400, 6518244400208145034, 8627527773325775331, 3734453744353078965, 10242094500455077390, 16749735256557075815, 7458303844600011321, 13965944600702009746, 9072870571729313380, 15580511327831311805, 6289079915874247311, 12796720671976245736, 857617354368692545, 14411287399105547795, 16520570772223178092, 11627496743250481726, 18135137499352480151, 13242063470379783785, 15351346843497414082, 3412243525889860891, 16965913570626716141, 5026810253019162950, 14182122914771650072, 2243019597164096881, 15796689641900952131, 3857586324293398940, 10365227080395397365, 1073795668438332871, 7581436424540331296, 2688362395567634930, 9196003151669633355, 11305286524787263652, 6412212495814567286, 12919853251916565711, 8026779222943869345, 10136062596061499642, 5242988567088803276, 11750629323190801701, 13976760766749055304, 16086044139866685601, 4146940822259132410, 17700610866995987660, 5761507549388434469, 868433520415738103, 2977716893533368400, 16531386938270223650, 4592283620662670459, 11099924376764668884, 1808492964807604390, 8316133720909602815, 3423059691936906449, 9930700448038904874, 639269036081840380, 7146909792183838805, 13654550548285837230, 8761476519313140864, 10870759892430771161, 5977685863458074795, 12485326619560073220, 546223301952520029, 9701535963705007151, 16209176719807005576, 11316102690834309210, 17823743446936307635, 11539702920008809611, 18047343676110808036, 6108240358503254845, 15263553020255741967, 3324449702648188776, 16878119747385044026, 4939016429777490835, 14094329091529977957, 2155225773922424766, 8662866530024423191, 3769792501051726825, 5879075874169357122, 986001845196660756, 7493642601298659181, 2600568572325962815, 4709851945443593112, 11217492701545591537, 6324418672572895171, 12832059428674893596, 7938985399702197230, 9102645073268563918, 15610285829370562343, 10717211800397865977, 17224852556499864402, 887391855907943083, 14441061900644798333, 2501958583037245142, 16055628627774100392, 4116525310166547201, 6225808683284177498, 1332734654311481132, 7840375410413479557, 2947301381440783191, 5056584754558413488, 163510725585717122, 6671151481687715547, 11906764436598095145, 7013690407625398779, 13521331163727397204, 4229899751770332710, 10737540507872331135, 5844466478899634769, 12352107235001633194, 14461390608119263491, 9568316579146567125, 16075957335248565550, 11182883306275869184, 17690524062377867609, 8399092650420803115, 3799567002590977363, 10307207758692975788, 5414133729720279422, 11921774485822277847, 14031057858939908144, 9137983829967211778, 15645624586069210203, 10752550557096513837, 12861833930214144134, 7968759901241447768, 14476400657343446193, 13649715654555365415, 1710612336947812224, 8218253093049810649, 17373565754802297771, 5434462437194744580, 541388408222048214, 7049029164324046639, 16204341826076533761, 4265238508468980570, 10772879264570978995, 11212657807815119722, 17720298563917118147, 5781195246309564956, 888121217336868590, 2997404590454498887, 16551074635191354137, 4611971317583800946, 18165641362320656196, 14016777171144650949, 9123703142171954583, 15631343898273953008, 6339912486316888514, 12847553242418886939, 7954479213446190573, 14462119969548188998, 16571403342665819295, 5909579737137533167, 12417220493239531592, 7524146464266835226, 14031787220368833651, 16141070593486463948, 11247996564513767582, 17755637320615766007, 7870879273381655602, 9980162646499285899, 5087088617526589533, 11594729373628587958, 18102370129730586383, 8810938717773521889, 13322670542361675526, 1383567224754122335, 7891207980856120760, 2998133951883424394, 5107417325001054691, 214343296028358325, 15283970078605797961, 17393253451723428258, 5454150134115875067, 561076105143178701, 7068716861245177126, 13689732058950961060, 8796658029978264694, 15304298786080263119, 10411224757107566753, 12520508130225197050, 9980892007928211406, 12090175381045841703, 7197101352073145337, 13704742108175143762, 1765638790567590571, 15432683276908231330, 3493579959300678139, 10001220715402676564, 5108146686429980198, 17393982813152353765, 1056522112560432446, 7564162868662430871, 2671088839689734505, 14956924966412108072, 3017821648804554881, 5127105021922185178, 234030992949488812, 7692547359490399082, 14200188115592397507, 9307114086619701141, 15814754842721699566, 9653846895734521517, 16161487651836519942, 6870056239879455448, 1057251473989357953, 3166534847106988250, 9674175603208986675, 17066937700958663876, 5127834383351110685, 7237117756468740982, 9802560094036954886, 16310200850138953311, 4371097532531400120, 11763859630281077321, 18271500386383075746, 8980068974426011252, 9326801783540831628, 15834442539642830053, 10941368510670133687, 730206361795668064, 7237847117897666489, 4023723712863245073, 10531364468965243498, 13873872364827633125, 15983155737945263422, 11436814518087387432, 17944455274189385857, 8999756671347141739, 15507397427449140164, 6133736447409800877, 12641377203511799302, 3696678600669555184, 10204319356771553609, 13546827252633943236, 1607723935026390045, 11109769405893697543, 17617410161995695968, 8243749181956356681, 14751389938058355106, 5806691335216110988, 12314332091318109413, 7767990871460233423, 9877274244577863720, 13219782140440253347, 1280678822832700156, 15181081676684375782, 17290365049802006079, 7916704069762666792, 5479646223022421099, 15329794874986809151, 17291094411230931586, 2137867688588956979, 7589658957568976903, 9550958493813099338, 15002749762793119262, 4247880423135512783, 1810822576395267090, 11660971228359655142, 9223913381619409449, 6357893157682068587, 3920835310941822894, 13770983962906210946, 11333926116165965253, 14627443467233542262, 6030848045488378698, 3593790198748133005, 13443938850712521057, 11006881003972275364, 8140860780034934502, 5703802933294688809, 3266745086554443116, 13116893738518831168, 16410411089586408177, 7813815667841244613, 5376757821100998920, 15226906473065386972, 73679750423412365, 2034979286667534800, 7486770555647554724, 9448070091891677159, 2183692484969968169, 4144992021214090604, 1707934174473844911, 11558082826438232963, 14851600177505809972, 1856647372776278280, 3817946909020400715, 17062519272388750160, 12169445243416053794, 230341925808500603, 2339625298926130900, 15893295343662986150, 3954192026055432959, 17507862070792288209, 1170401370200366890, 14724071414937222140, 2784968097329668949, 9292608853431667374, 1177441474602880, 6508818197576601305, 1615744168603904939, 8123384924705903364, 10232668297823533661, 5339594268850837295, 11847235024952835720, 6954160995980139354, 13461801752082137779, 4170370340125073285, 10678011096227071710, 17185651852329070135, 12292577823356373769, 14401861196474004066, 9508787167501307700, 16016427923603306125, 11123353894630609759, 13232637267748240056, 1293533950140686865, 14847203994877542115, 2908100677269988924, 12063413339022476046, 124310021414922855, 6631950777516921280, 1738876748544224914, 3848160121661855211, 17401830166398710461, 5462726848791157270, 569652819818460904, 8465923850643586596, 14973564606745585021, 5682133194788520527, 12189773950890518952, 7296699921917822586, 13804340678019821011, 15913624051137451308, 11020550022164754942, 17528190778266753367, 12635116749294057001, 14744400122411687298, 9851326093438990932, 16358966849540989357, 4419863531933436166, 13575176193685923288, 1636072876078370097, 15189742920815225347, 3250639603207672156, 12405952264960159278, 466848947352606087, 6028866003903340903, 12536506760005339328, 7643432731032642962, 9752716104150273259, 4859642075177576893, 11367282831279575318, 6474208802306878952, 8583492175424509249, 15091132931526507674, 10198058902553811308, 16705699658655809733, 11812625629683113367, 13921909002800743664, 9322383354970917912, 4429309325998221546, 10936950082100219971, 6043876053127523605, 8153159426245153902, 14660800182347152327, 9767726153374455961, 16275366909476454386, 6983935497519389892, 13491576253621388317, 725787933225754348, 14279457977962609598, 2340354660355056407, 4449638033472686704, 18003308078209541954, 6064204760601988763, 1171130731629292397, 3280414104746922694, 16735474160195060271, 11842400131222363905, 18350040887324362330, 6410937569716809139, 15566250231469296261, 3627146913861743070, 8138878738449896707, 14646519494551895132, 9753445465579198766, 11862728838696829063, 6969654809724132697, 11432396089517473716, 6539322060544777350, 13046962816646775775, 15156246189764406072, 10263172160791709706, 13393695625761596151, 4102264213804531657, 10609904969906530082, 5716830940933833716, 398742821032064459, 6906383577134062884, 2013309548161366518, 8520950304263364943, 2360042357276186894, 11515355019028674016, 18022995775130672441, 13542408824064029520, 8649334795091333154, 15156975551193331579, 11105350977323783827, 6212276948351087461, 12719917704453085886, 2508755555578620263, 9016396311680618688, 4470055091822742698, 6579338464940372995, 7763572442890319707, 16918885104642806829, 13215363711870339631, 8322289682897643265, 15176663248114462066, 10283589219141765700, 6580067826369298502, 8689351199486928799, 9873585177436875511, 582153765479811017, 15325376446416895435, 17286675982661017870, 14849618135920772177, 11983597911983431315, 9546540065243185622, 949944643498022058, 16959630870467327981, 14522573023727082288, 11656552799789741426, 9219494953049495733, 622899531304332169, 16632585758273638092, 13766565534336297230, 11329507687596051537, 8892449840855805844, 295854419110642280, 3589371770178219289, 13439520422142607341, 11002462575402361648, 2405867153657198084, 14967505245412056279, 17076788618529686576, 12183714589556990210, 244611271949437019, 6752252028051435444, 15907564689803922566, 3968461372196369375, 17522131416933224625, 5583028099325671434, 14738340761078158556, 2799237443470605365, 9306878199572603790, 4413804170599907424, 6523087543717537721, 1630013514744841355, 8137654270846839780, 3244580241874143414, 9752220997976141839, 11861504371093772136, 6968430342121075770, 13476071098223074195, 8582997069250377829, 10692280442368008126, 17199921198470006551, 12306847169497310185, 367743851889756994, 18261022596479633288, 1923561895887711969, 15477231940624567219, 3538128623017014028, 17091798667753869278, 5152695350146316087, 14308008011898803209, 2368904694291250018, 8876545450393248443, 3983471421420552077, 6092754794538182374, 1199680765565486008, 7707321521667484433, 5266069791750101596, 11773710547852100021, 6880636518879403655, 13388277274981402080, 4096845863024337586, 10604486619126336011, 17112127375228334436, 12219053346255638070, 7227369327994224031, 13735010084096222456, 4443578672139157962, 10951219428241156387, 6058145399268460021, 12565786155370458446, 17077517979958612083, 740057279366690764, 14293727324103546014, 2354624006495992823, 8862264762597991248, 14640460133218366390, 2701356815610813199, 11856669477363300321, 18364310233465298746, 17933977484285943399, 5994874166678390208, 1101800137705693842, 9337382062540779835, 11446665435658410132, 6553591406685713766, 6900324215800534142, 13407964971902532567, 16750472867764922194, 4811369550157369003, 1597246145122947587, 8104886901224946012, 11447394797087335639, 13556678170204965936, 9010336950347089946, 15517977706449088371, 6573279103606844253, 3707258879669503391, 1270201032929257698, 11120349684893645750, 8683291838153400057, 5817271614216059195, 3380213767475813502, 5341513303719935937, 10793304572699955861, 14086821923767532870, 5490226502022369306, 3053168655282123613, 5014468191526246048, 5777968569428786984, 884894540456090618, 7392535296558089043, 2499461267585392677, 9007102023687391102, 11116385396805021399, 6223311367832325033, 12730952123934323458, 7837878094961627092, 9947161468079257389, 5054087439106561023, 11561728195208559448, 18069368951310557873, 8777937539353493379, 15285578295455491804, 10392504266482795438, 16900145022584793863, 562684321992872544, 14116354366729727794, 2177251049122174603, 7739268105672909419, 2846194076700213053, 4955477449817843350, 62403420845146984, 6570044176947145409, 13077684933049143834, 3786253521092079340, 10293894277194077765, 5400820248221381399, 11908461004323379824, 17589416757637297471, 8297985345680232977, 14805626101782231402, 2866522784174678211, 16420192828911533461, 82732128319612142, 2436190034995322864, 11591502696747809986, 18099143452849808411, 13206069423877112045, 1266966106269558854, 7887981303975342788, 2994907275002646422, 9502548031104644847, 4609474002131948481, 9849280840219465223, 4956206811246768857, 7065490184364399154, 7412222993479219530, 2519148964506523164, 4546202769541878668, 13701515431294365790, 2109144922801632975, 15662814967538488225, 11959293574766021027, 2667862162808956533, 9522235728025775334, 6656215504088434472, 4219157657348188779, 1782099810607943086, 11632248462572331138, 3525051028565213356, 6329170391894744583, 3892112545154498890, 13742261197118886942, 11305203350378641249, 3682954542452093103, 10190595298554091528, 5297521269581395162, 7406804642699025459, 2513730613726329093, 9021371369828327518, 15529012125930325943, 6237580713973261449, 12745221470075259874, 7852147441102563508, 14359788197204561933, 5068356785247497439, 11575997541349495864, 18083638297451494289, 13190564268478797923, 15299847641596428220, 1245896695711847410, 7753537451813845835, 2860463422841149469, 9368104178943147894, 76672766986083400, 6584313523088081825, 1691239494115385459, 8198880250217383884, 16826620545484058164, 4887517227876504973, 14042829889628992095, 2103726572021438904, 15657396616758294154, 14389562698743812471, 9496488669771116105, 16004129425873114530, 18113412798990744827, 16350862234987934906, 7059430823030870412, 13567071579132868837, 3355909430258403214, 9863550186360401639, 6649426781325980223, 1756352752353283857, 16499575433290368275, 4560472115682815084, 14062517586550122582, 5465922164804959018, 8759439515872536027, 10720739052116658462, 16172530321096678386, 18133829857340800821, 10869452250419091831, 12830751786663214266, 8511664266049058229, 15019305022151056654, 3080201704543503463, 12235514366295990585, 296411048688437394, 13850081093425292644, 1910977775817739453, 15464647820554594703, 17573931193672225000, 5634827876064671809, 741753847091975443, 7249394603193973868, 16404707264946460990, 10472963802293180664, 12582247175410810961, 643143857803257770, 14196813902540113020, 2257710584932559829, 11413023246685046951, 3208586195371471674, 9716226951473470099, 4823152922500773733, 6932436295618404030, 771528348631225981, 7279169104733224406, 2386095075760528040, 10621677000595614033, 17129317756697612458, 8184619153855368340, 14692259909957366765, 5318598929918027478, 2881541083177781785, 4842840619421904220, 10294631888401924144, 12255931424646046579, 4991553817724337589, 6952853353968460024, 3720484973050157062, 17274155017787012312, 5335051700179459121, 7444335073297089418, 2551261044324393052, 9058901800426391477, 4165827771453695111, 6275111144571325408, 12782751900673323833, 7889677871700627467, 14397318627802625892, 13570633625014545114, 1631530307406991923, 10786842969159479045, 17294483725261477470, 12401409696288781104, 11133575778274299421, 17641216534376297846, 12748142505403601480, 8696517931534053728, 15204158687636052153, 5830497707596712866, 12338138463698711291, 3393439860856467173, 13243588512820855225, 10806530666080609532, 51661326423003053, 5503452595403022977, 7464752131647145412, 1625470946073463181, 3734754319191093478, 17288424363927948728, 5349321046320395537, 11856961802422393962, 2565530390465329468, 9073171146567327893, 4180097117594631527, 10687737873696629952, 1396306461739565458, 17635157173042769104, 5696053855435215913, 14851366517187703035, 2912263199580149844, 9419903955682148269, 9038561751297605540, 11147845124415235837, 17655485880517234262, 12332079102365182549, 392975784757629358, 3735483680620018985, 5844767053737649282, 1298425833879773292, 17308112060849079215, 14442091836911738353, 12005033990171492660, 3408438568426329096, 10882678343799745502, 5989604314827049136, 12497245070929047561, 7604171041956351195, 9713454415073981492, 16221095171175979917, 11328021142203283551, 17835661898305281976, 12843977880043867937, 7950903851071171571, 10060187224188801868, 5167113195216105502, 4247382458298704373, 13402695120051191495, 1810324611558458680, 15363994656295313930, 12992691078346301306, 14953990614590423741, 12516932767850178048, 3920337346105014484, 8787664316823051621, 15295305072925050046, 10402231043952353680, 12511514417069983977, 7618440388097287611, 14126081144199286036, 2186977826591732845, 11342290488344219967, 6350606470082805928, 12858247226184804353, 7965173197212107987, 14472813953314106412, 16200755122047193980, 4261651804439640789, 1047528399405219373, 14601198444142074623, 3008827935649341808, 8460619204629361732, 10421918740873484167, 3157541133951775177, 13616374040420016747, 1677270722812463556, 8184911478914461981, 17340224140666949103, 5401120823059395912, 508046794086699546, 7015687550188697971, 15577673576664139182, 17686956949781769479, 5747853632174216288, 13983435557009302281, 9090361528036605915, 5876238123002184499, 15726386774966572551, 13289328928226326858, 16093448291555858085, 4475330724808466041, 13630643386560953163, 1691540068953399972, 8199180825055398397, 3306106796082702031, 5415390169200332328, 2038272878068220348, 15591942922805075598, 3652839605197522407, 17618996727840431102, 8327565315883366608, 15181938881100185409, 6585343459355021845, 4148285612614776152, 6730180720444421699, 8839464093562051996, 3946390064589355630, 10454030820691354055, 16961671576793352480, 7670240164836287986, 4293122873704176006, 10800763629806174431, 1509332217849109937, 14143271525668564058, 16252554898786194355, 11706213678928318365, 4441836072006609375, 6403135608250731810, 14655170303347249446, 16764453676464879743, 11871379647492183377, 18379020403594181802, 13485946374621485436, 17948687654414826455, 13055613625442130089, 9352092232669662891, 6915034385929417198, 16765183037893805250, 16466233819155019607, 4527130501547466416, 18080800546284321666, 6141697228676768475, 15297009890429255597, 18427533355399142042, 2090072654807220723, 5432580550669610350, 8726097901737187359, 129502479992023795, 274339741081423649, 6781980497183422074, 13289621253285420499, 3998189841328356005, 10505830597430354430, 16284025968050729572, 4344922650443176381, 641401257670709183, 2602700793914831618, 8054492062894851542, 9580040499179424559, 288609087222360065, 6796249843324358490, 13303890599426356915, 7142982652439178866, 2249908623466482500, 16993131304403566918, 14556073457663321225, 17505030082082252306, 12611956053109555940, 14721239426227186237, 9828165397254489871, 9397832648075134524, 15905473404177132949, 801237226329970960, 16810923453299276883, 869349524180470851, 14423019568917326101, 2483916251309772910, 16037586296046628160, 9876678349059450111, 16384319105161448536, 8282440329404613210, 4573600278381863556, 3124199519816426509, 9631840275918424934, 4738766246945728568, 11246407003047726993, 5085499056060548944, 7194782429178179241, 10537290325040568868, 12498589861284691303, 11049189102719254256, 6156115073746557890, 12663755829848556315, 13010488638963376691, 5746111032041667701, 8954175075742560375, 15461815831844558800, 6170384419887494306, 12247692426810137384, 3651097005064973820, 13782884799339525501, 1843781481731972310, 8351422237833970735, 10916864575402184639, 8479806728661938946, 5974059298551429369, 1080985269578733003, 7588626025680731428, 7935358834795551804, 13387150103775571728, 2498334096379562325, 9005974852481560750, 4112900823508864384, 10190208830431507462, 15642000099411527386, 6133895267210691146, 12641536023312689571, 14750819396430319868, 3696837420470445453, 6500956783799976680, 16632744578074528361, 4693641260466975170, 13766724354137187499, 440850500000932403, 6948491256102930828, 3244969863330463630, 9746551258098933313, 455119846141868819, 13040068609166510322, 7603043870750520843, 14110684626852519268, 9564343406994643278, 1035860283099979605, 14589530327836834855, 11375406922802413439, 3290710278735935263, 9798351034837933688, 5252009814980057698, 5545560274371890921, 12053201030473889346, 8349679637701422148, 14851261032469891831, 5559829620512827337, 12414203185729646138, 12707753645121479361, 768650327513926170, 14669053181365601796, 6140570057470938123, 1247496028498241757, 8101869593715060558, 8395420053106893781, 14903060809208892206, 10356719589351016216, 6300406026130199900, 8409689399247830197, 3863348179389954207, 1509226733131298733, 10664539394883785855, 17518912960100604656, 6337936456728263859, 8447219829845894156, 11789727725708283783, 11245279831841896641, 13500129827477852299, 11405115800501158418, 9187796235463266719, 2694424825502204710, 16349989606212855159, 12874264404040988115, 636941229123574788, 8561930812026402535, 7799134599873163228, 15724124182775990975, 6504447215647772613, 11411790590761405395, 13666640586397361053, 11571626559420667172, 9354306994382775473, 8591510782229536166, 16516500365132363913, 324606287058767955, 16676336333791625690, 14459016768753733991, 7965645358792671982, 3174466065793770815, 1079452038817076934, 5908161762414042060, 1116982469415140893, 13070355133163630500, 8279175840164729333, 8758021541149044920, 11012871536785000578, 15920214911898633360, 18175064907534589018, 15957745342496697319, 13862731315520003438, 3340976824713279569, 2578180612560040262, 11805247719141373516, 1283493228334649647, 520697016181410340, 8445686599084238087]
theorem lits3_is : (smallT 3 80).map hN = lits3 := by decide +kernel
theorem lits3_ok : lits3.Nodup := class_nod (m := 32) (by decide) (by decide +kernel)
def lits4 : List Nat := [5997146865798422254, 15152459527550909376, 3213356209943356185, 16767026254680211435, 4827922937072658244, 6937206310190288541, 2044132281217592175, 8551773037319590600, 3658699008346894234, 5767982381464524531, 12275623137566522956, 7382549108593826590, 13890189864695825015, 4598758452738760521, 11106399208840758946, 6213325179868062580, 12720965935970061005, 14830249309087691302, 9937175280114994936, 16444816036216993361, 11551742007244296995, 13661025380361927292, 8767951351389230926, 15275592107491229351, 3336488789883676160, 16890158834620531410, 552698134028610091, 14106368178765465341, 2167264861157912150, 8674905617259910575, 17830218279012397697, 5891114961404844506, 998040932432148140, 7505681688534146565, 16660994350286633687, 4721891032679080496, 11229531788781078921, 6336457759808382555, 8445741132926012852, 3552667103953316486, 10060307860055314911, 5167233831082618545, 7276517204200248842, 13784157960302247267, 8891083931329550901, 15398724687431549326, 6107293275474484832, 12614934031576483257, 7721860002603786891, 14229500758705785316, 2290397441098232125, 11445710102850719247, 17953350858952717672, 13060276829980021306, 1121173512372468115, 3230456885490098412, 16784126930226953662, 4845023612619400471, 18398693657356255721, 2061232956764334402, 15614903001501189652, 3675799683893636461, 10183440439995634886, 892009028038570392, 7399649784140568817, 2506575755167872451, 9014216511269870876, 18169529173022357998, 6230425855414804807, 12738066611516803232, 7844992582544106866, 14352633338646105291, 5061201926689040797, 11568842682791039222, 18076483438893037647, 13183409409920341281, 15292692783037971578, 10399618754065275212, 16907259510167273637, 12014185481194577271, 11448938134778442178, 17956578890880440603, 13063504861907744237, 1124401544300191046, 10279714206052678168, 16787354962154676593, 11894280933181980227, 18401921689283978652, 2064460988692057333, 15618131033428912583, 3679027715821359392, 17232697760558214642, 895237059966293323, 14448907104703148573, 2509803787095595382, 9017444543197593807, 18172757204950080929, 6233653887342527738, 1340579858369831372, 7848220614471829797, 17003533276224316919, 5064429958616763728, 11572070714718762153, 6678996685746065787, 8788280058863696084, 3895206029890999718, 10402846785992998143, 16910487542094996568, 12017413513122300202, 14126696886239930499, 9233622857267234133, 15741263613369232558, 10848189584396536192, 12957472957514166489, 1018369639906613298, 14572039684643468548, 2632936367035915357, 11788249028788402479, 18295889784890400904, 13402815755917704538, 14742455485846019187, 9849381456873322821, 16357022212975321246, 11463948184002624880, 13573231557120255177, 1634128239512701986, 15187798284249557236, 3248694966642004045, 12404007628394491167, 464904310786937976, 14018574355523793226, 2079471037916240035, 4188754411033870332, 17742424455770725582, 5803321138163172391, 910247109190476025, 7417887865292474450, 16573200527044961572, 4634097209437408381, 11141737965539406806, 6248663936566710440, 8357947309684340737, 3464873280711644371, 9972514036813642796, 16480154792915641221, 7188723380958576727, 6145860064100855623, 1252786035128159257, 7760426791230157682, 9869710164347787979, 4976636135375091613, 11484276891477090038, 6591202862504393672, 8700486235622023969, 3807412206649327603, 10315052962751326028, 16822693718853324453, 7531262306896259959, 14038903062998258384, 9145829034025562018, 15653469790127560443, 17762753163245190740, 12869679134272494374, 930575816664941183, 14484245861401796433, 2545142543794243242, 3708802217360609930, 17262472262097465180, 5323368944489911989, 11831009700591910414, 2539578288634845920, 9047219044736844345, 4154145015764147979, 10661785771866146404, 5768711742893450038, 7877995116011080335, 14385635872113078760, 9492561843140382394, 16000202599242380819, 6708771187285316325, 13216411943387314750, 8323337914414618384, 13558950869324997982, 1619847551717444791, 15173517596454300041, 17282800969571930338, 12389726940599233972, 450623622991680781, 14004293667728536031, 2065190350120982840, 4174473723238613137, 17728143767975468387, 5789040450367915196, 895966421395218830, 3005249794512849127, 16852468220392574991, 11959394191419878625, 20290873812325434, 13573960918549180684, 15683244291666810981, 3744140974059257790, 17297811018796113040, 5358707701188559849, 14514020362941046971, 2574917045333493780, 16128587090070349030, 367023682927145810, 9522336344679632932, 16029977100781631357, 11136903071808934991, 17644543827910933416, 1307083127319012097, 14860753172055867347, 2921649854448314156, 16475319899185169406, 137859198593248087, 5818814951907165734, 925740922934469368, 7433381679036467793, 13941022435138466218, 4649591023181401724, 11157231779283400149, 6264157750310703783, 12771798506412702208, 7780114488151288169, 16935427149903775291, 4996323832296222100, 11503964588398220525, 6610890559425524159, 13118531315527522584, 3827099903570458090, 10334740659672456515, 515736881229579179, 14069406925966434429, 2130303608358881238, 15683973653095736488, 17793257026213366785, 5854153708605813594, 961079679633117228, 2477036417473701614, 11632349079226188736, 18139989835328187161, 13246915806355490795, 1307812488747937604, 3417095861865567901, 7928827686453721538, 3035753657481025172, 9543394413583023597, 16051035169685022022, 6759603757727957528, 13267244513829955953, 9890127222697843973, 598695810740779479, 7106336566842777904, 13613977322944776329, 8720903293972079963, 7453069375957598280, 2559995346984901914, 9067636103086900339, 11176919476204530636, 6283845447231834270, 4587049152020257418, 13742361813772744540, 1803258496165191349, 15356928540902046599, 3417825223294493408, 2149991305280011725, 15703661350016866975, 17812944723134497272, 12919870694161800906, 12000139957244399777, 2708708545287335283, 9216349301389333708, 15723990057491332133, 9563082110504154084, 4670008081531457718, 6779291454649088015, 13286932210751086440, 2298704503582445094, 15852374548319300344, 3913271230711747153, 10420911986813745578, 4260004039826567529, 17813674084563422779, 1476213383971501460, 1822946193086321836, 15376616237823177086, 3437512920215623895, 11673094845050709888, 6780020816078013522, 8889304189195643819, 14966612196118286897, 10073538167145590531, 16581178923247588956, 6370016774373123333, 1476942745400426967, 3586226118518057264, 3932958927632877640, 17486628972369732890, 5547525654762179699, 1495901080892631947, 15049571125629487197, 17076624930664842701, 12183550901692146335, 14639567083924597008, 9746493054951900642, 6042971662179433444, 1149897633206737078, 3605913815439187751, 17159583860176043001, 739893591501846889, 14293563636238702139, 16749579818471152812, 11856505789498456446, 264135281005723631, 9419447942758210753, 5715926549985743555, 822852521013047189, 7677226086229865990, 16832538747982353112, 412848479308157000, 13966518524045012250, 2374148015552279435, 11529460677304766557, 7825939284532299359, 2932865255559602993, 9787238820776421794, 495807408819357300, 13080756171843998803, 85803367114467111, 2047102903358589546, 11897251555322977598, 15190768906390554607, 12753711059650308914, 4157115637905145350, 1720057791164899657, 17300781640937110411, 14863723794196864718, 6267128372451701154, 3830070525711455461, 14169617165413889295, 16973736528743420522, 14536678682003174829, 5940083260258011265, 16279629899960445099, 637005189580424710, 16646691416549730633, 161246879084301452, 5613038148064321376, 15952584787766755210, 309960077386734821, 16319646304356040744, 7723050882610877180, 11016568233678454189, 12977867769922576624, 18429659038902596548, 1944214501437167367, 13126580968225009993, 15087880504469132428, 12650822657728886735, 4054227235983723171, 14393773875686157005, 17197893239015688232, 14760835392275442539, 6164239970530278975, 16503786610232712809, 14066728763492467116, 16870848126821998343, 16140845977154643529, 4201742659547090338, 6311026032664720635, 1417952003692024269, 7925592759794022694, 3032518730821326328, 5141802103938956625, 248728074966260259, 6756368831068258684, 13264009587170257109, 3972578175213192615, 10480218931315191040, 5587144902342494674, 12094785658444493099, 14204069031562123396, 9310995002589427030, 15818635758691425455, 10925561729718729089, 13034845102836359386, 8141771073863663020, 14649411829965661445, 2710308512358108254, 11865621174110595376, 18373261930212593801, 13480187901239897435, 1541084583632344244, 15094754628369199494, 17204038001486829791, 5264934683879276600, 371860654906580234, 6879501411008578659, 16034814072761065781, 4095710755153512590, 10603351511255511015, 5710277482282814649, 7819560855400444946, 2926486826427748580, 9434127582529747005, 4541053553557050639, 6650336926674680936, 13703788130414397836, 1764684812806844645, 8272325568908843070, 17427638230661330192, 5488534913053777001, 595460884081080635, 7103101640183079060, 16258414301935566182, 4319310984328012991, 10826951740430011416, 5933877711457315050, 8043161084574945347, 3150087055602248981, 9657727811704247406, 4764653782731551040, 11272294538833549465, 13381577911951179762, 8488503882978483396, 14996144639080481821, 10103070610107785455, 11266730283674152143, 17774371039776150568, 5835267722168597377, 942193693195901011, 7449834449297899436, 16605147111050386558, 4666043793442833367, 18219713838179688617, 6280610520572135426, 8389893893689765723, 3496819864717069357, 10004460620819067782, 5111386591846371416, 14070849647003683370, 9177775618030987004, 15685416374132985429, 6393984962175920935, 12901625718277919360, 8008551689305222994, 14516192445407221419, 2577089127799668228, 11732401789552155350, 18240042545654153775, 5963652212996565588, 12471292969098564013, 7578218940125867647, 14085859696227866072, 16195143069345496369, 11302069040372800003, 17809709796474798428, 12916635767502102062, 15813800864960953640, 3874697547353400449, 10382338303455398874, 1090906891498334380, 7598547647600332805, 2705473618627636439, 13376743018220707947, 1437639700613154756, 7945280456715153181, 3052206427742456815, 5161489800860087112, 15338042554464830382, 3398939236857277191, 5508222609974907488, 615148581002211122, 7122789337104209547, 8073664947543121392, 14581305703645119817, 9688231674672423451, 16195872430774421876, 10034964483787243827, 12144247856904874124, 7251173827932177758, 13758814584034176183, 15486755752767263751, 3547652435159710560, 10055293191261708985, 17448055289011386186, 1110594588419464867, 7618235344521463292, 10183677682089677196, 16691318438191675621, 4752215120584122430, 12144977218333799631, 14254260591451429928, 9707919371593553938, 16215560127695552363, 1111323949848390374, 3220607322966020671, 4404841300915967383, 10912482057017965808, 9856632569895987307, 16364273325997985732, 11817932106140109742, 18325572862242108167, 14622051469469640969, 5330620057512576475, 6514854035462523187, 4077796188722277494, 13927944840686665546, 11490886993946419853, 8624866770009078991, 6187808923268833298, 16037957575233221350, 13600899728492975657, 11163841881752729964, 8297821657815389102, 5860763811075143409, 15710912463039531461, 13273854616299285768, 16567371967366862777, 7970776545621699213, 9932076081865821648, 15383867350845841572, 230640628203866965, 10080789280168255017, 7643731433428009324, 9573662389504102291, 282230977547037797, 6789871733649036222, 1896797704676339856, 8404438460778338281, 10513721833895968578, 5620647804923272212, 12128288561025270637, 7235214532052574271, 9344497905170204568, 4451423876197508202, 10959064632299506627, 17466705388401505052, 8175273976444440558, 14682914732546438983, 9789840703573742617, 16297481459675741042, 4358378142068187851, 13513690803820674973, 1574587486213121782, 15128257530949977032, 3189154213342423841, 12344466875094910963, 405363557487357772, 6913004313589356197, 2019930284616659831, 1466464955496984509, 3575748328614614806, 10083389084716613231, 5190315055743916865, 11697955811845915290, 6804881782873218924, 8914165155990849221, 4021091127018152855, 10528731883120151280, 17036372639222149705, 7744941227265085211, 14252581983367083636, 9359507954394387270, 17476151182466290432, 5537047864858737241, 12044688620960735666, 2753257209003671172, 9260897965105669597, 4367823936132973231, 10875464692234971656, 1584033280277907162, 1833526472086270043, 15387196516823125293, 17496479889940755590, 12603405860968059224, 664302543360506033, 14217972588097361283, 17843212699055575966, 12950138670082879600, 1011035352475326409, 10166348014227813531, 16673988770329811956, 9246617277310412402, 4353543248337716036, 6462826621455346333, 1569752592482649967, 1139419843303294620, 7647060599405293045, 14154701355507291470, 3943539206632825847, 17497209251369681097, 1159748550777759778, 1506481359892580154, 15060151404629435404, 17516167586861886077, 12623093557889189711, 3249432577849850424, 9757073333951848849, 812374731109604731, 7320015487211603156, 3616494094439135958, 17170164139175991208, 1179436247698890265, 16760160097471101019, 2922387465656160535, 4883687001900282970, 3289448982245446069, 13628995621947879903, 16433114985277411130, 6993699736446838774, 4556641889706593081, 15739008356494435707, 17700307892738558142, 16106069873083721241, 6666654624253148885, 7430155002155689821, 13937795758257688246, 9044721729284991880, 15552362485386990305, 10659288456414293939, 12768571829531924236, 829468511924371045, 14383138556661226295, 2444035239053673104, 11599347900806160226, 18106988656908158651, 6167885339300605460, 1274811310327909094, 3384094683445539391, 16937764728182394641, 4998661410574841450, 105587381602145084, 2214870754719775381, 8722511510821773806, 3829437481849077440, 9391454538399812256, 15899095294501810681, 6607663882544746187, 13115304638646744612, 8222230609674048246, 14729871365776046671, 16839154738893676968, 11946080709920980602, 6977392313427411, 13560647437050282661, 6954396691659566563, 13462037447761564988, 8568963418788868622, 10678246791906498919, 5785172762933802553, 12292813519035800978, 4088376467722225701, 6197659840839855998, 1304585811867159632, 7812226567969158057, 2919152538996461691, 1651318620981980008, 8158959377083978433, 3265885348111282067, 5375168721228912364, 11501467272946368060, 18009108029048366485, 8717676617091301991, 9064409426206122367, 15572050182308120792, 6198389202268781505, 8307672575386411802, 3761331355528535812, 10268972111630534237, 1324273508788290119, 7831914264890288544, 11174422160752678171, 14467939511820255180, 5871344090075091616, 3434286243334845923, 13284434895299233975, 16577952246366810984, 14140894399626565291, 5544298977881401727, 7505598514125524162, 12957389783105544086, 2638975709156788654, 16192645753893643904, 4253542436286090713, 17807212481022945963, 1469751780431024644, 7977392536533023069, 3084318507560326703, 9591959263662325128, 300527851705260634, 6808168607807259059, 1915094578834562693, 8422735334936561118, 10532018708054191415, 5638944679081495049, 12146585435183493474, 7253511406210797108, 4600275245400911089, 13755587907153398211, 1816484589545845020, 15370154634282700270, 3431051316675147079, 12586363978427634201, 647260660820081010, 7154901416922079435, 10052066514380931013, 5158992485408234647, 11666633241510233072, 18174273997612231497, 8882842585655167003, 12013366050625053448, 7120292021652357082, 9229575394769987379, 4336501365797291013, 3906168616617935666, 10413809372719934091, 12523092745837564388, 6710287979947466893, 15865600641699954015, 4273230133207221200, 17826900177944076450, 14123378785171609252, 4831947373214544758, 11686320938431363559, 3579123504424245777, 6383242867753777004, 3946185021013531311, 13796333672977919363, 17089851024045496372, 8493255602300332808, 6056197755560087115, 6703499257185012644, 1810425228212316278, 8318065984314314703, 3424991955341618337, 9932632711443616762, 12041916084561247059, 7148842055588550693, 13656482811690549118, 8763408782717852752, 10872692155835483049, 17380332911937481474, 12487258882964785108, 548155565357231917, 16553647909149400696, 4614544591541847505, 18168214636278702755, 6229111318671149564, 15384423980423636686, 3445320662816083495, 68203371683971515, 9223516033436458637, 15731156789538457062, 3792053471930903871, 11250569838471814141, 6357495809499117775, 12865136565601116200, 8813511991731568448, 3920437962758872082, 216916569986404884, 6724557326088403309, 2178216106230527319, 5471733457298104328, 10923524726278124252, 12884824262522246687, 18336615531502266611, 1851170994036837430, 13033537460824680056, 5372671405777059899, 11880312161879058324, 18387952917981056749, 9096521506023992255, 15604162262125990680, 10711088233153294314, 17218728989255292739, 7927297577298228245, 14434938333400226670, 2495835015792673479, 16049505060529528729, 2935613559036814206, 9443254315138812631, 4550180286166116265, 11057821042268114690, 13167104415385744987, 5739732922366345433, 846658893393649067, 7354299649495647492, 10348704364260956565, 16856345120362954990, 18040579098312901702, 1703118397720980383, 5045626293583370010, 7006925829827492445, 5412687810172655544, 1703847759149905890, 7155639028129925814, 9116938564374048249, 14678372163875060809, 5386940751917996315, 11894581508019994740, 7001507479047298374, 13509148235149296799, 15618431608266927096, 10725357579294230730, 17232998335396229155, 12339924306423532789, 14449207679541163086, 12241314317134815116, 7348240288162118750, 9457523661279749047, 4564449632307052681, 11072090388409051106, 9804256470394569423, 4911182441421873057, 11418823197523871482, 6938236246457228561, 2045162217484532195, 4501178399716982868, 18054848444453838118, 14351327051681370920, 11914269204941125227, 9048248981003784365, 6611191134263538672, 4174133287523292979, 12534864776526648339, 595761458919095148, 14149431503655950398, 2210328186048397207, 11365640847800884329, 17873281603902882754, 5934178286295329563, 1041104257322633197, 14496164312770770774, 2557060995163217583, 11712373656915704705, 18220014413017703130, 12059106466030525081, 120003148422971890, 3462511044285361517, 9970151800387359942, 6756028395352938526, 16606177047317326578, 14169119200577080885, 5572523778831917321, 2551001633829688841, 4660285006947319138, 18213955051684174388, 6274851734076621197, 12782492490178619622, 3491061078221555128, 9998701834323553553, 5105627805350857187, 956763614174851940, 14510433658911707190, 2571330341304153999, 16125000386041009249, 9964092439053831200, 12073375812171461497, 2699714832132122210, 9207355588234120635, 4661014368376244645, 3066776348721407744, 5028075884965530179, 15367622524667964013, 8222531184512062759, 3329457155539366393, 9837097911641364818, 11946381284758995115, 7053307255786298749, 13560948011888297174, 8667873982915600808, 10183830720756185194, 892399308799120700, 7400040064901119125, 15635621989736205118, 3696518672128651927, 17596921525980327553, 2443694803338352946, 7895486072318372870, 9856785608562495305, 16147520767414890506, 11254446738442194140, 17762087494544192565, 12869013465571496199, 14978296838689126496, 3039193521081573305, 8040323333407772724, 14547964089509771149, 9654890060537074783, 10844442696737303951, 5951368667764607585, 15453414138631915083, 17414713674876037518, 10150336067954328528, 1336337864536467711, 10491650526288954833, 16999291282390953258, 12106217253418256892, 167113935810703701, 2276397308928333998, 17346024091505773634, 12452950062533077268, 14562233435650707565, 14908966244765527941, 10015892215792831575, 6312370823020364377, 9605888174087941386, 1009292752342777822, 16307356736074152283, 18416640109191782580, 6477536791584229389, 1584462762611533023, 8092103518713531448, 1154130013432177676, 7661770769534176101, 17163816240401483599, 8567220818656320035, 6130162971916074342, 7655711408200647359, 9764994781318277656, 4871920752345581290, 11379561508447579715, 17887202264549578140, 6061473388545810458, 1168399359573114092, 15068802213424789718, 13474564193769952817, 9765724142747203163, 7596665761075198575, 14104306517177197000, 9211232488204500634, 15718873244306499059, 6427441832349434565, 10890183112142775584, 5997109083170079218, 2293587690397612020, 4254887226641734455, 1817829379901488762, 11232226931906327396, 13341510305023957693, 8448436276051261327, 14956077032153259752, 8795169085166081703, 15302809841268080128, 6358111238425836010, 16208259890390224062, 710472441099603527, 7218113197201601952, 16373425858954089074, 4434322541346535883, 4003989792167180536, 17557659836904035786, 1566931945426934843, 11417080597391322895, 2965322436735559185, 5074605809853189482, 11582246565955187907, 6689172536982491541, 528264589995313492, 7035905346097311917, 3821781941062890501, 13671930593027278553, 4776385952543329346, 11284026708645327771, 17791667464747326196, 12898593435774629830, 6737685488787451781, 8846968861905082078, 5143447469132614880, 7104747005376737315, 12701375535446157093, 762272217838603902, 14315942262575459152, 14662675071690279528, 7398297464768570538, 3560332219834606387, 17114002264571461637, 776541563979540318, 13899878859537040221, 11462821012796794528, 5815182215470562045, 12322822971572560470, 3031391559615495976, 3378124368730316352, 6671641719797893361, 7626245731278332206, 14133886487380330631, 9240812458407634265, 9587545267522454641, 7150487420782208948, 15551235314181159953, 10658161285208463587, 17165802041310462012, 17512534850425282388, 10248157243503573398, 17806085309817115611, 5866981992209562420, 973907963236866054, 1320640772351686430, 6772432041331706354, 8665041994205564905, 3771967965232868539, 6227984147465319212, 13493751717802530031, 1554648400194976840, 11056693871062284338, 11398737690825836150, 13508021063943466447, 14692255041893413159, 2209201014842566855, 15762871059579422105, 4170500551086689290, 4464051010478522513, 10971691766580520938, 6425350546722644948, 4942896711462838100, 11450537467564836525, 6904196247706960535, 151717418463936933, 6659358174565935358, 16161403645433242856, 16503447465196794668, 165986764604873349, 14066389618456548975, 7313910789213525373, 2420836760240829007, 9275210325457647808, 7792756490197840960, 14300397246299839385, 9754056026441963395, 10047606485833796618, 16555247241935795043, 12008906022077919053, 17972596068736624365, 6033492751129071174, 2819369346094649758, 3161413165858201570, 5270696538975831867, 724355319117955877, 11086402748761029317, 13195686121878659614, 14379920099828606326, 12897466264568799478, 8106286971569898311, 6011272944593204430, 13936262527496032177, 318228177383445687, 18002176038939757996, 7480421548133034127, 11115982718964162948, 10214117244753305372, 5422937951754404205, 17376310615502893812, 12585131322503992645, 13063977023488308232, 8272797730489407065, 6177783703512713184, 4034276316164300714, 6215314134110777143, 18168686797859266750, 13377507504860365583, 11282493477883671702, 9138986090535259232, 2571802502884717994, 4826652498520673652, 35473205521772485, 16387203252254630220, 2769168902142043730, 7676512277255676512, 9931362272891632170, 7836348245914938289, 5619028680877046590, 13544018263779874337, 12781222051626635030, 9305496849454767986, 15514917748246906275, 4993163257440182406, 201983964441281239, 12155356628189770846, 2935679661061552484, 2172883448908313177, 10097873031811140924, 11561437899431851418, 18069078655533849843, 8777647243576785349, 15285287999678783774, 3346184682071230583, 16899854726808085833, 562394026216164514, 14116064070953019764, 2176960753345466573, 15730630798082321823, 17839914171199952120, 5900810853592398929, 1007736824619702563, 7515377580721700988, 16670690242474188110, 4731586924866634919, 18285256969603490169, 6346153651995936978, 8455437025113567275, 3562362996140870909, 10070003752242869334, 5176929723270172968, 11684570479372171393, 13793853852489801690, 8900779823517105324, 15408420579619103749, 10515346550646407383, 12624629923764037680, 7731555894791341314, 14239196650893339739, 2300093333285786548, 11455405995038273670, 17963046751140272095, 13069972722167575729, 1130869404560022538, 10286182066312509660, 16793822822414508085, 4854719504806954894, 18408389549543810144, 2070928848951888825, 2964842477686687854, 5074125850804318151, 11581766606906316576, 6688692577933620210, 13196333334035618635, 3904901922078554141, 10412542678180552566, 5519468649207856200, 12027109405309854625, 14136392778427484922, 9243318749454788556, 15750959505556786981, 10857885476584090615, 12967168849701720912, 1028065532094167721, 14581735576831022971, 2642632259223469780, 11797944920975956902, 18305585677077955327, 13412511648105258961, 527784630946442161, 7035425387048440586, 9144708760166070883, 4251634731193374517, 10759275487295372942, 5866201458322676576, 7975484831440306873, 3082410802467610507, 9590051558569608932, 16097692314671607357, 6806260902714542863, 13313901658816541288, 8420827629843844922, 3821301982014019170, 10328942738116017595, 1037511326158953101, 7545152082260951526, 2652078053288255160, 9159718809390253585, 15667359565492252010, 6375928153535187516, 12883568909637185941, 7990494880664489575, 13671450633978407222, 15780734007096037519, 10887659978123341153, 17395300734225339578, 5456197416617786387, 563123387645090021, 2672406760762720318, 16226076805499575568, 11234392787238161529, 17742033543340159954, 12848959514367463588, 14958242887485093885, 3019139569877540694, 16572809614614395944, 2637797365492997965, 9145438121594996390, 11254721494712626687, 6361647465739930321, 12869288221841928746, 5931314716560574974, 12438955472662573399, 3147524060705508905, 9655164816807507330, 4762090787834810964, 15781463368524963026, 17890746741642593323, 12997672712669896957, 1058569395062343766, 13344405521784717333, 1405302204177164142, 14958972248914019392, 17068255622031649689, 10907347675044471640, 17414988431146470065, 12521914402173773699, 8041327451107130778, 14548968207209129203, 5257536795252064709, 5604269604366885085, 12111910360468883510, 7218836331496187144, 15454418256331273137, 3515314938723719946, 13017360409591027444, 1078257091983474253, 16310877760658604453, 4371774443051051262, 7714282338913440889, 14221923095015439314, 5277224492173195196, 11784865248275193621, 15127373144137583248, 3188269826530030057, 17088672680381705683, 751211979789784364, 9824295073459996693, 7387237226719751000, 9348536762963873435, 751941341218709871, 4045458692286286880, 9497249961266306804, 11458549497510429239, 16910340766490449163, 6155471426832842684, 3718413580092596991, 13568562232056985043, 11131504385316739350, 3867126778395030360, 5828426314639152795, 3391368467898907102, 13241517119863295154, 16535034470930872163, 7938439049185708599, 5501381202445462906, 15351529854409850958, 16468781274545484200, 11575707245572787834, 18083348001674786259, 13190273972702089893, 15299557345819720190, 10406483316847023824, 16914124072949022249, 4975020755341469058, 14130333417093956180, 2191230099486402989, 15744900144223258239, 3805796826615705048, 5915080199733335345, 1022006170760638979, 7529646926862637404, 2636572897889941038, 4745856271007571335, 18299526315744426585, 6360422998136873394, 12868063754238871819, 18430080810789606635, 9138649398832542141, 15646290154934540566, 10753216125961844200, 17260856882063842625, 7969425470106778131, 14477066226208776556, 2537962908601223365, 16091632953338078615, 4152529635730525424, 18211732492502754470, 6272629174895201279, 12780269930997199704, 3488838519040135210, 9996479275142133635, 5103405246169437269, 1726287955037325289, 3835571328154955586, 10343212084256954011, 5450138055284257645, 11957778811386256070, 132049935382488388, 13685719980119343638, 1746616662511790447, 15300286707248645697, 2093349471626610823, 11248662133379097945, 17756302889481096370, 12432896111329044657, 14542179484446674954, 17884687380309064581, 5945584062701511390, 1399242842843635400, 7906883598945633825, 4203362206173166627, 13358674867925653749, 14542908845875600461, 12948670826220763560, 14909970362464885995, 1072197730649945511, 16652921580422156265, 14215863733681910572, 17019983097011441799, 14582925250271196106, 316190241259160453, 16325876468228466376, 276887196471888242, 6784527952573886667, 1891453923601190301, 4000737296718820598, 17554407341455675848, 5615304023848122657, 12122944779950121082, 2831513367993056588, 9339154124095055013, 4446080095122358647, 10953720851224357072, 6060646822251660706, 8169930195369291003, 2238186732716010677, 4347470105833640974, 17901140150570496224, 5962036832962943033, 1068962803990246667, 3178246177107876964, 7689978001696030601, 14197618757798029026, 9304544728825332660, 15812185484927331085, 10983495352763607610, 6090421323790911244, 12598062079892909669, 2386899931018444046, 8894540687120442471, 18396586157987749969, 6457482840380196778, 9799990736242586405, 13093508087310163414, 15054807623554285849, 2059854818824754157, 4021154355068876592, 9472945624048896516, 17164820358100841653, 5105596920068853368, 11613237676170851793, 18120878432272850218, 13227804403300153852, 15337087776417784149, 10444013747445087783, 16951654503547086208, 12058580474574389842, 14167863847692020139, 2228760530084466948, 7909716283398384595, 3016642254425688229, 9524283010527686654, 232851598570622160, 6740492354672620585, 5472658436658138902, 579584407685442536, 7087225163787440961, 15322807088622526954, 10429733059649830588, 7215609654615409172, 13723250410717407597, 9176909190859531607, 7582671171204694706, 9543970707448817141, 2279593100527108151, 11286921925406087411, 14411297678166854278, 9518223649194157912, 11627507022311788209, 18135147778413786634, 13242073749441090268, 1302970431833537077, 10458283093586024199, 16965923849688022624, 5814702256421690714, 7923985629539321011, 3030911600566624645, 9538552356668623070, 3377644409681445021, 9885285165783443446, 6671161760749022030, 1778087731776325664, 16521310412713410082, 14084252565973164389, 5487657144228000825, 8781174495295577834, 16666147673802809936, 4727044356195256745, 13882357017947743867, 1943253700340190676, 8450894456442189101, 3557820427469492735, 3671194869073278244, 10178835625175276669, 16686476381277275094, 5632494405317400679, 12140135161419399104, 3195436558577154986, 329416334639814124, 16339102561609120047, 3126746975206891102, 16680417019943746352, 4741313702336193161, 18294983747073048411, 1957523046481127092, 5088046511451013537, 14243359173203500659, 10539837780431033461, 2432640346423915679, 5236759709753446906, 7955456698803856228, 14463097454905854653, 9570023425933158287, 16077664182035156712, 11184590153062460346, 17805605350768244280, 5866502033160691089, 1320160813302815099, 4613678164370392108, 10065469433350412032, 1832059590981500487, 10987372252733987609, 17495013008835986034, 12601938979863289668, 13014426057769343113, 8121352028796646747, 10577368211029097420, 1980772789283933856, 1069263378828261180, 14622933423565116430, 16732216796682746727, 4793113479075193536, 17078949605797567103, 12185875576824870737, 8482354184052403539, 6045296337312157846, 8994252961731088927, 4101178932758392561, 6210462305876022858, 8775904643444236762, 10737204179688359197, 15203673860523227216, 5912242448566162722, 12419883204668161147, 2208721055793695524, 4170020592037817959, 13060166473174814746, 1121063155567261555, 14674733200304116805, 4463571051429651182, 6424870587673773617, 10965152446198120865, 17472793202300119290, 8528094599457875172, 443397955391396996, 6951038711493395421, 3736915306458974005, 5272107678988362122, 11779748435090360547, 2406087455051021260, 1861639561184634118, 11016952222937121240, 7313430830164654042, 16832658432722318690, 495197732130397371, 3837705627992786998, 3293257734126399856, 16846927778863255106, 13632804373828833690, 8121967457723364982, 14629608213825363407, 5255947233786024120, 11757528628554493803, 1235774137747769934, 3490624133383725592, 10971827236458367842, 13226677232094323500, 11131663205117629619, 6340483912118728452, 8595333907754684110, 16076537010829326360, 18331387006465282018, 16236372979488588137, 11445193686489686970, 11924039387474002557, 2734502711490733262, 4989352707126688920, 2894338680149995039, 677019115112103340, 17028749161844961075, 7839212485861691780, 5744198458884997899, 16083755669521854734, 18193039042639485031, 13299965013666788665, 1360861696059235474, 14914531740796090724, 17023815113913721021, 5084711796306167830, 191637767333471464, 6699278523435469889, 1806204494462773523, 3915487867580403820, 17469157912317259070, 5530054594709705879, 12037695350811704304, 2746263938854639810, 9253904694956638235, 4360830665983941869, 10868471422085940294, 1577040010128875800, 8084680766230874225, 14592321522332872650, 9699247493360176284, 11808530866477806581, 6915456837505110215, 13423097593607108640, 8530023564634412274, 930528946879880127, 14484198991616735377, 16593482364734365674, 11700408335761669308, 18208049091863667733, 6268945774256114542, 15424258436008601664, 3485155118401048473, 17038825163137903723, 5099721845530350532, 7209005218647980829, 2315931189675284463, 8823571945777282888, 10780677598844268179, 12889960971961898476, 7996886942989202110, 14504527699091200535, 9611453670118504169, 11720737043236134466, 6827663014263438100, 13335303770365436525, 8343619752104022486, 3450545723131326120, 5559829096248956417, 12067469852350954842, 7174395823378258476, 13682036579480256901, 5906561905363776793, 1013487876391080427, 7521128632493078852, 9630412005610709149, 4737337976638012783, 3040541681426435931, 12195854343178923053, 256751025571369862, 6764391781673368287, 603483834686190238, 14157153879423045488, 2218050561815492297, 10453632486650578290, 16961273242752576715, 7669841830795512221, 8016574639910332597, 3123500610937636231, 5150554415972991735, 14305867077725478857, 2713496569232746042, 16267166613969601292, 276438722492500349, 13830108767229355599, 10126587374456888401, 16634228130558886826, 13420104725524465410, 4823509303779301846, 2386451457039056153, 12236600109003444205, 9799542262263198512, 13093059613330775521, 4496464191585611957, 6457763727829734392, 11909554996809754316, 15203072347877331325, 17164371884121453760, 8567776462376290196, 6130718615636044503, 2465721319409268244, 8973362075511266669, 11082645448628896966, 6189571419656200600, 12697212175758199025, 7804138146785502659, 9913421519903132956, 5020347490930436590, 11527988247032435015, 18035629003134433440, 8744197591177368946, 15251838347279367371, 10358764318306671005, 5759238670476845253, 12266879426578843678, 2975448014621779184, 9483088770723777609, 4590014741751081243, 11097655497853079668, 15609387322441233305, 17718670695558863602, 12825596666586167236, 886493348978614045, 13172329475700987612, 1233226158093434421, 14786896202830289671, 4575734053955824048, 11083374810057822473, 2138676207215578355, 8646316963317576780, 17719400056987789109, 15282342210247543416, 12845284363507297723, 4248688941762134159, 7542206292829711168, 17392354944794099220, 14955297098053853527, 13103639892330723728, 8210565863358027362, 14718206619460025787, 5426775207502961293, 11934415963604959718, 7041341934632263352, 13548982690734261777, 15658266063851892074, 17712611334225334860, 5773508016617781669, 12281148772719780094, 7388074743747083728, 2069986623845314471, 15623656668582169721, 4031286160089436906, 13186598821841924028, 15213652626877279532, 12776594780137033839, 3337179531306461483, 6141298894635992710, 9627914690158856684, 16135555446260855109, 11242481417288158743, 17750122173390157168, 1412661472798235849, 14966331517535091099, 11589214226402979119, 13698497599520609416, 8805423570547913050, 4324836619481270129, 10832477375583268554, 1887778772741024436, 11737927424705412488, 13699226960949534923, 486871374547305978, 14040541419284161228, 16149824792401791525, 11256750763429095159, 17764391519531093584, 10826418014249739812, 17334058770351738237, 2229822592504576248, 18239508819473882171, 15802450972733636478, 2741721370183261636, 4851004743300891933, 18404674788037747183, 6465571470430193992, 304663523443015943, 6812304279545014368, 11487029990230858569, 13448329526474981004, 7570431093780226762, 14078071849882225187, 16187355222999855484, 5133373247039981069, 7937492610369512296, 12477774468893859544, 7584700439921163178, 14092341196023161603, 4370577034886741762, 7174696398216272989, 14732624464529815202, 2793521146922262011, 16693924000773937637, 5591581148918264496, 698507119945568130, 3154523302178018803, 10420290872515229622, 16927931628617228047, 7983233025774983929, 3926919462554167613, 10434560218656166038, 11618794196606112750, 17582484243264818062, 12689410214292121696, 1097039705799388881, 1390590165191222104, 13270150651250232482, 15525000646886188140, 9031629236925126131, 4240449943926224964, 4719295644910540551, 18374860425621191000, 14899135223449323956, 14136339011296084649, 16317376829242561078, 9824005419281499069, 5032826126282597902, 1557100924110730858, 16794647716458615764, 4855544398851062573, 11363185154953060998, 2071753742995996504, 8579394499097994929, 3686320470125298563, 10193961226227296988, 12303244599344927285, 7410170570372230919, 13917811326474229344, 9024737297501532978, 15532378053603531403, 6240946641646466909, 12748587397748465334, 809484080140912143, 14363154124877767393, 16472437497995397690, 11579363469022701324, 18087004225124699749, 13193930196152003383, 1152023006078595375, 14705693050815450625, 16814976423933080922, 11921902394960384556, 18429543151062382981, 6490439833454829790, 15645752495207316912, 3706649177599763721, 17260319222336618971, 5321215904729065780, 17161709233047901298, 12268635204075204932, 329531886467651741, 13883201931204506991, 15992485304322137288, 4053381986714584097, 8565113811302737734, 3672039782330041368, 10179680538432039793, 12288963911549670090, 7395889882576973724, 6128055964562492041, 1234981935589795675, 7742622691691794100, 14250263447793792525, 16467602604264925875, 4528499286657372684, 11036140042759371109, 824977893884905486, 14378647938621760736, 2786277430129027921, 11941590091881515043, 8238068699109047845, 3344994670136351479, 11531586050176624854, 6638512021203928488, 2934990628431461290, 497932781691215597, 2459232317935338032, 13641598784723180658, 15602898320967303093, 2607945516237771401, 4569245052481893836, 14908791692184327670, 17712911055513858897, 15275853208773613204, 6272893225651891895, 12780533981753890320, 7887459952781193954, 14395100708883192379, 5103669296926127885, 11611310053028126310, 18118950809130124735, 13225876780157428369, 15335160153275058666, 10442086124302362300, 16123041877616279947, 4183938560008726756, 10691579316110725181, 1400147904153660687, 7907788660255659112, 969815154974305340, 7477455911076303765, 2584381882103607399, 10819963806938693392, 17327604563040691817, 8382905960198447699, 14890546716300446124, 10344205496442570134, 3079827889520861144, 642770042780615451, 10492918694745003503, 8055860848004757810, 15578593983749892805, 10685519954777196439, 12794803327894826736, 7901729298922130370, 14409370055024128795, 9516296026051432429, 15360245665463040640, 3421142347855487449, 9928783103957485874, 17321545201707163075, 984084501115241756, 14884487354966917382, 17688606718296448609, 9581409284289330827, 1960559633637306315, 15514229678374161565, 17623513051491791862, 5684409733884238671, 791335704911542305, 13142926100425148941, 8249852071452452575, 15104225636669271376, 6507630214924107812, 4070572368183862119, 1197763421484067008, 7705404177586065433, 2812330148613369067, 9319970904715367492, 11047912073448455060, 17555552829550453485, 8610854226708209367, 14258804963045803, 9122753004386894755, 4229678975414198389, 10737319731516196814, 526157582641731191, 3819674933709308200, 11377603000022850413, 17885243756124848838, 2781007578277686849, 11856448701007166000, 18364089457109164425, 8990428477069825138, 7065269408008264833, 13572910164110263258, 16915418059972652885, 571897998047202824, 7079538754149201249, 16152621847819413578, 14227462778757853273, 14706308479742168860, 16961158475378124518, 12169979182379223351, 5676607772418161342, 15746494706084903388, 1364274180403575762, 3619124176039531420, 12924824934137532330, 10781317546789119860, 2870221412839067464, 9377862168941065889, 4484788139968369523, 6594071513085999820, 13101712269187998245, 8208638240215301879, 14716278996317300304, 5424847584360235810, 11932488340462234235, 7039414311489537869, 13547055067591536294, 15656338440709166591, 10763264411736470225, 17270905167838468650, 12377831138865772284, 14487114511983402581, 433163566098821771, 6940804322200820196, 2047730293228123830, 8555371049330122255, 10664654422447752552, 5771580393475056186, 12279221149577054611, 7386147120604358245, 10283312218063209823, 16790952974165208248, 4851849656557655057, 14007162318310142179, 2068059000702588988, 13576829569130786832, 1637726251523233641, 15191396296260088891, 3252292978652535700, 4980234147385623268, 11487874903487621693, 6594800874514925327, 2543176300645377575, 9050817056747376000, 4504475836889500010, 6613759210007130307, 15686842303677342636, 3747738986069789445, 17648141839921465071, 4653189035191933379, 6614488571436055814, 17796855038223898440, 15359797191483652747, 17321096727727775182, 8724501305982611618, 12018018657050188627, 16525786193549717913, 11632712164577021547, 13741995537694651844, 8848921508721955478, 15356562264823953903, 3417458947216400712, 12572771608968887834, 633668291361334643, 14088728346809472220, 9195654317836775854, 15703295073938774279, 10810221044966077913, 5492132925064308656, 599058896091612290, 3055075078324062963, 16608745123060918213, 189054854386722101, 16198741081356028024, 7602145659610864460, 5165087812870618767, 17004631894534033500, 5065528576926480309, 14220841238678967431, 2281737921071414240, 15835407965808269490, 14567574047793787807, 2628470730186234616, 11701553823856446945, 9264495977116201252, 667900555371037688, 812737816460437542, 2922021189578067839, 9429661945680066264, 4536587916707369898, 17665243870515152257, 12772169841542455891, 1179799333049723076, 11519345972752156910, 8737727399363265289, 10847010772480895586, 5953936743508199220, 1473349792441556299, 3434649328685678734, 7974931187210025982, 14482571943312024407, 5537873340469780289, 5757611622172134283, 864537593199437917, 15607760274136522335, 3662597595195440402, 5771880968313070699, 1225539748455194709, 5917447590831396060, 10824790965945028842, 15653500689541993968, 5131746198735270099, 8767307369566398920, 16692296952469226667, 56616394567445212, 979248575379946296, 1388483157837639803, 14942153202574495053, 3003049884966941862, 9510690641068940287, 219259229111875793, 6726899985213874218, 1833825956241177852, 8341466712343176277, 17496779374095663399, 5557676056488110208, 12065316812590108633, 7172242783617412267, 9281526156735042564, 3349782694081762238, 12505095355834249360, 565992038226696169, 14119662082963551419, 2180558765355998228, 4289842138473628525, 912724847341516545, 14466394892078371795, 2527291574470818604, 11682604236223305726, 16493448697113727299, 7202017285156662805, 13709658041258661230, 14056390850373481606, 9163316821400785240, 5459795428628318042, 14615108090380805164, 3022737581888072349, 12872886233852460401, 16166403584920037410, 13729345738179791717, 5132750316434628153, 2695692469694382460, 18276416319466593214, 16359502029375324375, 4420398711767771184, 10928039467869769609, 6034965438897073243, 8144248812014703540, 3251174783042007174, 5604632689717717896, 7713916062835348193, 2820842033862651827, 3167574842977472203, 9675215599079470628, 13017723494941860255, 10580665648201614562, 3316288041279905572, 4122178854457911048, 10629819610559909473, 17137460366661907898, 7846028954704843404, 1685121007717665355, 8192761763819663780, 4489240371047196582, 14828787010749630416, 17777743635168561497, 5838640317561008306, 14993952979313495428, 15340685788428315804, 6744090366683152240, 11284372225207499488, 17792012981309497913, 13245671761451621923, 6493192932208598321, 1600118903235901955, 8454492468452720756, 6972038633192913908, 2180859340194012741, 17151878211731697313, 16389081999578458006, 10265684891756102265, 12076748407563872426, 1554993916757148557, 767157389950946259, 7274798146052944684, 13782438902154943109, 4491007490197878615, 10998648246299877040, 6105574217327180674, 12613214973429179099, 3321783561472114605, 9829424317574113030, 16337065073676111455, 11443991044703415089, 3571276753280477486, 17124946798017332736, 787486097425411417, 14341156142162266667, 2402052824554713476, 1134218906540231793, 14687888951277087043, 2748785633669533852, 11473765546242665627, 17981406302344664052, 2877170124497502063, 9384810880599500488, 440112277757256370, 3244231641086787597, 13583778280789221431, 15545077817033343866, 13950839797378506965, 4511424548547934609, 10072858148048947169, 781426736091882675, 7289067492193881100, 13796708248295879525, 8903634219323183159, 7635800301308701476, 2742726272336005110, 371422694386992486, 2332722230631114921, 12182870882595502973, 7929350760700534699, 14436991516802533124, 9543917487829836758, 9890650296944657134, 1294054875199493570, 3138171467701633532, 16691841512438488782, 5099471003945755967, 3617017168685949119, 10124657924787947544, 5578316704930071554, 5871867164321904777, 15177567922419905687, 13034060535071493217, 9484523155210146944, 8721726943056907637, 16646716525959735384, 5289475160040949575, 11797115916142948000, 2505684504185883506, 9013325260287881931, 15520966016389880356, 10627891987417183990, 12737175360534814287, 7844101331562117921, 14351742087664116346, 9458668058691419980, 8582992511108526584, 15090633267210525009, 10197559238237828643, 12306842611355458940, 7413768582382762574, 18433141163072914636, 6494037845465361445, 15649350507217848567, 15996083316332668943, 4056979998725115752, 13559025469592423250, 1619922151984870059, 10693005245655082388, 8255947398914836695, 18106096050879224747, 15669038204138979054, 12803017980201638192, 498295867042048408, 14051965911778903658, 16161249284896533955, 11268175255923837589, 17775816012025836014, 16507982094011354331, 11614908065038657965, 13641961870074013469, 11204904023333767776, 8767846176593522083, 12451668530790538015, 512565213182984824, 14066235257919840074, 15745185881858115024, 17706485418102237459, 3231991563662319653, 5341274936779949950, 794933716922073960, 8139334938775952435, 3246260909803256069, 11432852289843529444, 10394184934411908093, 5603005641413006926, 6081851342397322513, 3938343955048910043, 13244044713146910953, 17401081992052405396, 12508007963079709030, 568904645472155839, 14122574690209011089, 16231858063326641386, 4292754745719088195, 17846424790455943445, 5907321472848390254, 8804486570307241832, 3911412541334545466, 10419053297436543891, 12528336670554174188, 10765786106551364267, 1474354694594299773, 16217577375531384191, 4278474057923831000, 1064350652889409584, 3025650189133532019, 8477441458113551943, 10438740994357674378, 18323714172864906480, 1986253472272985161, 8493894228374983586, 3600820199402287220, 16729476153210069579, 11836402124237373213, 8622278719202951797, 25683297457788233, 4784313474268987646, 18337983519005842896, 1918293250331646784, 7039163469904943304, 13546804226006941729, 16889312121869331356, 13248584368697081593, 2726829877890357724, 4981679873526313382, 9889023248639946164, 3476655688432857096, 17030325733169712346, 5091222415562159155, 198148386589462789, 2307431759707093086, 15861101804443948336, 3921998486836395145, 10429639242938393570, 12483984513311836356, 14593267886429466653, 2654164568821913462, 16207834613558768712, 10889746493656999455, 5996672464684303089, 7180906442634249801, 9290189815751880098, 5586668422979412900, 7547967959223535335, 12156939401118146467, 4892561794196437477, 5731505684068812754, 12239146440170811179, 7346072411198114813, 9455355784315745110, 7692805220312935189, 9802088593430565486, 13144596489292955113, 15105896025537077548, 3636491657092118873, 5745775030209749170, 1199433810351873180, 1419172092054227174, 14972842136791082424, 11269320744018615226, 16390190963591911746, 8581365462803815614, 5105640260631948570, 11315061159424086859, 13439304105050654388, 15548587478168284685, 10655513449195588319, 17163154205297586744, 12270080176324890378, 14379363549442520675, 9486289520469824309, 11002246258310408695, 17509887014412407120, 8218455602455342626, 8565188411570163002, 3672114382597466636, 5699168187632822140, 3262110340892576447, 13112258992856964499, 10675201146116718806, 2917549614243930519, 12072862275996417641, 133758958388864450, 13257096253946364353, 10820038407206118660, 12712648360079977211, 3421216948122912717, 18164439629059997135, 6983463125687656338, 16289163883785657248, 97269805712061290, 4161793353740285280, 5674415376436023959, 781341347463327593, 7288982103565326018, 16444294765317813140, 4505191447710259949, 18058861492447115199, 2808395152498683097, 11963707814251170219, 24604496643617028, 7417366594393294229, 13925007350495292654, 4980308747653048536, 7784428110982579763, 18123974750685013597, 7929265372071979617, 14436906128173978042, 5145474716216913548, 17779414024036367669, 15342356177296121976, 8408111073056295204, 14915751829158293629, 1143733466134586214, 3616931780057394037, 15570304443805883644, 10779125150806982477, 12941938724269596032, 1002835406662042841, 7510476162764041266, 16665788824516528388, 4726685506908975197, 18280355551645830447, 16235456075337173041, 4296352757729619850, 17850022802466475100, 7638860653592009477, 14146501409694007902, 5201802806851763784, 7163102343095886219, 18345468809883728845, 8150759431270694865, 14658400187372693290, 9765326158399996924, 5713701584530449172, 2847681360593108310, 6055745404294000984, 8165028777411631281, 9349262755361577993, 15312952802020283305, 3075629627102869978, 18046648498640554550, 2700723939787036195, 4810007312904666492, 18363677357641521742, 6424574040033968551, 12932214796135966976, 5994241290854613204, 12501882046956611629, 11446032559834633128, 13407332096078755563, 4810736674333591999, 483404374749144496, 14037074419485999746, 10333553026713532548, 12436777038497634103, 14691627034133589761, 5550583718522039055, 2423529536371033981, 4532812909488664278, 18086482954225519528, 6147379636617966337, 12655020392719964762, 18433215763340339904, 6494112445732786713, 9836620341595176340, 7399562494854930647, 4533542270917589785, 10348519119273861728, 16856159875375860153, 13642036470341438737, 9585722907120622421, 14414432630717587547, 5273389315106036841, 2645023595569749229, 9152664351671747654, 18307977013424234776, 6368873695816681585, 12876514451918680010, 207965748829503536, 6715606504931501961, 2169265285073625971, 13351631751861468597, 10914573905121222904, 16300588376280399678, 7009156964323335184, 13863530529540153985, 1918367850599072052, 16889386722136756624, 9080561221348660492, 13326878940664670416, 8433804911691974050, 14941445667793972475, 3002342350186419284, 10460858716727329554, 5567784687754633188, 8023800869987083861, 9985100406231206296, 15581728936300626074, 3642625618693072883, 6985133514555462510, 6440685620689075368, 8695535616325031026, 3085664156182110579, 16639334200918965829, 301873500327044510, 13855543545063899760, 12935812808146498631, 3644381396189434137, 4828615374139380849, 3234377354484543948, 15803222995499341322, 3864119677891788131, 17764522531743463757, 6662179679887790616, 8917029675523746274, 2808469752766108365, 16362139797502963615, 24679096911042296, 13578349141647897546, 12658618404730496417, 3367186992773431923, 10221560557990250724, 1624965136245087160, 175564377679650113, 13729234422416505363, 9182893202558629373, 17016692412150553630, 2909260074299921358, 3029963811964823613, 16583633856701678863, 4644530539094125672, 13799843200846612794, 7638935253859434745, 14146576009961433170, 10443054617188965972, 8005996770448720279, 18000982683502508185, 6061879365894954994, 2847755960860533578, 17238186471349268878, 11114789363526913137, 13883165006842304089, 1944061689234750898, 15497731733971606148, 5286569585097140525, 7247869121341262960, 7759767899019948348, 9570831414827718509, 18405482776932307405, 6466379459324754214, 1573305430352057848, 1920038239466878224, 13102404706254720850, 9185805809804089043, 14093149184917721825, 2875357831205696256, 12030670492958183378, 91567175350630187, 438299984465450563, 5047271426360061695, 17402590222915195331, 1210696144841599373, 10460933316994754822, 5567859288022058456, 12075500044124056881, 1864337895249591258, 17874024122218897181, 18385922899897582569, 3574739997019159774, 8108567648232460602, 3215493619259764236, 9723134375361762661, 5671509801492214909, 15521658453456602961, 7206702174021603026, 3796234056217875022, 15204745146283473386, 10311671117310777020, 16819311873412775445, 5765329897452901030, 9058847248520478039, 17459595141919429044, 3077374616238101418, 10306327336235627465, 5413253307262931099, 7869269489495381772, 10785173037219943052, 10527821395434342713, 5634747366461646347, 8090763548694097020, 14592344943462566703, 9808961955454569109, 16316602711556567534, 6942941731517228247, 11989999773401045538, 15761031212461107059, 3821927894853553868, 17722330748705229494, 5239276721654383190, 17737296841265558674, 5798193523658005483, 9140701419520395110, 4962082318238380976, 17958790900464273922, 6019687582856720731, 15521733053724028229, 7437036409657550053, 18180284959662989170, 6241181642055435979, 15743227112922743477, 3798064433981661544, 14813753614032726869, 5522322202075662375, 7549376007111017879, 17068603609668682527, 9365108085964570028, 11474391459082200325, 6928050239224324335, 17290097668867397775, 6943016331784653515, 13450657087886651940, 9747135695114184742, 14868005914687481262, 7164510390983368763, 13672151147085367188, 9125809927227491198, 15089499973886196510, 11686828161073372079, 18194468917175370504, 14980345512140949088, 6895648868074470912, 4019473104551821710, 17573143149288676960, 15201839571339664336, 6274323100187777368, 9583764138185250874, 16091404894287249299, 12877281489252827883, 8820967926032011567, 7549450607378443147, 12169302049561526523, 892547651592466920, 9968704354580325258, 8820882537403456485, 1153527480881906116, 17247905885829163512, 11240136284605338596, 15047308190847962247, 16473346101632102942, 6232131317149543105, 17466561938049844358, 4031533622168341840, 8651385064351425216, 8775345451457060404, 6450787369370223951, 830795991519507821, 16082354569381356425, 16303848628580071673, 2379422324960523373, 54864242873686920, 5909399827787144810, 16688788844975146057, 9810391829990454582, 8328653574989026921, 661298518467476552, 17960220775000159395, 5894508335494240898, 15759623080018958130, 15981117139217673378, 6944446206320538988, 7165940265519254236, 16242096968507112574, 9363699953522421099, 13170871859765044750, 7550880481914328620, 7384596317739935082, 15590125606966926861, 9970134229116210731, 2376591350284139591]
theorem lits4_is : (smallT 4 80).map hN = lits4 := by decide +kernel
theorem lits4_ok : lits4.Nodup := class_nod (m := 64) (by decide) (by decide +kernel)

theorem seat_nats : ∀ {ns t : List Int} {b : Nat}, SeatOk ns t → (∀ n ∈ ns, 1 ≤ n) → prodL ns ≤ (b : Int) → ∃ ks ∈ smallT ns.length b, t = ks.map fun k : Nat => (k : Int)
  | [], [], b, _, _, _ => ⟨[], List.mem_cons_self, rfl⟩
  | [], _ :: _, _, h, _, _ => by cases h.len
  | _ :: _, [], _, h, _, _ => by cases h.len
  | n :: ns, x :: t, b, h, one, pr => by
    obtain ⟨⟨x0, x1⟩, h2⟩ : (0 ≤ x ∧ x < n) ∧ SeatOk ns t := h
    have n1 := one n List.mem_cons_self
    have o2 : ∀ m ∈ ns, 1 ≤ m := fun m hm => one m (List.mem_cons_of_mem _ hm)
    have p1 := prodL_pos o2
    rw [prodL_cons] at pr
    have nb : n ≤ b := by
      have := Int.mul_le_mul_of_nonneg_left p1 (show 0 ≤ n by omega)
      omega
    have hx : (x.toNat : Int) = x := Int.toNat_of_nonneg x0
    have pb : prodL ns ≤ ((b / (x.toNat + 1) : Nat) : Int) := by
      have h1 : (x + 1) * prodL ns ≤ b := Int.le_trans (Int.mul_le_mul_of_nonneg_right (show x + 1 ≤ n by omega) (by omega)) pr
      have h2 : prodL ns * (x + 1) ≤ b := by rw [Int.mul_comm]; exact h1
      have h3 := (Int.le_ediv_iff_mul_le (show 0 < x + 1 by omega)).mpr h2
      have e : ((b / (x.toNat + 1) : Nat) : Int) = (b : Int) / (x + 1) := by
        rw [Int.natCast_ediv, Int.natCast_add, hx]
        rfl
      rw [e]
      exact h3
    obtain ⟨ks, hk, e⟩ := seat_nats h2 o2 pb
    refine ⟨x.toNat :: ks, List.mem_flatMap.mpr ⟨x.toNat, List.mem_range.mpr (by omega), List.mem_map_of_mem hk⟩, ?_⟩
    rw [List.map_cons, hx, ← e]
theorem hN_is (w : World) (ks : List Nat) : hN ks = (CD.hT w (entK (ks.map fun k : Nat => (k : Int))) + 2 ^ 63).toNat := by
  unfold hN CD.hT
  rw [List.map_map, List.map_map]
  rfl
theorem nod_inj {α β : Type} {f : α → β} : ∀ {l : List α}, (l.map f).Nodup → ∀ {a b : α}, a ∈ l → b ∈ l → f a = f b → a = b
  | x :: l, h, a, b, ha, hb, e => by
    obtain ⟨h1, h2⟩ := List.nodup_cons.mp h
    rcases List.mem_cons.mp ha with ea | ha2
    · rcases List.mem_cons.mp hb with eb | hb2
      · rw [ea, eb]
      · exact absurd (by rw [← ea, e]; exact List.mem_map_of_mem hb2) h1
    · rcases List.mem_cons.mp hb with eb | hb2
      · exact absurd (by rw [← eb, ← e]; exact List.mem_map_of_mem ha2) h1
      · exact nod_inj h2 ha2 hb2 e
theorem small_nod {l : Nat} (h : 1 ≤ l ∧ l ≤ 4) : ((smallT l 80).map hN).Nodup := by
  obtain ⟨h1, h2⟩ := h
  match l, h1, h2 with
  | 1, _, _ => rw [lits1_is]; exact lits1_ok
  | 2, _, _ => rw [lits2_is]; exact lits2_ok
  | 3, _, _ => rw [lits3_is]; exact lits3_ok
  | 4, _, _ => rw [lits4_is]; exact lits4_ok
  | l + 5, _, h => omega
theorem hash_ne {ns : List Int} (ok : SzOk ns) (pr : prodL ns ≤ 80) (w : World) {p q : List Int} (hp : SeatOk ns p) (hq : SeatOk ns q) (e : CD.hT w (entK p) = CD.hT w (entK q)) : p = q := by
  obtain ⟨ks, h1, rfl⟩ := seat_nats (b := 80) hp ok.one pr
  obtain ⟨js, h2, rfl⟩ := seat_nats (b := 80) hq ok.one pr
  have := nod_inj (small_nod ⟨List.length_pos_iff.mpr ok.pos, ok.le⟩) h1 h2 (by rw [hN_is w, hN_is w, e])
  rw [this]
/-- the keys of a dict of seats -/
theorem hash_nod {ns : List Int} (ok : SzOk ns) (pr : prodL ns ≤ 80) (w : World) : ∀ {fs : List (List Int × Nat)}, (keysL fs).Nodup → (∀ t ∈ keysL fs, SeatOk ns t) → ((fs.map entV).map fun p => CD.hT w p.1).Nodup
  | [], _, _ => List.nodup_nil
  | f :: fs, h, s => by
    obtain ⟨h1, h2⟩ := List.nodup_cons.mp (show (f.1 :: keysL fs).Nodup from h)
    refine List.nodup_cons.mpr ⟨fun z => ?_, hash_nod ok pr w h2 fun t ht => s t (List.mem_cons_of_mem _ ht)⟩
    obtain ⟨p, hp, e⟩ := List.mem_map.mp z
    obtain ⟨g, hg, rfl⟩ := List.mem_map.mp hp
    have := hash_ne ok pr w (s f.1 List.mem_cons_self) (s g.1 (List.mem_cons_of_mem _ (List.mem_map_of_mem hg))) e.symm
    exact h1 (by rw [this]; exact List.mem_map_of_mem hg)

theorem sif_cut {c : TT} {t u r : TS} {D : Ends} {σ : L2.St} {H : Hp} (R : L2.St → Hp → Prop) (h : ∀ N : L2.St → Hp → Prop, (∀ σ2 H2, R σ2 H2 → N σ2 H2) → tIfS c t u { D with nx := N } σ H) (hR : ∀ σ2 H2, R σ2 H2 → r D σ2 H2) : tSeq (tIfS c t u) r D σ H :=
  ifs_cutG (D := { D with nx := r D }) R hR h
theorem mul_le_prod {ns : List Int} (h : ∀ n ∈ ns, 1 ≤ n) {i : Nat} {n : Int} (hn : ns[i]? = some n) : n ≤ prodL ns := by
  have o1 : ∀ m ∈ ns.take i, 1 ≤ m := fun m hm => h m (List.mem_of_mem_take hm)
  have a1 : prodL (ns.take (i + 1)) ≤ prodL ns := prodL_take (i + 1) h
  have n1 := h n (List.mem_of_getElem? hn)
  rw [take_more hn, prodS_snoc] at a1
  have a2 := prodL_pos o1
  have a3 : 1 * n ≤ prodL (ns.take i) * n := Int.mul_le_mul_of_nonneg_right a2 (by omega)
  omega
section
variable {P : Program} {w : World} {K : PySem.W.Frag} {mg : Str → Option Value} {base : Heap}
def sp_law_seats : Sp := fun vs H Q _ => ∃ (l : Addr) (ns : List Int), vs = [.ref l] ∧ H l = some (.lst (ns.map V.int)) ∧ SzOk ns ∧ prodL ns ≤ 300 ∧ ∀ q H2, Ex H H2 → H q = none → RowsAt H2 q (allS ns) → Q (.ref q) H2
theorem ok_law_seats (T : TX K mg) : FnOk P w K mg base CX0 1 T.f_law_seats T.fd_law_seats ["_law_rings_here"] sp_law_seats := by
  refine T.F_law_seats.ok sc_law_seats (fun vs H Q E h => ?_) (fun cdv A outer s H vs Q E hr h => ?_)
  · obtain ⟨l, ns, rfl, _⟩ := h
    rfl
  · obtain ⟨l, ns, rfl, hl, ok, pr, k⟩ := h
    have l4 := ok.le
    refine ⟨_, (pss_cons (ps_set (i := 1) sc_law_seats.nd rfl (Or.inl rfl) (pe_lst (pa_cons (pe_tup pa_nil) pa_nil))) (pss_cons (ps_for PassesOwn.never rfl (pi_list (pv 0)) (pg_name (i := 2) sc_law_seats.nd rfl (Or.inl rfl)) (pss_cons (ps_set (i := 3) sc_law_seats.nd rfl (Or.inl rfl) (pe_lst pa_nil)) (pss_cons (ps_for PassesOwn.never rfl (pi_list (pv 1)) (pg_name (i := 4) sc_law_seats.nd rfl (Or.inr rfl)) (pss_one (ps_expr (pe_bm PySem.F.plainAttrs_list PySem.F.slot_list_extend PySem.F.type_list_extend mt_extend (pv 3) (pa_cons (pe_lc (own := [("_law_place", 5)]) (g := (gName 5)) rfl sc_law_seats.nd (pi_range1 rfl T.z_range (pa_cons (pv 2) pa_nil)) (blkOk_by (N := N_law_seats) (sc := defScope s_law_seats) (by decide +kernel)) (fun _ _ _ _ _ => (pg_name (i := 5) sc_law_seats.nd rfl (Or.inl rfl))) (fun _ _ _ _ _ => pts_nil) (fun _ _ _ _ _ => (pe_op (r := rCatA K) op_catA (pv 4) (pe_tup (pa_cons (pv 5) pa_nil))))) pa_nil))))) (pss_one (ps_set (i := 1) sc_law_seats.nd rfl (Or.inl rfl) (pv 3)))))) (pss_one (ps_ret (pv 1))))), ?_⟩
    refine ⟨by show 0 ≤ sizeLine; decide, fun u hu => ⟨by show 1 ≤ sizeLine; decide, fun f hf => ?_⟩⟩
    have e2 : Ex H (upd (upd H u (.tup [])) f (.lst [.ref u])) := ext (exn hu) (exn hf)
    have f0 : H f = none := Evl.fresh_back (exn hu) hf
    refine ⟨_, rfl, l, rfl, ⟨_, SqL.of (e2 _ _ hl)⟩, ?_⟩
    refine for_it (walk_list (xs := ns.map V.int)) (fun i σ H2 => ∃ (f : Addr) (y2 y3 y4 y5 : Option V), σ = [some (.ref l), some (.ref f), y2, y3, y4, y5] ∧ Ex H H2 ∧ H f = none ∧ RowsAt H2 f (allS (ns.take i))) ⟨_, _, _, _, _, rfl, e2, f0, _, upd_same, .cons ⟨u, rfl, by rw [upd_ne (ne_of_none upd_same hf)]; exact upd_same⟩ .nil⟩ (fun i σ H2 _ ⟨_, _, _, _, _, _, e, _⟩ => SqL.of (e _ _ hl)) ?_ ?_
    · rintro i x σ _ H2 hi ⟨f, y2, y3, y4, y5, rfl, e3, f0, ra⟩ ⟨rfl, hx⟩
      obtain ⟨n, hn, rfl⟩ := map_get hx
      have n1 := ok.one n (List.mem_of_getElem? hn)
      have nb := mul_le_prod ok.one hn
      have ezs := take_more hn
      have o1 : ∀ m ∈ ns.take i, 1 ≤ m := fun m hm => ok.one m (List.mem_of_mem_take hm)
      have len : ((allS (ns.take i)).length : Int) ≤ 300 := by
        rw [allS_len o1]
        exact Int.le_trans (prodL_take i ok.one) pr
      have rows : ∀ hs ∈ allS (ns.take i), hs.length ≤ 4 := fun hs hh => by
        rw [rows_allS hs hh, List.length_take]
        omega
      refine ⟨by show 0 ≤ sizeLine; decide, fun L hL => ?_⟩
      obtain ⟨xs, ra5, rr⟩ := id ra
      generalize hh : allS (ns.take i) = hss at rr len rows
      have e4 := exn (o := .lst []) hL
      refine ⟨_, rfl, f, rfl, ⟨_, SqL.of (e4 _ _ ra5)⟩, ?_⟩
      refine for_it (walk_list (xs := xs)) (fun j σ H3 => ∃ y4 y5 : Option V, σ = [some (.ref l), some (.ref f), some (.int n), some (.ref L), y4, y5] ∧ Ex H2 H3 ∧ RowsAt H3 L (crossS (hss.take j) n)) ⟨_, _, rfl, e4, _, upd_same, .nil⟩ (fun j σ H3 _ ⟨_, _, _, e, _⟩ => SqL.of (e _ _ ra5)) ?_ ?_
      · rintro j x σ _ H3 hj ⟨y4, y5, rfl, e5, rb⟩ ⟨rfl, hx⟩
        obtain ⟨hs, r, hhs, rfl, hr4⟩ := rr.get hx
        obtain ⟨ys, hy1, hy2⟩ := id rb
        have hsl := rows hs (List.mem_of_getElem? hhs)
        refine ⟨_, rfl, .inl ⟨rfl, _, SqL.of hy1⟩, _, rfl, n, rfl, by omega, by omega, fun D hD => ?_⟩
        refine lc_rows walk_range hs ((List.range n.toNat).map fun (i : Nat) => (i : Int)) (by simp) (by omega) hD (fun _ _ => True.intro) ?_ gmono_name ?_
        · rintro m x _ H5 R hm e6 ⟨rfl, hx⟩ kk
          obtain rfl : x = .int (m : Int) := hx.trans (congrArg V.int (Int.zero_add _))
          refine ⟨rfl, _, rfl, _, rfl, by show 1 ≤ sizeLine; decide, fun v hv => ?_⟩
          have hm2 : m < n.toNat := hm
          refine cat_row (exn hv _ _ (e6 _ _ (e5 _ _ hr4))) upd_same (by omega) fun z H6 e7 hz => kk _ z H6 (ext (exn hv) e7) ?_ hz
          rw [List.getElem?_map, List.getElem?_range hm2]
          rfl
        · intro H4 e6 rc
          have neL : L ≠ D := ne_of_none hy1 hD
          obtain ⟨as, bs, g1, g2, g3, g4, g5⟩ := rows_ext (rb.mono e6) rc neL
          refine ⟨L, D, as, bs, rfl, rfl, g1, g2, ?_, ?_⟩
          · simp only [g3, g4, crossS_len, List.length_map, List.length_range, List.length_take]
            have : min j hss.length * n.toNat ≤ 300 * 300 := Nat.mul_le_mul (by omega) (by omega)
            exact Nat.le_trans (show _ ≤ 90300 by omega) (by decide)
          · refine ⟨_, _, rfl, ex_upd (ext e5 e6) hL, ?_⟩
            rw [take_more hhs, crossS_snoc]
            rw [List.map_map] at g5
            exact g5
      · rintro σ H3 ⟨y4, y5, rfl, e5, rb⟩
        rw [rr.len, List.take_length] at rb
        rw [ezs, allS_snoc, hh]
        exact ⟨_, rfl, L, _, _, _, _, rfl, ext e3 e5, Evl.fresh_back e3 hL, rb⟩
    · rintro σ H2 ⟨f, y2, y3, y4, y5, rfl, e3, f0, ra⟩
      rw [List.length_map, List.take_length] at ra
      exact ⟨_, rfl, k f _ e3 f0 ra⟩
def sp_law_rings : Sp := fun vs H Q _ => ∃ (s : Addr) (m : Int), vs = [.ref s, .int m] ∧ Src H s ∧ 1 ≤ m ∧ m ≤ 1000 ∧ ∀ (l : Addr) (ns : List Int) H2, H l = none → H2 l = some (.lst (ns.map V.int)) → SzOk ns → prodL ns ≤ m → XB s H H2 → Src H2 s → Q (.ref l) H2
theorem ok_law_rings (T : TX K mg) : FnOk P w K mg base CX0 3 T.f_law_rings T.fd_law_rings ["_law_source_here", "_law_high"] sp_law_rings := by
  refine T.F_law_rings.ok sc_law_rings (fun vs H Q E h => ?_) (fun cdv A outer s H vs Q E hr h => ?_)
  · obtain ⟨s, m, rfl, _⟩ := h
    rfl
  · obtain ⟨s, m, rfl, hs, m0, m1, k⟩ := h
    refine ⟨_, (pss_cons (ps_set (i := 2) sc_law_rings.nd rfl (Or.inl rfl) (pe_lst pa_nil)) (pss_cons (ps_set (i := 3) sc_law_rings.nd rfl (Or.inl rfl) (pv 1)) (pss_cons (ps_for PassesOwn.never rfl (pi_range1 rfl T.z_range (pa_cons (pe_op op_add pe_int (pe_ix ix_list (pe_lst (pa_cons pe_int (pa_cons pe_int (pa_cons pe_int (pa_cons pe_int (pa_cons pe_int pa_nil)))))) (pe_call (ok_law_draw T) hr rfl T.m_law_draw T.F_law_draw.kp T.b_law_draw .nil pass0 (pa_cons (pv 0) (pa_cons pe_int pa_nil))) (fun _ _ => rfl))) pa_nil)) (pg_name (i := 4) sc_law_rings.nd rfl (Or.inl rfl)) (pss_cons (ps_set (i := 5) sc_law_rings.nd rfl (Or.inl rfl) (pe_op op_add pe_int (pe_call (ok_law_draw T) hr rfl T.m_law_draw T.F_law_draw.kp T.b_law_draw .nil pass0 (pa_cons (pv 0) (pa_cons (pv 3) pa_nil))))) (pss_cons (ps_if (PW.pt (pw_and (pt_cmpR op_gt (pv 4) pe_int (nomark _)) (pw_and1 (pt_cmpR op_gt (pv 5) pe_int (nomark _))))) (pss_one (ps_set (i := 5) sc_law_rings.nd rfl (Or.inl rfl) (pe_op op_add pe_int (pe_op op_mod (pv 5) pe_int)))) pss_nil) (pss_cons (ps_expr (pe_bm PySem.F.plainAttrs_list PySem.F.slot_list_append PySem.F.type_list_append mt_append (pv 2) (pa_cons (pv 5) pa_nil))) (pss_one (ps_set (i := 3) sc_law_rings.nd rfl (Or.inl rfl) (pe_callB (call_max2 rfl) (by rfl) T.z_max (by decide +kernel) (pa_cons pe_int (pa_cons (pe_op op_fdivW (pv 3) (pv 5)) pa_nil))))))))) (pss_one (ps_ret (pv 2)))))), ?_⟩
    refine ⟨slen rfl, ?_⟩
    (intro l nl; generalize hGl : upd _ l _ = H1; have eH1 := exG hGl nl; have hl := atG hGl; clear hGl)
    dsimp only [gName]
    have nls : l ≠ s := hs.ne nl
    refine ⟨_, rfl, ?_⟩
    dsimp only [gName]
    refine ⟨slen rfl, ?_⟩
    (intro al nal; generalize hGal : upd _ al _ = H2; have eH2 := exG hGal nal; have hal := atG hGal; clear hGal)
    have E2 := ext eH1 eH2
    have nals : al ≠ s := (hs.mono eH1).ne nal
    refine ⟨_, rfl, s, 5, rfl, hs.mono E2, by decide, by decide +kernel, fun r H3 r0 r1 xb3 src3 => ?_⟩
    obtain ⟨v, hv, hm⟩ := atI_nat (xs := [V.int 0, V.int 0, V.int 1, V.int 2, V.int 3]) r0 r1
    obtain ⟨z, rfl, z0, z3⟩ : ∃ z : Int, v = .int z ∧ 0 ≤ z ∧ z ≤ 3 := by
      simp only [List.mem_cons, List.not_mem_nil, or_false] at hm
      rcases hm with rfl | rfl | rfl | rfl | rfl
      all_goals exact ⟨_, rfl, by omega, by omega⟩
    refine ⟨al, _, _, _, rfl, rfl, SqL.of (xb3 _ _ nals hal), hv, _, _, rfl, rfl, _, rfl, by omega, by omega, ?_⟩
    have hl3 := xb3 _ _ nls (eH2 _ _ hl)
    have xbH : XB s H H3 := (XB.of E2).trans xb3
    refine for_it walk_range (fun i σ Hx => ∃ (y4 y5 : Option V) (ns : List Int) (rm : Int), σ = [some (.ref s), some (.int m), some (.ref l), some (.int rm), y4, y5] ∧ Hx l = some (.lst (ns.map V.int)) ∧ ns.length = i ∧ (∀ n ∈ ns, 1 ≤ n) ∧ 1 ≤ rm ∧ prodL ns * rm ≤ m ∧ XB s H Hx ∧ Src Hx s) ⟨_, _, [], m, rfl, hl3, rfl, by simp, m0, by show 1 * m ≤ m; omega, xbH, src3⟩ (fun _ _ _ _ _ => True.intro) ?_ ?_
    · rintro i x σ _ Hx hi ⟨y4, y5, ns, rm, rfl, hlx, ln, hn, rm1, pm, xbx, srcx⟩ ⟨rfl, hx⟩
      obtain rfl : x = .int (i : Int) := hx.trans (congrArg V.int (Int.zero_add _))
      have rmm : rm ≤ m := by
        have p1 := prodL_pos hn
        have := Int.mul_le_mul_of_nonneg_right p1 (show 0 ≤ rm by omega)
        omega
      dsimp only [gName]
      refine ⟨_, rfl, _, rfl, s, rm, rfl, srcx, by omega, ?_, fun r2 H4 r20 r21 xb4 src4 => ⟨_, _, rfl, rfl, ?_⟩⟩
      · exact Nat.lt_of_le_of_lt (show rm.natAbs ≤ 1000 by omega) (by decide +kernel)
      dsimp only [gName]
      show tSeq (tIfS _ _ _) _ _ [some (.ref s), some (.int m), some (.ref l), some (.int rm), some (.int (i : Int)), some (.int (1 + r2))] _
      refine sif_cut (fun σ2 Hy => ∃ sz : Int, σ2 = [some (.ref s), some (.int m), some (.ref l), some (.int rm), some (.int (i : Int)), some (.int sz)] ∧ Hy = H4 ∧ 1 ≤ sz ∧ sz ≤ rm) (fun N hN => ?_) ?_
      · refine ⟨_, rfl, _, _, rfl, rfl, _, rfl, ?_⟩
        by_cases c1 : (0 : Int) < (i : Int)
        · refine itt (decide_eq_true c1) ⟨_, rfl, _, _, rfl, rfl, _, rfl, ?_⟩
          by_cases c2 : 12 < 1 + r2
          · refine itt (decide_eq_true c2) ?_
            have a1 := Int.emod_nonneg (1 + r2) (show (6 : Int) ≠ 0 by decide)
            have a2 := Int.emod_lt_of_pos (1 + r2) (show (0 : Int) < 6 by decide)
            exact ⟨_, rfl, _, _, rfl, rfl, (by show (0 : Int) < 6; decide), _, _, rfl, rfl, hN _ _ ⟨1 + (1 + r2) % 6, rfl, rfl, by omega, by omega⟩⟩
          · exact itf (decide_eq_false c2) (hN _ _ ⟨1 + r2, rfl, rfl, by omega, by omega⟩)
        · exact itf (decide_eq_false c1) (itf rfl (hN _ _ ⟨1 + r2, rfl, rfl, by omega, by omega⟩))
      rintro σ2 _ ⟨sz, rfl, rfl, sz1, sz2⟩
      have hl4 := xb4 _ _ nls hlx
      refine ⟨_, rfl, .inl ⟨rfl, _, SqL.of hl4⟩, _, rfl, l, _, _, rfl, rfl, hl4, ?_, ?_⟩
      · rw [List.length_map, ln]
        have h9 : i < (1 + z).toNat := hi
        exact Nat.lt_of_le_of_lt (show i ≤ 4 by omega) (by decide)
      have q1 : 1 ≤ rm / sz := by
        have := Int.ediv_le_ediv (by omega : 0 < sz) sz2
        rw [Int.ediv_self (by omega)] at this
        exact this
      have q2 : sz * (rm / sz) ≤ rm := Int.mul_ediv_self_le (by omega)
      refine ⟨_, rfl, _, rfl, _, _, rfl, rfl, ?_, _, _, rfl, ?_⟩
      · have h1 : sz.natAbs ≤ 1000 := by omega
        have h2 : sz.natAbs < 2 ^ 20 := Nat.lt_of_le_of_lt h1 (by decide)
        exact wide_div (by omega) h2 (by decide) (by decide)
      have em : (if rm / sz > 1 then rm / sz else 1) = rm / sz := by
        split <;> omega
      rw [em]
      refine ⟨_, _, ns ++ [sz], rm / sz, rfl, by rw [upd_same, List.map_append]; rfl, by rw [List.length_append, ln]; rfl, fun n hn2 => ?_, q1, ?_, (xbx.trans xb4).app nl, src4.app nls⟩
      · rcases List.mem_append.mp hn2 with h | h
        · exact hn n h
        · rw [List.mem_singleton.mp h]
          exact sz1
      · rw [prodS_snoc, Int.mul_assoc]
        have p1 := prodL_pos hn
        exact Int.le_trans (Int.mul_le_mul_of_nonneg_left q2 (by omega)) pm
    · rintro σ Hx ⟨y4, y5, ns, rm, rfl, hlx, ln, hn, rm1, pm, xbx, srcx⟩
      have ln2 : ns.length = (1 + z).toNat := ln
      have p1 := prodL_pos hn
      have pl : prodL ns ≤ m := by
        have := Int.mul_le_mul_of_nonneg_left rm1 (show 0 ≤ prodL ns by omega)
        omega
      exact ⟨_, rfl, k l ns _ nl hlx ⟨by intro z; rw [z] at ln2; simp at ln2; omega, by omega, hn⟩ pl xbx srcx⟩
end

theorem paired_erase {α β : Type} {R : α → β → Prop} : ∀ {xs : List α} {ys : List β} (k : Nat), Paired R xs ys → Paired R (xs.eraseIdx k) (ys.eraseIdx k)
  | _, _, _, .nil => .nil
  | _, _, 0, .cons _ t => t
  | _, _, k + 1, .cons h t => .cons h (paired_erase k t)
theorem erase_perm {α : Type} : ∀ {l : List α} {k : Nat} (h : k < l.length), (l[k] :: l.eraseIdx k).Perm l
  | a :: l, 0, _ => .refl _
  | a :: l, k + 1, h => by
    have h2 : k < l.length := by simpa using h
    show ((l[k]) :: a :: l.eraseIdx k).Perm (a :: l)
    exact (List.Perm.swap a _ _).trans ((erase_perm h2).cons a)
theorem seqIx {r : Int} {n : Nat} (h0 : 0 ≤ r) (h1 : r < n) (hn : n < 2 ^ 62) : seqIndex? r n = some r.toNat := by
  unfold seqIndex?
  rw [if_neg (show ¬ r < 0 by omega)]
  dsimp only
  rw [if_pos (by rw [Bool.and_eq_true, decide_eq_true_iff, decide_eq_true_iff]; omega)]

section
variable {P : Program} {w : World} {K : PySem.W.Frag} {mg : Str → Option Value} {base : Heap}
def sp_law_targets : Sp := fun vs H Q _ => ∃ (s l : Addr) (m : Int) (pss : List (List Int)), vs = [.ref s, .ref l, .int m] ∧ Src H s ∧ RowsAt H l pss ∧ l ≠ s ∧ pss ≠ [] ∧ pss.length ≤ 1000 ∧ pss.Nodup ∧ 1 ≤ m ∧ m ≤ 1000 ∧
  ∀ (g : Addr) (tss : List (List Int)) H2, H g = none → RowsAt H2 g tss → tss ≠ [] → (tss.length : Int) ≤ m → (∀ t ∈ tss, t ∈ pss) → tss.Nodup → XB s H H2 → Src H2 s → Q (.ref g) H2
theorem ok_law_targets (T : TX K mg) : FnOk P w K mg base CX0 3 T.f_law_targets T.fd_law_targets ["_law_source_here", "_law_spots", "_law_many"] sp_law_targets := by
  refine T.F_law_targets.ok sc_law_targets (fun vs H Q E h => ?_) (fun cdv A outer s H vs Q E hr h => ?_)
  · obtain ⟨s, l, m, pss, rfl, _⟩ := h
    rfl
  · obtain ⟨s, l, m, pss, rfl, hs, ⟨xs, hl, rr⟩, nls, ne, lp, nod, m0, m1, k⟩ := h
    refine ⟨_, (pss_cons (ps_set (i := 3) sc_law_targets.nd rfl (Or.inl rfl) (pe_callTy call_list_of (by rfl) T.z_list (by decide +kernel) (pa_cons (pv 1) pa_nil))) (pss_cons (ps_set (i := 4) sc_law_targets.nd rfl (Or.inl rfl) (pe_lst pa_nil)) (pss_cons (ps_for PassesOwn.never rfl (pi_range1 rfl T.z_range (pa_cons (pe_callB (call_min2 rfl) (by rfl) T.z_min (by decide +kernel) (pa_cons (pe_callB call_len_seq (by rfl) T.z_len (by decide +kernel) (pa_cons (pv 1) pa_nil)) (pa_cons (pe_op op_add pe_int (pe_call (ok_law_draw T) hr rfl T.m_law_draw T.F_law_draw.kp T.b_law_draw .nil pass0 (pa_cons (pv 0) (pa_cons (pv 2) pa_nil)))) pa_nil))) pa_nil)) (pg_name (i := 5) sc_law_targets.nd rfl (Or.inl rfl)) (pss_one (ps_expr (pe_bm PySem.F.plainAttrs_list PySem.F.slot_list_append PySem.F.type_list_append mt_append (pv 4) (pa_cons (pe_bm PySem.F.plainAttrs_list PySem.F.slot_list_pop PySem.F.type_list_pop mt_popAt (pv 3) (pa_cons (pe_call (ok_law_draw T) hr rfl T.m_law_draw T.F_law_draw.kp T.b_law_draw .nil pass0 (pa_cons (pv 0) (pa_cons (pe_callB call_len_seq (by rfl) T.z_len (by decide +kernel) (pa_cons (pv 3) pa_nil)) pa_nil))) pa_nil)) pa_nil))))) (pss_one (ps_ret (pv 4)))))), ?_⟩
    have lx : xs.length = pss.length := Paired.length rr
    have p0 := List.length_pos_iff.mpr ne
    refine ⟨_, rfl, l, xs, rfl, .inl (SqL.of hl), fun pl hpl => ?_⟩
    generalize hG : upd H pl _ = H1
    have e1 := exG hG hpl
    have hp1 := atG hG
    clear hG
    dsimp only [gName]
    refine ⟨slen rfl, ?_⟩
    (intro f nf; generalize hGf : upd _ f _ = H2; have eH2 := exG hGf nf; have hf := atG hGf; clear hGf)
    have nf0 : H f = none := Evl.fresh_back e1 nf
    have E2 := ext e1 eH2
    have src2 := hs.mono E2
    have nfs : f ≠ s := hs.ne nf0
    have nps : pl ≠ s := hs.ne hpl
    have npf : pl ≠ f := ne_of_none hp1 nf
    dsimp only [gName]
    refine ⟨_, rfl, l, xs, rfl, .inl (SqL.of (E2 _ _ hl)), _, rfl, _, rfl, s, m, rfl, src2, by omega, Nat.lt_of_le_of_lt (show m.natAbs ≤ 1000 by omega) (by decide +kernel), fun r H3 r0 r1 xb3 src3 => ?_⟩
    refine ⟨_, _, rfl, rfl, _, _, rfl, ?_⟩
    generalize hn : (if 1 + r < (xs.length : Int) then 1 + r else (xs.length : Int)) = n
    have n1 : 1 ≤ n := by
      subst hn
      split <;> omega
    have n2 : n ≤ m ∧ n ≤ (xs.length : Int) := by
      subst hn
      split <;> constructor <;> omega
    have xb03 : XB s H H3 := (XB.of E2).trans xb3
    refine ⟨_, rfl, by omega, by omega, ?_⟩
    refine for_it walk_range (fun i σ Hx => ∃ (y5 : Option V) (ys fs : List V) (pool found : List (List Int)), σ = [some (.ref s), some (.ref l), some (.int m), some (.ref pl), some (.ref f), y5] ∧ Hx pl = some (.lst ys) ∧ RowsR Hx ys pool ∧ Hx f = some (.lst fs) ∧ RowsR Hx fs found ∧ (pool ++ found).Perm pss ∧ found.length = i ∧ XB s H Hx ∧ Src Hx s) ⟨_, xs, [], pss, [], rfl, xb3 _ _ nps (eH2 _ _ hp1), (rr.mono E2).monoT fun _ _ z => tup_xb src2 z xb3, xb3 _ _ nfs hf, .nil, by rw [List.append_nil], rfl, xb03, src3⟩ (fun _ _ _ _ _ => True.intro) ?_ ?_
    · rintro i x σ _ Hx hi ⟨y5, ys, fs, pool, found, rfl, hpx, rp, hfx, rf, pm, lf, xbx, srcx⟩ ⟨rfl, hx⟩
      obtain rfl : x = .int (i : Int) := hx.trans (congrArg V.int (Int.zero_add _))
      have hi2 : (i : Int) < n := by
        have : i < n.toNat := hi
        omega
      have ly : ys.length = pool.length := Paired.length rp
      have lfs : fs.length = found.length := Paired.length rf
      have lall : pool.length + found.length = pss.length := by
        rw [← List.length_append]
        exact pm.length_eq
      dsimp only [gName]
      refine ⟨_, rfl, .inl ⟨rfl, _, SqL.of hfx⟩, _, rfl, .inl ⟨rfl, _, SqL.of hpx⟩, _, rfl, _, rfl, pl, ys, rfl, .inl (SqL.of hpx), s, (ys.length : Int), rfl, srcx, by omega, Nat.lt_of_le_of_lt (show _ ≤ 1000 by omega) (by decide +kernel), fun r2 H4 r20 r21 xb4 src4 => ?_⟩
      have hp4 := xb4 _ _ nps hpx
      have hf4 := xb4 _ _ nfs hfx
      have il : r2.toNat < pool.length := by omega
      have ily : r2.toNat < ys.length := by omega
      have rp4 : RowsR H4 ys pool := rp.monoT fun _ _ z => tup_xb srcx z xb4
      have rf4 : RowsR H4 fs found := rf.monoT fun _ _ z => tup_xb srcx z xb4
      obtain ⟨p, q, hpp, eq, hq4⟩ := rp4.get (List.getElem?_eq_getElem ily)
      obtain rfl : pool[r2.toNat] = p := Option.some.inj ((List.getElem?_eq_getElem il).symm.trans hpp)
      refine ⟨pl, ys, r2, r2.toNat, _, rfl, rfl, hp4, by omega, by omega, seqIx r20 r21 (Nat.lt_of_le_of_lt (show ys.length ≤ 1000 by omega) (by decide)), List.getElem?_eq_getElem ily, ?_⟩
      rw [eq]
      have hf5 : upd H4 pl (.lst (ys.eraseIdx r2.toNat)) f = some (.lst fs) := by
        rw [upd_ne (Ne.symm npf)]
        exact hf4
      refine ⟨f, _, _, rfl, rfl, hf5, ?_, ?_⟩
      · exact Nat.lt_of_le_of_lt (show fs.length ≤ 1000 by omega) (by decide)
      have tp : ∀ c zs, H4 c = some (.tup zs) → upd (upd H4 pl (.lst (ys.eraseIdx r2.toNat))) f (.lst (fs ++ [.ref q])) c = some (.tup zs) := fun c zs z => tup_pshL hf5 (tup_pshL hp4 z)
      refine ⟨_, _, _, pool.eraseIdx r2.toNat, found ++ [pool[r2.toNat]], rfl, ?_, paired_erase _ (rp4.monoT tp), upd_same, paired_snoc ⟨q, rfl, tp _ _ hq4⟩ (rf4.monoT tp), ?_, by rw [List.length_append, lf]; rfl, ((xbx.trans xb4).app hpl).app nf0, (src4.app nps).app nfs⟩
      · rw [upd_ne npf, upd_same]
      · refine List.Perm.trans ?_ pm
        rw [← List.append_assoc]
        refine List.Perm.trans (List.perm_append_comm) ?_
        show ((pool[r2.toNat] :: pool.eraseIdx r2.toNat) ++ found).Perm _
        exact (erase_perm il).append_right found
    · rintro σ Hx ⟨y5, ys, fs, pool, found, rfl, hpx, rp, hfx, rf, pm, lf, xbx, srcx⟩
      have lf2 : found.length = n.toNat := lf
      refine ⟨_, rfl, k f found _ nf0 ⟨fs, hfx, rf⟩ (fun z => by rw [z] at lf2; simp at lf2; omega) (by omega) (fun t ht => pm.mem_iff.mp (List.mem_append_right _ ht)) ?_ xbx srcx⟩
      exact (List.nodup_append.mp (pm.nodup_iff.mpr nod)).2.1
end

section
variable {P : Program} {w : World} {K : PySem.W.Frag} {mg : Str → Option Value} {base : Heap}
def sp_law_by_seat : Sp := fun vs H Q _ => ∃ (lyr : Addr) (zz : List V) (ns : List Int) (cs : List (List Int × Nat)), vs = [.ref lyr] ∧ SzOk ns ∧ prodL ns ≤ 80 ∧ H lyr = some (.lst zz) ∧ LayR H zz (laysL cs) ∧ (keysL cs).Nodup ∧ (∀ q ∈ cs, SeatOk ns q.1) ∧ cs.length ≤ 300 ∧
  ∀ D H2, Ex H H2 → H D = none → CntAt H2 D (LK cs (topL cs + 1)) → Q (.ref D) H2
theorem ok_law_by_seat (T : TX K mg) : FnOk P w K mg base CX0 1 T.f_law_by_seat T.fd_law_by_seat ["_law_rows"] sp_law_by_seat := by
  refine T.F_law_by_seat.ok sc_law_by_seat (fun vs H Q E h => ?_) (fun cdv A outer s H vs Q E hr h => ?_)
  · obtain ⟨lyr, zz, ns, cs, rfl, _⟩ := h
    rfl
  · obtain ⟨lyr, zz, ns, cs, rfl, ok, pr, hlyr, lay, gnod, seatK, lcs, k⟩ := h
    refine ⟨_, (pss_cons (ps_set (i := 1) sc_law_by_seat.nd rfl (Or.inl rfl) pe_dnewT) (pss_cons (ps_for PassesOwn.never rfl (CE.pi_e rfl T.z_enumerate (pa_cons (pv 0) pa_nil)) (pg_tup rfl (pgs_cons (pg_name (i := 2) sc_law_by_seat.nd rfl (Or.inr rfl)) (pgs_cons (pg_name (i := 3) sc_law_by_seat.nd rfl (Or.inl rfl)) pgs_nil))) (pss_one (ps_expr (pe_bm PySem.F.plainAttrs_dict PySem.F.slot_dict_update PySem.F.type_dict_update (CD.mt_updT2 (hu_of hr)) (pv 1) (pa_cons (pe_callTy (CD.call_dictT rfl (u65 hr)) (by rfl) T.z_dict (by decide +kernel) (pa_cons (pe_lc (own := [("_law_spot", 4)]) (g := (gName 4)) rfl sc_law_by_seat.nd (pi_list (pv 3)) (blkOk_by (N := N_law_by_seat) (sc := defScope s_law_by_seat) (by decide +kernel)) (fun _ _ _ _ _ => (pg_name (i := 4) sc_law_by_seat.nd rfl (Or.inl rfl))) (fun _ _ _ _ _ => pts_nil) (fun _ _ _ _ _ => (pe_tup (pa_cons (pv 4) (pa_cons (pv 2) pa_nil))))) pa_nil)) pa_nil))))) (pss_one (ps_ret (pv 1))))), ?_⟩
    refine (fun D0 hD0 => ?_)
    generalize hG0 : upd H D0 _ = He
    have ed := exG hG0 hD0
    have Dee : He D0 = some (.dT ((LK cs 0).map entV)) := atG hG0
    clear hG0
    have lzz : zz.length = topL cs + 1 := by
      rw [Paired.length lay]
      unfold laysL
      rw [List.length_map, List.length_range]
    have nel : lyr ≠ D0 := ne_of_none hlyr hD0
    dsimp only [gName]
    refine ⟨_, rfl, (false, lyr), rfl, ⟨_, sqL (ed _ _ hlyr)⟩, ?_⟩
    refine for_it (CE.walk_e (xs := zz)) (fun i σ Hx => (∃ y2 y3 y4 : Option V, σ = [some (.ref lyr), some (.ref D0), y2, y3, y4]) ∧ (∀ c o, c ≠ D0 → He c = some o → Hx c = some o) ∧ CntAt Hx D0 (LK cs i)) ⟨⟨_, _, _, rfl⟩, fun c o _ z => z, Dee⟩ (fun i σ Hx _ p => sqL (p.2.1 _ _ nel (ed _ _ hlyr))) ?_ ?_
    · rintro i x0 σ Hx Hy hi ⟨⟨y2, y3, y4, rfl⟩, ex, hDx⟩ ⟨Ta, x1, x2, rfl, hT, rfl, hx1, hx2⟩
      cases hx1
      obtain ⟨row, hrow, ra, rfl, rxs, hra, rr⟩ := paired_get lay hx2
      rw [lays_at] at hrow
      have ril : i < topL cs + 1 := Classical.byContradiction fun c => by
        rw [if_neg c] at hrow
        cases hrow
      rw [if_pos ril] at hrow
      obtain rfl := Option.some.inj hrow
      have eT := exn (o := .tup [.int (i : Nat), .ref ra]) hT
      refine ⟨Ta, _, rfl, SqT.of upd_same, rfl, _, _, rfl, _, _, rfl, rfl, ?_⟩
      generalize hHz : upd Hx Ta _ = Hz at eT
      have hDz : CntAt Hz D0 (LK cs i) := hDx.mono eT
      have hraz : Hz ra = some (.lst rxs) := eT _ _ (ex _ _ (ne_of_none hra hD0) (ed _ _ hra))
      have rrz : RowsR Hz rxs (rowD cs (sortK cs) i) := rr.monoT fun c zs z => eT _ _ (ex _ _ (ne_of_none z hD0) (ed _ _ z))
      have lrx : rxs.length = (rowD cs (sortK cs) i).length := Paired.length rrz
      have lks := LK_len gnod (i + 1)
      rw [LK_succ, List.length_append] at lks
      have lat : (atD i (rowD cs (sortK cs) i)).length = (rowD cs (sortK cs) i).length := by unfold atD; rw [List.length_map]
      refine ⟨_, rfl, .inr (.inr (.inl ⟨rfl, .inr ⟨_, hDz⟩⟩)), _, rfl, ra, rfl, ⟨_, SqL.of hraz⟩, fun D3 hD3 => ?_⟩
      refine lc_new PdS pds_mono (walk_list (xs := rxs)) (atD i (rowD cs (sortK cs) i)) (by omega) (by omega) hD3 (fun Hx ex => SqL.of (ex _ _ hraz)) ?_ (gmono_name) ?_
      · rintro j x e Hw _ R2 he ew ⟨rfl, hx⟩ kR
        obtain ⟨ts, r, hts, rfl, hr2⟩ := (rrz.mono ew).get hx
        unfold atD at he
        rw [List.getElem?_map, hts] at he
        obtain rfl := (Option.some.inj he)
        refine ⟨rfl, _, rfl, _, rfl, slen rfl, ?_⟩
        (intro tp ntp; generalize hGtp : upd _ tp _ = H5; have eH5 := exG hGtp ntp; have htp := atG hGtp; clear hGtp)
        exact kR _ _ eH5 ⟨tp, r, rfl, htp, eH5 _ _ hr2⟩
      intro H5 us e5 hD5 pu
      refine ⟨D3, us, _, rfl, SqL.of hD5, prs_of pu, fun nd hnd => ?_⟩
      rw [show CD.mergeT [] ((atD i (rowD cs (sortK cs) i)).map entV) = (atD i (rowD cs (sortK cs) i)).map entV from merge_any (fs := []) (by rw [keys_atD]; exact rowD_nod gnod i) (fun p _ h => nomatch h)]
      have e6 := exn (o := HO.dT ((atD i (rowD cs (sortK cs) i)).map entV)) hnd
      have hD6 := hDz.mono (ext e5 e6)
      have nDn : D0 ≠ nd := ne_of_none (e5 _ _ hDz) hnd
      refine ⟨D0, nd, _, _, rfl, rfl, nDn, hD6, upd_same, .inr (hash_nod ok pr w (by rw [keys_atD]; exact rowD_nod gnod i) (fun t ht => ?_)), ?_, ⟨_, _, _, rfl⟩, fun c o nc z => ?_, ?_⟩
      · rw [keys_atD] at ht
        exact seatK _ (mem_dep (mem_rowD.mp ht))
      · rw [List.length_map, List.length_map]
        exact Nat.le_trans (show _ ≤ 300 by omega) (by decide)
      · rw [upd_ne nc]
        exact e6 _ _ (e5 _ _ (eT _ _ (ex c o nc z)))
      · show upd _ _ _ _ = _
        rw [upd_same, merge_any (by rw [keys_atD]; exact rowD_nod gnod i) LK_fresh, ← LK_succ]
    rintro σ Hf ⟨⟨y2, y3, y4, rfl⟩, exf, hDf⟩
    rw [lzz] at hDf
    exact ⟨_, rfl, k D0 Hf (fun c o z => exf c o (ne_of_none z hD0) (ed _ _ z)) hD0 hDf⟩
end

theorem lay_dp {K : PySem.W.Frag} {H : Hp} : ∀ {xs : List V} {rows : List (List (List Int))}, LayR H xs rows → DpAll K H xs (rows.map fun r => PyData.list (r.map iT))
  | _, _, .nil => .nil
  | _, _, .cons ⟨a, h1, us, h2, h3⟩ t => by
    subst h1
    exact .cons (.lst (SqL.of h2) h3.dp) (lay_dp t)
theorem lay_sh (rows : List (List (List Int))) : Sh 60 (.list (rows.map fun r => PyData.list (r.map iT))) := sh_list (n := 59) fun d hd => by
  obtain ⟨r, _, rfl⟩ := List.mem_map.mp hd
  exact sh_rows (n := 57) r
theorem LayR.monoT {H H2 : Hp} (e : ∀ c xs, (∃ o, H c = some o) → (H c = some (.tup xs) → H2 c = some (.tup xs)) ∧ (H c = some (.lst xs) → H2 c = some (.lst xs))) : ∀ {xs : List V} {rows : List (List (List Int))}, LayR H xs rows → LayR H2 xs rows
  | _, _, .nil => .nil
  | _, _, .cons ⟨a, h1, us, h2, h3⟩ t => .cons ⟨a, h1, us, (e a us ⟨_, h2⟩).2 h2, h3.monoT fun c zs z => (e c zs ⟨_, z⟩).1 z⟩ (LayR.monoT e t)
theorem LayR.mono {H H2 : Hp} (e : Ex H H2) {xs : List V} {rows : List (List (List Int))} (h : LayR H xs rows) : LayR H2 xs rows := LayR.monoT (fun c xs _ => ⟨fun z => e _ _ z, fun z => e _ _ z⟩) h
theorem paired_take' {α β : Type} {R : α → β → Prop} : ∀ (n : Nat) {xs : List α} {ys : List β}, Paired R xs ys → Paired R (xs.take n) (ys.take n)
  | 0, _, _, _ => .nil
  | _ + 1, _, _, .nil => .nil
  | n + 1, _, _, .cons h t => .cons h (paired_take' n t)
section
variable {P : Program} {w : World} {K : PySem.W.Frag} {mg : Str → Option Value} {base : Heap}
def sp_law_shifted_right (C : Addr) : Sp := fun vs H Q _ => ∃ (a lyr : Addr) (zz : List V) (ns : List Int) (tss : List (List Int)), vs = [.ref a, .ref lyr] ∧ TabAt C H a ns ∧ SzOk ns ∧ prodL ns ≤ 80 ∧ H lyr = some (.lst zz) ∧ LayR H zz (laysL (countsL ns tss)) ∧ tss ≠ [] ∧ (∀ t ∈ tss, SeatOk ns t) ∧ tss.Nodup ∧ ∀ H2, Ex H H2 → Q (.bl true) H2
theorem ok_law_shifted_right (T : TX K mg) : FnOk P w K mg base CX0 8 T.f_law_shifted_right T.fd_law_shifted_right ["_law_grid", "_law_rows"] (sp_law_shifted_right T.C_Table) := by
  refine T.F_law_shifted_right.ok sc_law_shifted_right (fun vs H Q E h => ?_) (fun cdv A outer s H vs Q E hr h => ?_)
  · obtain ⟨a, lyr, zz, ns, tss, rfl, _⟩ := h
    rfl
  · obtain ⟨a, lyr, zz, ns, tss, rfl, tab, ok, pr, hlyr, lay, ne, sks, nod, k⟩ := h
    refine ⟨_, (pss_cons (ps_for PassesOwn.never rfl (pi_range1 rfl T.z_range (pa_cons (pe_callB call_len_seq (by rfl) T.z_len (by decide +kernel) (pa_cons (pv 1) pa_nil)) pa_nil)) (pg_name (i := 2) sc_law_shifted_right.nd rfl (Or.inl rfl)) (pss_cons (ps_set (i := 3) sc_law_shifted_right.nd rfl (Or.inl rfl) (pe_lst pa_nil)) (pss_cons (ps_for PassesOwn.never rfl (pi_list (pe_slice sl_list (pv 1) po_none (po_some (pe_op op_add (pv 2) pe_int)))) (pg_name (i := 4) sc_law_shifted_right.nd rfl (Or.inl rfl)) (pss_one (ps_expr (pe_bm PySem.F.plainAttrs_list PySem.F.slot_list_extend PySem.F.type_list_extend mt_extend (pv 3) (pa_cons (pv 4) pa_nil))))) (pss_one (ps_if (pt_cmpR (r := rNeD K) (op_neD hr.units) (pe_call (ok_layers T) hr rfl T.m_layers T.F_layers.kp T.b_layers .nil pass0 (pa_cons (pv 0) (pa_cons (pv 3) pa_nil))) (pe_op (r := rCatR K) op_catR (pe_lst (pa_cons (pe_callB (cr_sortQ (u65 hr)) (by rfl) T.z_sorted (by decide +kernel) (pa_cons (pv 3) pa_nil)) pa_nil)) (pe_slice sl_list (pv 1) (po_some (pe_op op_add (pv 2) pe_int)) po_none)) (nomark _)) (pss_one (ps_ret pe_bl)) pss_nil))))) (pss_one (ps_ret pe_bl))), ?_⟩
    have lA := allS_len ok.one
    obtain ⟨dd, gd⟩ := counts_good sks nod
    have cl := counts_least sks nod ne
    have cne := counts_ne (ns := ns) ne
    have lcs : (countsL ns tss).length ≤ 80 := by
      have h1 : (keysL (countsL ns tss)).length ≤ (allS ns).length := List.Nodup.length_le_of_subset gd.nod fun p hp => by
        obtain ⟨e, he⟩ := mem_keys hp
        exact mem_allS.mpr (gd.seat _ he)
      rw [List.length_map] at h1
      omega
    have lzz : zz.length = topL (countsL ns tss) + 1 := by
      rw [Paired.length lay]
      unfold laysL
      rw [List.length_map, List.length_range]
    have ltop : topL (countsL ns tss) + 1 ≤ 1000 := by
      obtain ⟨q, hq⟩ := top_ex gd.nod cne
      have h1 := cl.few hq
      omega
    generalize hcs : countsL ns tss = cs at *
    have gnod := gd.nod
    have seatK : ∀ q ∈ cs, SeatOk ns q.1 := fun q hq => gd.seat q hq
    refine ⟨_, rfl, lyr, zz, rfl, .inl (SqL.of hlyr), ?_⟩
    refine ⟨_, rfl, by omega, by omega, ?_⟩
    refine for_it walk_range (fun i σ Hx => (∃ y2 y3 y4 : Option V, σ = [some (.ref a), some (.ref lyr), y2, y3, y4]) ∧ Ex H Hx) ⟨⟨_, _, _, rfl⟩, exr⟩ (fun _ _ _ _ _ => True.intro) ?_ (fun σ Hx ⟨_, ex⟩ => k _ ex)
    rintro i x σ _ Hx hi ⟨⟨y2, y3, y4, rfl⟩, ex⟩ ⟨rfl, hx⟩
    obtain rfl : x = .int (i : Int) := hx.trans (congrArg V.int (Int.zero_add _))
    have hi2 : i < topL cs + 1 := by
      have : i < ((zz.length : Int)).toNat := hi
      omega
    have hlx := ex _ _ hlyr
    have layx : LayR Hx zz (laysL cs) := LayR.mono ex lay
    dsimp only [gName]
    refine ⟨slen rfl, ?_⟩
    (intro fr nfr; generalize hGfr : upd _ fr _ = H1; have eH1 := exG hGfr nfr; have hfr := atG hGfr; clear hGfr)
    have fr0 : H fr = none := Evl.fresh_back ex nfr
    have e1 := ext ex eH1
    have nlf : lyr ≠ fr := ne_of_none hlx nfr
    dsimp only [gName]
    refine ⟨_, rfl, _, rfl, _, _, rfl, rfl, _, rfl, lyr, _, rfl, SqL.of (eH1 _ _ hlx), ?_⟩
    (intro ct nct; generalize hGct : upd _ ct _ = H2; have eH2 := exG hGct nct; have hct := atG hGct; clear hGct)
    have hct2 : H2 ct = some (.lst (zz.take (i + 1))) := by
      rw [hct]
      exact congrArg (fun z => some (HO.lst z)) (cut_to zz (i + 1))
    have e2 := ext e1 eH2
    have hfr2 := eH2 _ _ hfr
    have nfc : fr ≠ ct := ne_of_none hfr nct
    clear hct
    refine ⟨ct, rfl, ⟨_, SqL.of hct2⟩, ?_⟩
    refine for_it (walk_list (xs := zz.take (i + 1))) (fun j σ Hy => (∃ y4 : Option V, σ = [some (.ref a), some (.ref lyr), some (.int (i : Int)), some (.ref fr), y4]) ∧ (∀ c o, c ≠ fr → H2 c = some o → Hy c = some o) ∧ RowsAt Hy fr (keysL (LK cs j))) ⟨⟨_, rfl⟩, fun _ _ _ z => z, _, hfr2, .nil⟩ (fun j σ Hy _ p => SqL.of (p.2.1 _ _ (Ne.symm nfc) hct2)) ?_ ?_
    · rintro j x σ _ Hy hj ⟨⟨y4, rfl⟩, ey, ⟨us, hfy, ru⟩⟩ ⟨rfl, hx⟩
      have jl : j < i + 1 := by
        have h1 : j < (zz.take (i + 1)).length := hj
        rw [List.length_take] at h1
        omega
      rw [List.getElem?_take_of_lt jl] at hx
      obtain ⟨row, hrow, ra, rfl, rxs, hra, rr⟩ := paired_get layx hx
      rw [lays_at, if_pos (by omega)] at hrow
      obtain rfl := Option.some.inj hrow
      have nra : ra ≠ fr := ne_of_none hra nfr
      have hray := ey _ _ nra (eH2 _ _ (eH1 _ _ hra))
      have rry : RowsR Hy rxs (rowD cs (sortK cs) j) := rr.monoT fun c zs z => ey _ _ (ne_of_none z nfr) (eH2 _ _ (eH1 _ _ z))
      have ll := LK_len gnod (j + 1)
      rw [LK_succ, List.length_append] at ll
      have lat : (atD j (rowD cs (sortK cs) j)).length = (rowD cs (sortK cs) j).length := by unfold atD; rw [List.length_map]
      have l1 : us.length = (LK cs j).length := by rw [Paired.length ru, List.length_map]
      have l2 : rxs.length = (rowD cs (sortK cs) j).length := Paired.length rry
      refine ⟨_, rfl, .inl ⟨rfl, _, SqL.of hfy⟩, _, rfl, fr, ra, us, rxs, rfl, rfl, hfy, hray, ?_, ?_⟩
      · exact Nat.le_trans (show _ ≤ 1000 by omega) (by decide)
      refine ⟨⟨_, rfl⟩, fun c o nc z => by rw [upd_ne nc]; exact ey c o nc z, _, upd_same, ?_⟩
      rw [LK_succ, keys_app, keys_atD]
      exact paired_cat (ru.monoT fun _ _ z => tup_pshL hfy z) (rry.monoT fun _ _ z => tup_pshL hfy z)
    rintro σ H3 ⟨⟨y4, rfl⟩, e3, ⟨us, hf3, ru⟩⟩
    rw [show (zz.take (i + 1)).length = i + 1 by rw [List.length_take]; omega] at ru
    have Snod := LK_nod gnod (i + 1)
    have hS : ∀ q, q ∈ keysL (LK cs (i + 1)) ↔ ∃ d, dep cs q = some d ∧ d ≤ i := fun q => LK_iff
    have Ssk : ∀ t ∈ keysL (LK cs (i + 1)), SeatOk ns t := fun t ht => by
      obtain ⟨d, hd, _⟩ := (hS t).mp ht
      exact seatK _ (mem_dep hd)
    have Sne : keysL (LK cs (i + 1)) ≠ [] := fun z => by
      obtain ⟨t, ht⟩ := List.exists_mem_of_ne_nil _ ne
      have := (hS t).mpr ⟨0, (cl.zero t).mpr ht, Nat.zero_le _⟩
      rw [z] at this
      cases this
    have Slen : (keysL (LK cs (i + 1))).length ≤ 80 := by
      rw [List.length_map]
      exact Nat.le_trans (LK_len gnod (i + 1)) lcs
    obtain ⟨d2, g2⟩ := counts_good Ssk Snod
    have M := counts_least Ssk Snod Sne
    have els := lays_shift gnod seatK cne g2.nod (fun q hq => g2.seat q hq) (counts_ne Sne) (shift_is cl M hS) (show i ≤ topL cs by omega)
    generalize hSS : keysL (LK cs (i + 1)) = S at *
    have E3 : Ex H H3 := fun c o z => e3 c o (ne_of_none z fr0) (e2 _ _ z)
    refine ⟨_, rfl, _, rfl, a, (false, fr), ns, S, rfl, tab.mono E3, ok, by omega, ⟨us, hf3, ru⟩, Sne, by omega, Ssk, Snod, fun f zs H4 e4 nf4 hf4 lay4 _ => ?_⟩
    rw [els] at lay4
    refine ⟨_, rfl, (false, fr), us, S, rfl, sqL (e4 _ _ hf3), ru.mono e4, fun ts hts z => ?_, fun ys p rows hp => ?_⟩
    · have := (Ssk ts hts).len
      rw [z] at this
      exact ok.1 (List.length_eq_zero_iff.mp this.symm)
    generalize hG5 : upd H4 p _ = H5
    have e5 := exG hG5 hp
    have hp5 := atG hG5
    clear hG5
    refine ⟨slen rfl, ?_⟩
    (intro q1 nq1; generalize hGq1 : upd _ q1 _ = H6; have eH6 := exG hGq1 nq1; have hq1 := atG hGq1; clear hGq1)
    have e36 := ext e4 (ext e5 eH6)
    have E6 := ext E3 e36
    refine ⟨_, rfl, _, rfl, _, _, rfl, rfl, _, rfl, lyr, _, rfl, SqL.of (E6 _ _ hlyr), ?_⟩
    (intro q2 nq2; generalize hGq2 : upd _ q2 _ = H7; have eH7 := exG hGq2 nq2; have hq2 := atG hGq2; clear hGq2)
    have hq2b : H7 q2 = some (.lst (zz.drop (i + 1))) := by
      rw [hq2]
      exact congrArg (fun z => some (HO.lst z)) (cut_from zz (i + 1))
    refine ⟨q1, q2, _, _, rfl, rfl, SqL.of (eH7 _ _ hq1), SqL.of hq2b, Nat.le_trans (show 1 + _ ≤ 2000 by rw [List.length_drop]; omega) (by decide), ?_⟩
    (intro q3 nq3; generalize hGq3 : upd _ q3 _ = H8; have eH8 := exG hGq3 nq3; have hq3 := atG hGq3; clear hGq3)
    have e48 := ext e5 (ext eH6 (ext eH7 eH8))
    have E8 := ext E3 (ext e4 e48)
    refine ⟨_, _, .lst (SqL.of (e48 _ _ hf4)) (lay_dp (LayR.mono e48 lay4)), .lst (SqL.of hq3) (.cons (.lst (SqL.of ((ext eH6 (ext eH7 eH8)) _ _ hp5)) (rows.mono (ext e5 (ext eH6 (ext eH7 eH8)))).dp) (lay_dp (paired_drop' (i + 1) (LayR.mono E8 lay)))), (lay_sh _).ok, (lay_sh (S.mergeSort leT :: (laysL cs).drop (i + 1))).ok, _, rfl, itf (by show (!PyData.eqv (.list ((S.mergeSort leT :: (laysL cs).drop (i + 1)).map fun r => PyData.list (r.map iT))) (.list ((S.mergeSort leT :: (laysL cs).drop (i + 1)).map fun r => PyData.list (r.map iT)))) = false; rw [eqv_refl _ (lay_sh _).1]; rfl) ?_⟩
    exact ⟨⟨_, _, _, rfl⟩, E8⟩
end

theorem LK_all {fs : List (List Int × Nat)} (nod : (keysL fs).Nodup) (q : List Int) : dep (LK fs (topL fs + 1)) q = dep fs q := by
  cases h : dep fs q with
  | some d => exact LK_dep nod h (by have := top_ge h; omega)
  | none =>
    refine dep_none fun z => ?_
    obtain ⟨d, _, hd⟩ := LK_key z
    rw [h] at hd
    cases hd
theorem LK_keys {fs : List (List Int × Nat)} {q : List Int} : q ∈ keysL (LK fs (topL fs + 1)) ↔ ∃ d, dep fs q = some d := by
  rw [LK_iff]
  exact ⟨fun ⟨d, h, _⟩ => ⟨d, h⟩, fun ⟨d, h⟩ => ⟨d, h, top_ge h⟩⟩
section
variable {P : Program} {w : World} {K : PySem.W.Frag} {mg : Str → Option Value} {base : Heap}
def sp_law_more_right (C : Addr) : Sp := fun vs H Q _ => ∃ (a lyr g sp : Addr) (zz : List V) (ns s : List Int) (tss : List (List Int)), vs = [.ref a, .ref lyr, .ref g, .ref sp] ∧ TabAt C H a ns ∧ SzOk ns ∧ prodL ns ≤ 80 ∧ H lyr = some (.lst zz) ∧ LayR H zz (laysL (countsL ns tss)) ∧ RowsAt H g tss ∧ tss ≠ [] ∧ (∀ t ∈ tss, SeatOk ns t) ∧ tss.Nodup ∧ H sp = some (.tup (s.map V.int)) ∧ SeatOk ns s ∧ s ∉ tss ∧ ∀ H2, Ex H H2 → Q (.bl true) H2
theorem ok_law_more_right (T : TX K mg) : FnOk P w K mg base CX0 8 T.f_law_more_right T.fd_law_more_right ["_law_grid", "_law_rows", "_law_goals", "_law_spot"] (sp_law_more_right T.C_Table) := by
  refine T.F_law_more_right.ok sc_law_more_right (fun vs H Q E h => ?_) (fun cdv A outer s H vs Q E hr h => ?_)
  · obtain ⟨a, lyr, g, sp, zz, ns, s, tss, rfl, _⟩ := h
    rfl
  · obtain ⟨a, lyr, g, sp, zz, ns, s, tss, rfl, tab, ok, pr, hlyr, lay, ⟨gs, hg, rg⟩, ne, sks, nod, hsp, sk, sout, k⟩ := h
    refine ⟨_, (pss_cons (ps_set (i := 4) sc_law_more_right.nd rfl (Or.inr rfl) (pe_call (ok_law_by_seat T) (hr.mono (by decide)) rfl T.m_law_by_seat T.F_law_by_seat.kp T.b_law_by_seat .nil pass0 (pa_cons (pv 1) pa_nil))) (pss_cons (ps_set (i := 5) sc_law_more_right.nd rfl (Or.inr rfl) (pe_call (ok_law_by_seat T) (hr.mono (by decide)) rfl T.m_law_by_seat T.F_law_by_seat.kp T.b_law_by_seat .nil pass0 (pa_cons (pe_call (ok_layers T) hr rfl T.m_layers T.F_layers.kp T.b_layers .nil pass0 (pa_cons (pv 0) (pa_cons (pe_op (r := rCatR K) op_catR (pv 2) (pe_lst (pa_cons (pv 3) pa_nil))) pa_nil))) pa_nil))) (pss_cons (ps_if (pt_cmpR (r := rNeD K) (op_neD hr.units) (pe_lock (pe_lc (own := [("_law_one", 6)]) (g := (gName 6)) rfl sc_law_more_right.nd (pi_keys (pv 4)) (blkOk_by (N := N_law_more_right) (sc := defScope s_law_more_right) (by decide +kernel)) (fun _ _ _ _ _ => (pg_name (i := 6) sc_law_more_right.nd rfl (Or.inl rfl))) (fun _ _ _ _ _ => (pts_one (PW.pt (pw_or (pt_cmp (pc_dnotin (hu_of hr) (pv 6) (pv 5))) (pw_or1 (pt_cmpR op_gt (pe_dget (hu_of hr) (pv 5) (pv 6) (fun _ _ => rfl)) (pe_dget (hu_of hr) (pv 4) (pv 6) (fun _ _ => rfl)) (nomark _))))))) (fun _ _ _ _ _ => (pv 6)))) (pe_lst pa_nil) (nomark _)) (pss_one (ps_ret pe_bl)) pss_nil) (pss_cons (ps_if (pt_cmp (pc_din (hu_of hr) (pv 3) (pv 4))) (pss_cons (ps_if (pt_cmpR (r := rNeD K) (op_neD hr.units) (pe_callB (cr_sortDT rfl (u65 hr)) (by rfl) T.z_sorted (by decide +kernel) (pa_cons (pv 4) pa_nil)) (pe_callB (cr_sortDT rfl (u65 hr)) (by rfl) T.z_sorted (by decide +kernel) (pa_cons (pv 5) pa_nil)) (nomark _)) (pss_one (ps_ret pe_bl)) pss_nil) (pss_one (ps_if (pt_cmpR (r := rNeD K) (op_neD hr.units) (pe_lock (pe_lc (own := [("_law_one", 6)]) (g := (gName 6)) rfl sc_law_more_right.nd (pi_keys (pv 4)) (blkOk_by (N := N_law_more_right) (sc := defScope s_law_more_right) (by decide +kernel)) (fun _ _ _ _ _ => (pg_name (i := 6) sc_law_more_right.nd rfl (Or.inl rfl))) (fun _ _ _ _ _ => (pts_one (pt_cmpR op_lt (pe_dget (hu_of hr) (pv 5) (pv 6) (fun _ _ => rfl)) (pe_op op_sub (pe_dget (hu_of hr) (pv 4) (pv 6) (fun _ _ => rfl)) (pe_dget (hu_of hr) (pv 4) (pv 3) (fun _ _ => rfl))) (nomark _)))) (fun _ _ _ _ _ => (pv 6)))) (pe_lst pa_nil) (nomark _)) (pss_one (ps_ret pe_bl)) pss_nil))) pss_nil) (pss_one (ps_ret (pe_cmpR op_eq (pe_call (ok_min_calls T) (hr.mono (by decide)) rfl T.m_min_calls T.F_min_calls.kp T.b_min_calls .nil pass0 (pa_cons (pv 0) (pa_cons (pe_op (r := rCatR K) op_catR (pe_lst (pa_cons (pv 3) pa_nil)) (pv 2)) (pa_cons (pv 3) pa_nil)))) pe_int (nomark _)))))))), ?_⟩
    have lA := allS_len ok.one
    have few : ∀ {l : List (List Int)}, l.Nodup → (∀ p ∈ l, SeatOk ns p) → l.length ≤ 80 := fun n h => by
      have h1 := n.length_le_of_subset (l₂ := allS ns) fun p hp => mem_allS.mpr (h p hp)
      omega
    have ltss := few nod sks
    have lgs : gs.length = tss.length := Paired.length rg
    obtain ⟨d1, g1⟩ := counts_good sks nod
    have L1 := counts_least sks nod ne
    have ssk : ∀ t ∈ tss ++ [s], SeatOk ns t := fun t ht => by
      rcases List.mem_append.mp ht with h | h
      · exact sks t h
      · rw [List.mem_singleton.mp h]
        exact sk
    have snod : (tss ++ [s]).Nodup := List.nodup_append.mpr ⟨nod, by simp, fun x hx y hy e => sout (by rw [← List.mem_singleton.mp hy, ← e]; exact hx)⟩
    have sne : tss ++ [s] ≠ [] := by simp
    obtain ⟨d2, g2⟩ := counts_good ssk snod
    have M2 := counts_least ssk snod sne
    have lc1 : (countsL ns tss).length ≤ 80 := by
      have := few g1.nod fun p hp => by obtain ⟨e, he⟩ := mem_keys hp; exact g1.seat _ he
      rw [List.length_map] at this
      exact this
    have lc2 : (countsL ns (tss ++ [s])).length ≤ 80 := by
      have := few g2.nod fun p hp => by obtain ⟨e, he⟩ := mem_keys hp; exact g2.seat _ he
      rw [List.length_map] at this
      exact this
    have le12 := more_le L1 M2 fun q hq => List.mem_append_left _ hq
    have ge12 : ∀ k, dep (countsL ns tss) s = some k → _ := fun k hk => more_ge L1 M2 (s := s) (fun q hq => (List.mem_append.mp hq).imp id fun h => List.mem_singleton.mp h) hk
    refine ⟨_, rfl, lyr, zz, ns, countsL ns tss, rfl, ok, pr, hlyr, lay, g1.nod, fun q hq => g1.seat q hq, by omega, fun D1 H1 e1 nD1 hD1 => ?_⟩
    refine ⟨_, rfl, _, rfl, _, rfl, slen rfl, ?_⟩
    (intro q1 nq1; generalize hGq1 : upd _ q1 _ = H2; have eH2 := exG hGq1 nq1; have hq1 := atG hGq1; clear hGq1)
    refine ⟨g, q1, _, _, rfl, rfl, SqL.of (eH2 _ _ (e1 _ _ hg)), SqL.of hq1, Nat.le_trans (show gs.length + 1 ≤ 100 by omega) (by decide), ?_⟩
    (intro q2 nq2; generalize hGq2 : upd _ q2 _ = H3; have eH3 := exG hGq2 nq2; have hq2 := atG hGq2; clear hGq2)
    have e3 := ext e1 (ext eH2 eH3)
    have rg3 : RowsR H3 (gs ++ [.ref sp]) (tss ++ [s]) := paired_cat (rg.mono e3) (.cons ⟨sp, rfl, e3 _ _ hsp⟩ .nil)
    refine ⟨a, (false, q2), ns, tss ++ [s], rfl, tab.mono e3, ok, by omega, ⟨_, hq2, rg3⟩, sne, by rw [List.length_append]; show tss.length + 1 ≤ 1000; omega, ssk, snod, fun ly2 z2 H3b e3b nly2 hly2 lay2 _ => ?_⟩
    refine ⟨ly2, z2, ns, countsL ns (tss ++ [s]), rfl, ok, pr, hly2, lay2, g2.nod, fun q hq => g2.seat q hq, by omega, fun D2 H4 e4 nD2 hD24 => ?_⟩
    have e14 := ext eH2 (ext eH3 (ext e3b e4))
    have hD14 := hD1.mono e14
    have nD21 : D2 ≠ D1 := (ne_of_none ((show CntAt _ _ _ from hD1).mono (ext eH2 (ext eH3 e3b))) nD2).symm
    have E4 := ext e1 e14
    have nodB := LK_nod g1.nod (topL (countsL ns tss) + 1)
    have nodA := LK_nod g2.nod (topL (countsL ns (tss ++ [s])) + 1)
    have lB := LK_len g1.nod (topL (countsL ns tss) + 1)
    have lB2 := LK_len g2.nod (topL (countsL ns (tss ++ [s])) + 1)
    clear hq1 hq2 rg3 e3 eH2 eH3 e3b e4 hly2 lay2 nD2 e14 hD1
    dsimp only [gName]
    refine sif_ex (fun N hN => ?_) (fun H5 e5 => ?_)
    · refine ⟨D1, _, hD14, True.intro, fun od => ?_⟩
      generalize hG1 : upd H4 D1 _ = H4l
      have hDl : H4l D1 = some (.frz od (.dT ((LK (countsL ns tss) (topL (countsL ns tss) + 1)).map entV))) := by rw [← hG1]; exact upd_same
      have xl : ∀ c o, c ≠ D1 → H4 c = some o → H4l c = some o := fun c o nc z => by rw [← hG1, upd_ne nc]; exact z
      refine ⟨_, rfl, D1, od, rfl, .inr ⟨_, hDl, fun L hL => ?_⟩⟩
      refine lc_filt walk_keysT (LK (countsL ns tss) (topL (countsL ns tss) + 1)) (fun _ => false) (fun _ => .int 0) (by rw [List.length_map]) (by rw [List.length_map]; omega) hL (fun Hx ex => ex _ _ hDl) ?_ ?_
      · rintro i x f _ Hx R S hf ex ⟨rfl, kk, vv, qa, hkv, rfl, hqa⟩ kR kS
        rw [List.getElem?_map, hf] at hkv
        obtain ⟨rfl, rfl⟩ := Prod.mk.inj (Option.some.inj hkv)
        rw [entK_kV] at hqa
        have gb : DGet Hx D1 (.ref qa) (some (V.int (f.2 : Int))) := by
          refine .inr ⟨_, entK f.1, qa, .inr ⟨od, ex _ _ hDl⟩, rfl, by rw [entK_kV]; exact hqa, ?_⟩
          rw [val_ent, dep_mem nodB (List.mem_of_getElem? hf)]
          rfl
        have fin := dep_mem nodB (List.mem_of_getElem? hf)
        obtain ⟨e, he, le⟩ := le12 f.2 f.1 (by rw [← LK_all g1.nod]; exact fin)
        have ga : DGet Hx D2 (.ref qa) (some (V.int (e : Int))) := by
          have := cnt_get ((show CntAt H4l D2 _ from xl _ _ nD21 hD24).mono ex) hqa
          rw [LK_all g2.nod, he] at this
          exact this
        refine ⟨rfl, _, rfl, _, rfl, D2, _, rfl, ga, _, rfl, itf rfl ?_⟩
        exact ⟨_, rfl, _, rfl, D2, _, rfl, ga, _, rfl, _, rfl, D1, _, rfl, gb, _, _, rfl, rfl, _, rfl, itf (decide_eq_false (by omega)) (kS _ exr rfl)⟩

      intro Hr er hLr
      rw [List.filter_eq_nil_iff.mpr (fun _ _ h => by cases h)] at hLr
      refine ⟨er _ _ hDl, ?_⟩
      have E5 : Ex H4 (upd Hr D1 (.dT ((LK (countsL ns tss) (topL (countsL ns tss) + 1)).map entV))) := by subst hG1; exact Ex.back hD14 er
      have hLq : upd Hr D1 (.dT ((LK (countsL ns tss) (topL (countsL ns tss) + 1)).map entV)) L = some (.lst []) := by
        rw [upd_ne (ne_of_none hDl hL).symm]
        exact hLr
      generalize upd Hr D1 (.dT ((LK (countsL ns tss) (topL (countsL ns tss) + 1)).map entV)) = Hq at E5 hLq
      clear hG1
      refine ⟨slen rfl, ?_⟩
      (intro nn nnn; generalize hGnn : upd _ nn _ = Hs; have eHs := exG hGnn nnn; have hnn := atG hGnn; clear hGnn)
      refine ⟨.list (([] : List (List Int)).map iT), .list (([] : List (List Int)).map iT), .lst (SqL.of (eHs _ _ hLq)) .nil, .lst (SqL.of hnn) .nil, (sh_rows (n := 58) []).ok, (sh_rows (n := 58) []).ok, _, rfl, itf (by rw [eqv_refl _ (sh_rows (n := 58) []).1]; rfl) ?_⟩
      exact hN _ (ext E5 eHs)
    have hD15 := hD14.mono e5
    have hD25 := hD24.mono e5
    have E5 := ext E4 e5
    clear e5 hD14 hD24 E4
    refine sif_ex (fun N hN => ?_) (fun H6 e6 => ?_)
    · refine ⟨_, rfl, _, rfl, D1, _, rfl, cnt_get hD15 (E5 _ _ hsp), _, rfl, ?_⟩
      rw [Option.isSome_map, LK_all g1.nod]
      cases hk : dep (countsL ns tss) s with
      | none => exact itf rfl (hN _ exr)
      | some k0 =>
      refine itt rfl ?_
      have tne : ∀ {fs : List (List Int × Nat)} {ts : List Int}, (∀ q ∈ fs, SeatOk ns q.1) → ts ∈ keysL (LK fs (topL fs + 1)) → ts ≠ [] := fun {fs ts} h ht z => by
        obtain ⟨d, hd⟩ := LK_keys.mp ht
        have := (h _ (mem_dep hd)).len
        rw [show ts = [] from z] at this
        exact ok.1 (List.length_eq_zero_iff.mp this.symm)
      refine ⟨_, rfl, D1, _, keysL (LK (countsL ns tss) (topL (countsL ns tss) + 1)), rfl, hD15, by rw [List.map_map, List.map_map]; rfl, fun ts hts => tne (fun q hq => g1.seat q hq) hts, fun ya pa rowsa hpa => ?_⟩
      generalize hGa : upd H5 pa _ = Ha
      have ea := exG hGa hpa
      have hpaa := atG hGa
      clear hGa
      have hD2a := hD25.mono ea
      refine ⟨_, rfl, D2, _, keysL (LK (countsL ns (tss ++ [s])) (topL (countsL ns (tss ++ [s])) + 1)), rfl, hD2a, by rw [List.map_map, List.map_map]; rfl, fun ts hts => tne (fun q hq => g2.seat q hq) hts, fun yb pb rowsb hpb => ?_⟩
      generalize hGb : upd Ha pb _ = Hb
      have eb := exG hGb hpb
      have hpbb := atG hGb
      clear hGb
      have eab := ext ea eb
      have same : (keysL (LK (countsL ns tss) (topL (countsL ns tss) + 1))).Perm (keysL (LK (countsL ns (tss ++ [s])) (topL (countsL ns (tss ++ [s])) + 1))) := by
        refine (List.perm_ext_iff_of_nodup nodB nodA).mpr fun q => ?_
        rw [LK_keys, LK_keys]
        constructor
        · rintro ⟨d, hd⟩
          obtain ⟨e, he, _⟩ := le12 d q hd
          exact ⟨e, he⟩
        · rintro ⟨e, he⟩
          obtain ⟨d, hd, _⟩ := more_ge L1 M2 (s := s) (fun q hq => (List.mem_append.mp hq).imp id fun h => List.mem_singleton.mp h) hk e q he
          exact ⟨d, hd⟩
      rw [sortT_same same] at rowsa
      refine ⟨_, _, .lst (SqL.of (eb _ _ hpaa)) ((rowsa.mono ea).mono eb).dp, .lst (SqL.of hpbb) (rowsb.mono eb).dp, (sh_rows (n := 58) _).ok, (sh_rows (n := 58) _).ok, _, rfl, itf (by rw [eqv_refl _ (sh_rows (n := 58) _).1]; rfl) ?_⟩
      have hD1b : Hb D1 = some (.dT ((LK (countsL ns tss) (topL (countsL ns tss) + 1)).map entV)) := hD15.mono eab
      have hD2b : CntAt Hb D2 (LK (countsL ns (tss ++ [s])) (topL (countsL ns (tss ++ [s])) + 1)) := hD25.mono eab
      have hspb := eab _ _ (E5 _ _ hsp)
      refine ⟨D1, _, hD1b, True.intro, fun od => ?_⟩
      generalize hG1 : upd Hb D1 _ = Hbl
      have hDl : Hbl D1 = some (.frz od (.dT ((LK (countsL ns tss) (topL (countsL ns tss) + 1)).map entV))) := by rw [← hG1]; exact upd_same
      have xl : ∀ c o, c ≠ D1 → Hb c = some o → Hbl c = some o := fun c o nc z => by rw [← hG1, upd_ne nc]; exact z
      refine ⟨_, rfl, D1, od, rfl, .inr ⟨_, hDl, fun L hL => ?_⟩⟩
      refine lc_filt walk_keysT (LK (countsL ns tss) (topL (countsL ns tss) + 1)) (fun _ => false) (fun _ => .int 0) (by rw [List.length_map]) (by rw [List.length_map]; omega) hL (fun Hx ex => ex _ _ hDl) ?_ ?_
      · rintro i x f _ Hx R S hf ex ⟨rfl, kk, vv, qa, hkv, rfl, hqa⟩ kR kS
        rw [List.getElem?_map, hf] at hkv
        obtain ⟨rfl, rfl⟩ := Prod.mk.inj (Option.some.inj hkv)
        rw [entK_kV] at hqa
        have gb : DGet Hx D1 (.ref qa) (some (V.int (f.2 : Int))) := by
          refine .inr ⟨_, entK f.1, qa, .inr ⟨od, ex _ _ hDl⟩, rfl, by rw [entK_kV]; exact hqa, ?_⟩
          rw [val_ent, dep_mem nodB (List.mem_of_getElem? hf)]
          rfl
        have fin := dep_mem nodB (List.mem_of_getElem? hf)
        have fin1 : dep (countsL ns tss) f.1 = some f.2 := by rw [← LK_all g1.nod]; exact fin
        obtain ⟨e, he, le⟩ := le12 f.2 f.1 fin1
        obtain ⟨d, hd, ld⟩ := more_ge L1 M2 (s := s) (fun q hq => (List.mem_append.mp hq).imp id fun h => List.mem_singleton.mp h) hk e f.1 he
        obtain rfl := Option.some.inj (fin1.symm.trans hd)
        have ga : DGet Hx D2 (.ref qa) (some (V.int (e : Int))) := by
          have := cnt_get ((show CntAt Hbl D2 _ from xl _ _ nD21 hD2b).mono ex) hqa
          rw [LK_all g2.nod, he] at this
          exact this
        have gs : DGet Hx D1 (.ref sp) (some (V.int (k0 : Int))) := by
          refine .inr ⟨_, entK s, sp, .inr ⟨od, ex _ _ hDl⟩, rfl, by rw [entK_kV]; exact ex _ _ (xl _ _ (ne_of hspb hD1b (by intro z; cases z)) hspb), ?_⟩
          rw [val_ent, LK_all g1.nod, hk]
          rfl
        exact ⟨rfl, _, rfl, _, rfl, D2, _, rfl, ga, _, rfl, _, rfl, D1, _, rfl, gb, _, rfl, _, rfl, D1, _, rfl, gs, _, _, rfl, rfl, _, _, rfl, rfl, _, rfl, itf (decide_eq_false (by omega)) (kS _ exr rfl)⟩

      intro Hr er hLr
      rw [List.filter_eq_nil_iff.mpr (fun _ _ h => by cases h)] at hLr
      refine ⟨er _ _ hDl, ?_⟩
      have E7 : Ex Hb (upd Hr D1 (.dT ((LK (countsL ns tss) (topL (countsL ns tss) + 1)).map entV))) := by subst hG1; exact Ex.back hD1b er
      have hLq : upd Hr D1 (.dT ((LK (countsL ns tss) (topL (countsL ns tss) + 1)).map entV)) L = some (.lst []) := by
        rw [upd_ne (ne_of_none hDl hL).symm]
        exact hLr
      generalize upd Hr D1 (.dT ((LK (countsL ns tss) (topL (countsL ns tss) + 1)).map entV)) = Hq at E7 hLq
      clear hG1
      refine ⟨slen rfl, ?_⟩
      (intro nn nnn; generalize hGnn : upd _ nn _ = Ht; have eHt := exG hGnn nnn; have hnn := atG hGnn; clear hGnn)
      refine ⟨.list (([] : List (List Int)).map iT), .list (([] : List (List Int)).map iT), .lst (SqL.of (eHt _ _ hLq)) .nil, .lst (SqL.of hnn) .nil, (sh_rows (n := 58) []).ok, (sh_rows (n := 58) []).ok, _, rfl, itf (by rw [eqv_refl _ (sh_rows (n := 58) []).1]; rfl) ?_⟩
      exact hN _ (ext eab (ext E7 eHt))
    have E6 := ext E5 e6
    have dz : dep (countsL ns (s :: tss)) s = some 0 := by
      refine ((counts_least (fun t ht => ?_) (List.nodup_cons.mpr ⟨sout, nod⟩) (by simp)).zero s).mpr List.mem_cons_self
      rcases List.mem_cons.mp ht with rfl | h
      · exact sk
      · exact sks t h
    refine ⟨_, rfl, _, rfl, slen rfl, ?_⟩
    (intro r1 nr1; generalize hGr1 : upd _ r1 _ = H7; have eH7 := exG hGr1 nr1; have hr1 := atG hGr1; clear hGr1)
    refine ⟨_, rfl, r1, g, _, _, rfl, rfl, SqL.of hr1, SqL.of (eH7 _ _ (E6 _ _ hg)), Nat.le_trans (show 1 + gs.length ≤ 100 by omega) (by decide), ?_⟩
    (intro r2 nr2; generalize hGr2 : upd _ r2 _ = H8; have eH8 := exG hGr2 nr2; have hr2 := atG hGr2; clear hGr2)
    have E8 := ext E6 (ext eH7 eH8)
    have rr : RowsR H8 (.ref sp :: gs) (s :: tss) := .cons ⟨sp, rfl, E8 _ _ hsp⟩ (rg.mono E8)
    refine ⟨_, rfl, a, sp, (false, r2), ns, s, s :: tss, rfl, tab.mono E8, ok, by omega, ⟨_, hr2, rr⟩, by simp, by rw [List.length_cons]; omega, fun t ht => ?_, List.nodup_cons.mpr ⟨sout, nod⟩, E8 _ _ hsp, sk, fun H9 e9 => ?_⟩
    · rcases List.mem_cons.mp ht with rfl | h
      · exact sk
      · exact sks t h
    rw [dz]
    refine ⟨rfl, ?_⟩
    rw [show decide (optV (some 0) = V.int 0) = true from decide_eq_true rfl]
    exact k _ (ext E8 e9)
end

theorem mem_rows {H : Hp} : ∀ {ys : List V} {tss : List (List Int)} {v : V}, RowsR H ys tss → v ∈ ys → ∃ r ts, v = V.ref r ∧ ts ∈ tss ∧ H r = some (.tup (ts.map V.int))
  | y :: ys, ts :: tss, v, .cons q t, h => by
    rcases List.mem_cons.mp h with rfl | h
    · obtain ⟨r, h1, h2⟩ := q
      exact ⟨r, ts, h1, List.mem_cons_self, h2⟩
    · obtain ⟨r, ts, h1, h2, h3⟩ := mem_rows t h
      exact ⟨r, ts, h1, List.mem_cons_of_mem _ h2, h3⟩

theorem tab_xbs {C s a : Addr} {H H2 : Hp} {ns : List Int} (src : Src H s) (xb : XB s H H2) (h : TabAt C H a ns) : TabAt C H2 a ns := by
  obtain ⟨dx, t, h1, h2⟩ := h
  obtain ⟨u, v, w, hs⟩ := src
  exact ⟨dx, t, xb _ _ (ne_of h1 hs (by intro z; cases z)) h1, xb _ _ (ne_of h2 hs (by intro z; cases z)) h2⟩
theorem LayR.xb {s : Addr} {H H2 : Hp} (src : Src H s) (x : XB s H H2) : ∀ {xs : List V} {rows : List (List (List Int))}, LayR H xs rows → LayR H2 xs rows
  | _, _, .nil => .nil
  | _, _, .cons ⟨a, h1, us, h2, h3⟩ t => by
    refine .cons ⟨a, h1, us, x _ _ (fun z => ?_) h2, h3.monoT fun c zs q => tup_xb src q x⟩ (LayR.xb src x t)
    obtain ⟨u, v, w, hs⟩ := src
    rw [z, hs] at h2
    injection h2 with h2
    injection h2 with h2
    subst h2
    cases h3 with
    | cons h _ =>
      obtain ⟨r, h, _⟩ := h
      cases h
theorem cut_map (ns : List Int) (lo hi : Option Int) : ∃ ms : List Int, cutV (ns.map V.int) lo hi = ms.map V.int := by
  refine ⟨(ns.drop (HT.sIx (ns.map V.int).length 0 lo)).take (HT.sIx (ns.map V.int).length (ns.map V.int).length hi - HT.sIx (ns.map V.int).length 0 lo), ?_⟩
  unfold cutV
  rw [List.map_take, List.map_drop]
theorem cut_len (xs : List V) (lo hi : Option Int) : (cutV xs lo hi).length ≤ xs.length := by
  unfold cutV
  rw [List.length_take, List.length_drop]
  omega
section
variable {P : Program} {w : World} {K : PySem.W.Frag} {mg : Str → Option Value} {base : Heap}
def sp_law (K : PySem.W.Frag) : Sp := fun vs H Q _ => ∃ (a : Addr) (ns : List Int), vs = [.ref a] ∧ SqL K H a (ns.map V.int) ∧ ns.length ≤ 63 ∧ ∀ H2, Q (.bl true) H2
theorem ok_law (T : TX K mg) : FnOk P w K mg base CX0 9 T.f_law T.fd_law ["_law_script"] (sp_law K) := by
  refine T.F_law.ok sc_law (fun vs H Q E h => ?_) (fun cdv A outer s H vs Q E hr h => ?_)
  · obtain ⟨a, ns, rfl, _⟩ := h
    rfl
  · obtain ⟨a, ns, rfl, hS, hlen, k⟩ := h
    refine ⟨_, (pss_cons (ps_for PassesOwn.never rfl (pi_list (pe_op (r := rCatR K) op_catR (pe_lst (pa_cons pe_int pa_nil)) (pe_slice sl_list (pv 0) po_none (po_some pe_int)))) (pg_name (i := 1) sc_law.nd rfl (Or.inl rfl)) (pss_cons (ps_set (i := 2) sc_law.nd rfl (Or.inl rfl) (pe_call (ok_law_source T) (hr.mono (by decide)) rfl T.m_law_source T.F_law_source.kp T.b_law_source .nil pass0 (pa_cons (pv 1) pa_nil))) (pss_cons (ps_set (i := 3) sc_law.nd rfl (Or.inl rfl) (pe_call (ok_law_rings T) (hr.mono (by decide)) rfl T.m_law_rings T.F_law_rings.kp T.b_law_rings .nil pass0 (pa_cons (pv 2) (pa_cons pe_int pa_nil)))) (pss_cons (ps_set (i := 4) sc_law.nd rfl (Or.inl rfl) (pe_call (ok_law_seats T) (hr.mono (by decide)) rfl T.m_law_seats T.F_law_seats.kp T.b_law_seats .nil pass0 (pa_cons (pv 3) pa_nil))) (pss_cons (ps_set (i := 5) sc_law.nd rfl (Or.inr rfl) (pe_call (ok_law_targets T) (hr.mono (by decide)) rfl T.m_law_targets T.F_law_targets.kp T.b_law_targets .nil pass0 (pa_cons (pv 2) (pa_cons (pv 4) (pa_cons pe_int pa_nil))))) (pss_cons (ps_set (i := 6) sc_law.nd rfl (Or.inl rfl) (pe_make T.M_Table (ok_Table_init T) (hr.mono (by decide)) rfl T.m_Table T.b_Table_init .nil pass0 (pa_cons (pv 3) pa_nil))) (pss_cons (ps_set (i := 7) sc_law.nd rfl (Or.inl rfl) (pe_call (ok_layers T) (hr.mono (by decide)) rfl T.m_layers T.F_layers.kp T.b_layers .nil pass0 (pa_cons (pv 6) (pa_cons (pv 5) pa_nil)))) (pss_cons (ps_if (pt_not (pt_val (pe_call (ok_law_shifted_right T) hr rfl T.m_law_shifted_right T.F_law_shifted_right.kp T.b_law_shifted_right .nil pass0 (pa_cons (pv 6) (pa_cons (pv 7) pa_nil))))) (pss_one (ps_ret pe_bl)) pss_nil) (pss_cons (ps_set (i := 8) sc_law.nd rfl (Or.inl rfl) (pe_call (ok_law_by_seat T) (hr.mono (by decide)) rfl T.m_law_by_seat T.F_law_by_seat.kp T.b_law_by_seat .nil pass0 (pa_cons (pv 7) pa_nil))) (pss_cons (ps_set (i := 9) sc_law.nd rfl (Or.inl rfl) (pe_lst (pa_cons (pe_lc (own := [("_law_one", 11)]) (g := (gName 11)) rfl sc_law.nd (pi_list (pv 4)) (blkOk_by (N := N_law) (sc := defScope s_law) (by decide +kernel)) (fun _ _ _ _ _ => (pg_name (i := 11) sc_law.nd rfl (Or.inl rfl))) (fun _ _ _ _ _ => (pts_one (pt_cmpR (r := rNotInD K) (op_notInD (u65 hr)) (pv 11) (pv 5) rfl))) (fun _ _ _ _ _ => (pv 11))) (pa_cons (pe_lc (own := [("_law_one", 11)]) (g := (gName 11)) rfl sc_law.nd (pi_list (pe_callB (cr_sortDT rfl (u65 hr)) (by rfl) T.z_sorted (by decide +kernel) (pa_cons (pv 8) pa_nil))) (blkOk_by (N := N_law) (sc := defScope s_law) (by decide +kernel)) (fun _ _ _ _ _ => (pg_name (i := 11) sc_law.nd rfl (Or.inl rfl))) (fun _ _ _ _ _ => (pts_one (pt_cmpR (r := rNotInD K) (op_notInD (u65 hr)) (pv 11) (pv 5) rfl))) (fun _ _ _ _ _ => (pv 11))) pa_nil)))) (pss_one (ps_for PassesOwn.never rfl (pi_list (pe_lc (own := [("_law_one", 11)]) (g := (gName 11)) rfl sc_law.nd (pi_list (pv 9)) (blkOk_by (N := N_law) (sc := defScope s_law) (by decide +kernel)) (fun _ _ _ _ _ => (pg_name (i := 11) sc_law.nd rfl (Or.inl rfl))) (fun _ _ _ _ _ => (pts_one (pt_cmpR (r := rNeD K) (op_neD hr.units) (pv 11) (pe_lst pa_nil) (nomark _)))) (fun _ _ _ _ _ => (pv 11)))) (pg_name (i := 10) sc_law.nd rfl (Or.inl rfl)) (pss_one (ps_if (pt_not (pt_val (pe_call (ok_law_more_right T) hr rfl T.m_law_more_right T.F_law_more_right.kp T.b_law_more_right .nil pass0 (pa_cons (pv 6) (pa_cons (pv 7) (pa_cons (pv 5) (pa_cons (pe_ix ix_list (pv 10) (pe_call (ok_law_draw T) (hr.mono (by decide)) rfl T.m_law_draw T.F_law_draw.kp T.b_law_draw .nil pass0 (pa_cons (pv 2) (pa_cons (pe_callB call_len_seq (by rfl) T.z_len (by decide +kernel) (pa_cons (pv 10) pa_nil)) pa_nil))) (fun _ _ => rfl)) pa_nil))))))) (pss_one (ps_ret pe_bl)) pss_nil)))))))))))))) (pss_one (ps_ret pe_bl))), ?_⟩
    refine ⟨slen rfl, ?_⟩
    (intro z0 nz0; generalize hGz0 : upd _ z0 _ = H1; have eH1 := exG hGz0 nz0; have hz0 := atG hGz0; clear hGz0)
    refine ⟨_, rfl, 3, rfl, a, _, rfl, Evl.ex_l eH1 hS, ?_⟩
    obtain ⟨ms, em⟩ := cut_map ns none (some 3)
    have ml : (ms.map V.int).length ≤ 63 := by
      rw [← em]
      exact Nat.le_trans (cut_len _ _ _) (by rw [List.length_map]; exact hlen)
    rw [em]
    (intro c nc; generalize hGc : upd _ c _ = H2; have eH2 := exG hGc nc; have hc := atG hGc; clear hGc)
    refine ⟨z0, c, _, _, rfl, rfl, SqL.of (eH2 _ _ hz0), SqL.of hc, ?_, ?_⟩
    · exact Nat.le_trans (show 1 + _ ≤ 64 by omega) (by decide)
    (intro d nd; generalize hGd : upd _ d _ = H3; have eH3 := exG hGd nd; have hd := atG hGd; clear hGd)
    have hd : H3 d = some (.lst ((0 :: ms).map V.int)) := hd
    refine ⟨d, rfl, ⟨_, SqL.of hd⟩, ?_⟩
    refine for_it (walk_list (xs := (0 :: ms).map V.int)) (fun i σ H => (∃ y1 y2 y3 y4 y5 y6 y7 y8 y9 y10 y11, σ = [some (.ref a), y1, y2, y3, y4, y5, y6, y7, y8, y9, y10, y11]) ∧ H d = some (.lst ((0 :: ms).map V.int))) ⟨⟨_, _, _, _, _, _, _, _, _, _, _, rfl⟩, hd⟩ (fun i σ H _ p => SqL.of p.2) ?_ (fun σ H p => k _)
    rintro i x σ _ Hx hi ⟨⟨y1, y2, y3, y4, y5, y6, y7, y8, y9, y10, y11, rfl⟩, hd1⟩ ⟨rfl, hx⟩
    obtain ⟨n, _, rfl⟩ := map_get hx
    dsimp only [gName]
    show tSeq _ _ _ [_, _, _, _, _, _, _, _, _, _, _, _] _
    refine ⟨_, rfl, n, rfl, fun Hy s e ns0 src => ?_⟩
    have nd : d ≠ s := ne_of_none hd1 ns0
    have hdy := e _ _ hd1
    dsimp only [gName]
    show tSeq _ _ _ [_, _, _, _, _, _, _, _, _, _, _, _] _
    refine ⟨_, rfl, s, 80, rfl, src, by decide, by decide, fun l ns H4 nl hl ok p80 xb4 src4 => ?_⟩
    have nls : l ≠ s := src.ne nl
    have pr : prodL ns ≤ 300 := Int.le_trans p80 (by decide)
    have lA := allS_len ok.one
    have pos := prodL_pos ok.one
    dsimp only [gName]
    show tSeq _ _ _ [_, _, _, _, _, _, _, _, _, _, _, _] _
    refine ⟨_, rfl, l, ns, rfl, hl, ok, pr, fun sp H5 e5 nsp ⟨xs, hsp, rx⟩ => ?_⟩
    have lx := rx.len
    have src5 := src4.mono e5
    have nsps : sp ≠ s := src4.ne nsp
    dsimp only [gName]
    show tSeq _ _ _ [_, _, _, _, _, _, _, _, _, _, _, _] _
    refine ⟨_, rfl, _, rfl, s, sp, 5, allS ns, rfl, src5, ⟨xs, hsp, rx⟩, nsps, (fun z => by rw [z] at lA; simp at lA; omega), by omega, allS_nodup ns, by decide, by decide, fun g tss H6 ng ⟨gs, hg, rg⟩ ne ltss tin nod xb6 src6 => ?_⟩
    have ngs : g ≠ s := src5.ne ng
    have sks : ∀ t ∈ tss, SeatOk ns t := fun t ht => mem_allS.mp (tin t ht)
    have hl6 := xb6 _ _ nls (e5 _ _ hl)
    have hsp6 := xb6 _ _ nsps hsp
    have rx6 : RowsR H6 xs (allS ns) := rx.monoT fun _ _ z => tup_xb src5 z xb6
    have X6 : XB s Hy H6 := xb4.trans ((XB.of e5).trans xb6)
    have hd6 := X6 _ _ nd hdy
    clear hsp rx e5 xb6 xb4 hl hdy src5 src4 src X6
    dsimp only [gName]
    show tSeq _ _ _ [_, _, _, _, _, _, _, _, _, _, _, _] _
    refine ⟨_, rfl, ?_⟩
    refine mk_tab (b := false) (show SqH H6 (false, l) _ from hl6) ok fun bd H7 e7 nbd tab => ?_
    dsimp only [gName]
    show tSeq _ _ _ [_, _, _, _, _, _, _, _, _, _, _, _] _
    refine ⟨_, rfl, _, rfl, bd, (false, g), ns, tss, rfl, tab, ok, pr, ⟨gs, e7 _ _ hg, rg.mono e7⟩, ne, by omega, sks, nod, fun ly zz H8 e8 nly hly lay _ => ?_⟩
    have e68 := ext e7 e8
    have src6x := src6.mono e7
    dsimp only [gName]
    show tSeq _ _ _ [_, _, _, _, _, _, _, _, _, _, _, _] _
    refine ⟨_, rfl, _, rfl, bd, ly, zz, ns, tss, rfl, tab.mono e8, ok, p80, hly, lay, ne, sks, nod, fun H9 e9 => ⟨_, rfl, itf rfl ?_⟩⟩
    obtain ⟨d1, g1⟩ := counts_good sks nod
    have lcs : (countsL ns tss).length ≤ 300 := by
      have h1 : (keysL (countsL ns tss)).length ≤ (allS ns).length := List.Nodup.length_le_of_subset g1.nod fun p hp => by
        obtain ⟨e, he⟩ := mem_keys hp
        exact mem_allS.mpr (g1.seat _ he)
      rw [List.length_map] at h1
      omega
    show tSeq _ _ _ [_, _, _, _, _, _, _, _, _, _, _, _] _
    refine ⟨_, rfl, ly, zz, ns, countsL ns tss, rfl, ok, p80, e9 _ _ hly, LayR.mono e9 lay, g1.nod, fun q hq => g1.seat q hq, lcs, fun D Ha ea nD hD => ?_⟩
    have E := ext e68 (ext e9 ea)
    have hga := E _ _ hg
    have rga := rg.mono E
    have hspa := E _ _ hsp6
    have rxa := rx6.mono E
    have taba := tab.mono (ext e8 (ext e9 ea))
    have hlya := (ext e9 ea) _ _ hly
    have laya := LayR.mono (ext e9 ea) lay
    have srca := src6.mono E
    have hda := E _ _ hd6
    clear hg rg hsp6 rx6 tab hly lay src6 hd6 e9 ea e8 e7 e68 E hl6
    dsimp only [gName]
    show tSeq _ _ _ [_, _, _, _, _, _, _, _, _, _, _, _] _
    refine ⟨_, rfl, sp, rfl, ⟨_, SqL.of hspa⟩, fun A hA => ?_⟩
    refine lc_filt (walk_list (xs := xs)) (xs.zip (allS ns)) (fun z => decide (z.2 ∉ tss)) (fun z => z.1) (by rw [List.length_zip]; omega) (by omega) hA (fun Hx ex => SqL.of (ex _ _ hspa)) ?_ ?_
    · rintro i x ⟨z1, z2⟩ _ Hx R S hz ex ⟨rfl, hx⟩ kR kS
      obtain ⟨hz1, hz2⟩ := zip_at2 hz
      obtain ⟨o, r, hp, rfl, hr2⟩ := rxa.get hx
      obtain rfl : o = z2 := Option.some.inj (hp.symm.trans hz2)
      obtain rfl : V.ref r = z1 := Option.some.inj (hx.symm.trans hz1)
      refine ⟨rfl, _, rfl, _, rfl, iT o, tss.map iT, dp_ints (ex _ _ hr2), .lst (SqL.of (ex _ _ hga)) (rga.mono ex).dp, (sh_ints (n := 59) _).ok, (sh_rows (n := 58) _).ok, ?_⟩
      rw [any_rows]
      refine ⟨_, rfl, ?_⟩
      by_cases c : o ∈ tss
      · exact itf (by rw [decide_eq_true c]; rfl) (kS _ exr (decide_eq_false (not_not_intro c)))
      · exact itt (by rw [decide_eq_false c]; rfl) ⟨_, rfl, kR _ _ exr (decide_eq_true c) rfl⟩
    intro Hb eb hAb
    have ra : RowsR Hb (((xs.zip (allS ns)).filter fun z => decide (z.2 ∉ tss)).map fun z => z.1) ((allS ns).filter fun o => decide (o ∉ tss)) := RowsR.filt (fun o => decide (o ∉ tss)) (rxa.mono eb)
    generalize (((xs.zip (allS ns)).filter fun z => decide (z.2 ∉ tss)).map fun z => z.1) = as at hAb ra
    have nodK := LK_nod g1.nod (topL (countsL ns tss) + 1)
    have tsne : ∀ ts ∈ keysL (LK (countsL ns tss) (topL (countsL ns tss) + 1)), SeatOk ns ts := fun ts hts => by
      obtain ⟨e, he⟩ := LK_keys.mp hts
      exact g1.seat _ (mem_dep he)
    refine ⟨_, rfl, D, _, keysL (LK (countsL ns tss) (topL (countsL ns tss) + 1)), rfl, hD.mono eb, by rw [List.map_map, List.map_map]; rfl, fun ts hts z => ?_, fun yk pk rk hpk => ?_⟩
    · have := (tsne ts hts).len
      rw [show ts = [] from z] at this
      exact ok.1 (List.length_eq_zero_iff.mp this.symm)
    have skK : ∀ t ∈ (keysL (LK (countsL ns tss) (topL (countsL ns tss) + 1))).mergeSort leT, SeatOk ns t := fun t ht => tsne t (List.mem_mergeSort.mp ht)
    have lK : ((keysL (LK (countsL ns tss) (topL (countsL ns tss) + 1))).mergeSort leT).length ≤ 300 := by
      rw [List.length_mergeSort, List.length_map]
      exact Nat.le_trans (LK_len g1.nod _) lcs
    generalize (keysL (LK (countsL ns tss) (topL (countsL ns tss) + 1))).mergeSort leT = ks at *
    generalize hGc : upd Hb pk _ = Hc
    have ec := exG hGc hpk
    have hpkc := atG hGc
    clear hGc
    have lyk : yk.length = ks.length := Paired.length rk
    have ebc := ext eb ec
    refine ⟨pk, rfl, ⟨_, SqL.of hpkc⟩, fun B hB => ?_⟩
    refine lc_filt (walk_list (xs := yk)) (yk.zip ks) (fun z => decide (z.2 ∉ tss)) (fun z => z.1) (by rw [List.length_zip]; omega) (by omega) hB (fun Hx ex => SqL.of (ex _ _ hpkc)) ?_ ?_
    · rintro i x ⟨z1, z2⟩ _ Hx R S hz ex ⟨rfl, hx⟩ kR kS
      obtain ⟨hz1, hz2⟩ := zip_at2 hz
      obtain ⟨o, r, hp, rfl, hr2⟩ := (rk.mono ec).get hx
      obtain rfl : o = z2 := Option.some.inj (hp.symm.trans hz2)
      obtain rfl : V.ref r = z1 := Option.some.inj (hx.symm.trans hz1)
      refine ⟨rfl, _, rfl, _, rfl, iT o, tss.map iT, dp_ints (ex _ _ hr2), .lst (SqL.of (ex _ _ (ebc _ _ hga))) ((rga.mono ebc).mono ex).dp, (sh_ints (n := 59) _).ok, (sh_rows (n := 58) _).ok, ?_⟩
      rw [any_rows]
      refine ⟨_, rfl, ?_⟩
      by_cases c : o ∈ tss
      · exact itf (by rw [decide_eq_true c]; rfl) (kS _ exr (decide_eq_false (not_not_intro c)))
      · exact itt (by rw [decide_eq_false c]; rfl) ⟨_, rfl, kR _ _ exr (decide_eq_true c) rfl⟩
    intro Hd ed hBd
    have rb : RowsR Hd (((yk.zip ks).filter fun z => decide (z.2 ∉ tss)).map fun z => z.1) (ks.filter fun o => decide (o ∉ tss)) := RowsR.filt (fun o => decide (o ∉ tss)) ((rk.mono ec).mono ed)
    generalize (((yk.zip ks).filter fun z => decide (z.2 ∉ tss)).map fun z => z.1) = bs at hBd rb
    refine ⟨slen rfl, ?_⟩
    (intro ot not; generalize hGot : upd _ ot _ = He; have eHe := exG hGot not; have hot := atG hGot; clear hGot)
    dsimp only [gName]
    have ede := eHe
    have rae : RowsR He as ((allS ns).filter fun o => decide (o ∉ tss)) := (ra.mono (ext ec ed)).mono eHe
    have hAe : He A = some (.lst as) := eHe _ _ (ed _ _ (ec _ _ hAb))
    have rbe : RowsR He bs (ks.filter fun o => decide (o ∉ tss)) := rb.mono eHe
    have hBe : He B = some (.lst bs) := eHe _ _ hBd
    have ae := ext ebc (ext ed eHe)
    have nAs : A ≠ s := srca.ne hA
    have nBs : B ≠ s := ((srca.mono eb).mono ec).ne hB
    have srce := srca.mono ae
    have hge := ae _ _ hga
    have rge := rga.mono ae
    have tabe := taba.mono ae
    have hlye := ae _ _ hlya
    have laye := LayR.mono ae laya
    have hde := ae _ _ hda
    have nly2 : ly ≠ s := src6x.ne nly
    clear ra hAb rb hBd rxa hspa hpkc rk hD eb ec ed ebc ae hga rga taba hlya laya hda srca eHe ede hA hB hpk
    refine ⟨_, rfl, ot, rfl, ⟨_, SqL.of hot⟩, fun F hF => ?_⟩
    refine lc_filt (walk_list (xs := [V.ref A, V.ref B])) [(A, as, (allS ns).filter fun o => decide (o ∉ tss)), (B, bs, ks.filter fun o => decide (o ∉ tss))] (fun z => decide (z.2.2 ≠ [])) (fun z => V.ref z.1) rfl (Nat.le_of_ble_eq_true rfl) hF (fun Hx ex => SqL.of (ex _ _ hot)) ?_ ?_
    · rintro i x ⟨z1, zv, z2⟩ _ Hx R S hz ex ⟨rfl, hx⟩ kR kS
      obtain ⟨rfl, hz1, rz⟩ : x = V.ref z1 ∧ He z1 = some (.lst zv) ∧ RowsR He zv z2 := by
        match i, hz, hx with
        | 0, hz, hx =>
          cases hz
          cases hx
          exact ⟨rfl, hAe, rae⟩
        | 1, hz, hx =>
          cases hz
          cases hx
          exact ⟨rfl, hBe, rbe⟩
      refine ⟨rfl, _, rfl, slen rfl, ?_⟩
      (intro nn nnn; generalize hGnn : upd _ nn _ = Hn; have eHn := exG hGnn nnn; have hnn := atG hGnn; clear hGnn)
      refine ⟨_, _, .lst (SqL.of (eHn _ _ (ex _ _ hz1))) ((rz.mono ex).mono eHn).dp, .lst (SqL.of hnn) (RowsR.dp (hss := []) .nil), (sh_rows (n := 58) _).ok, (sh_rows (n := 58) []).ok, _, rfl, ?_⟩
      by_cases c : z2 = []
      · exact itf (by rw [c]; rfl) (kS _ eHn (by simp [c]))
      · exact itt (eqv_ne' c) ⟨_, rfl, kR _ _ eHn (by simp [c]) rfl⟩
    intro Hf ef hFf
    have srcf := srce.mono ef
    have pin : ∀ z ∈ ([(A, as, (allS ns).filter fun o => decide (o ∉ tss)), (B, bs, ks.filter fun o => decide (o ∉ tss))] : List (Addr × List V × List (List Int))), Hf z.1 = some (.lst z.2.1) ∧ RowsR Hf z.2.1 z.2.2 ∧ z.1 ≠ s ∧ (∀ t ∈ z.2.2, SeatOk ns t ∧ t ∉ tss) ∧ z.2.2.length ≤ 300 := fun z hz => by
      rcases List.mem_cons.mp hz with rfl | hz
      · exact ⟨ef _ _ hAe, rae.mono ef, nAs, fun t ht => ⟨mem_allS.mp (List.mem_filter.mp ht).1, of_decide_eq_true (List.mem_filter.mp ht).2⟩, Nat.le_trans (List.length_filter_le _ _) (by omega)⟩
      · rw [List.mem_singleton.mp hz]
        exact ⟨ef _ _ hBe, rbe.mono ef, nBs, fun t ht => ⟨skK t (List.mem_filter.mp ht).1, of_decide_eq_true (List.mem_filter.mp ht).2⟩, Nat.le_trans (List.length_filter_le _ _) lK⟩
    generalize ([(A, as, (allS ns).filter fun o => decide (o ∉ tss)), (B, bs, ks.filter fun o => decide (o ∉ tss))] : List (Addr × List V × List (List Int))) = zl at *
    have nFs : F ≠ s := srce.ne hF
    refine ⟨F, rfl, ⟨_, SqL.of hFf⟩, ?_⟩
    refine for_it (walk_list (xs := (zl.filter fun z => decide (z.2.2 ≠ [])).map fun z => V.ref z.1)) (fun i σ Hx => (∃ y10 : Option V, σ = [some (.ref a), some (.int n), some (.ref s), some (.ref l), some (.ref sp), some (.ref g), some (.ref bd), some (.ref ly), some (.ref D), some (.ref ot), y10, y11]) ∧ XB s Hf Hx ∧ Src Hx s) ⟨⟨_, rfl⟩, fun c o _ z => z, srcf⟩ (fun i σ Hx _ p => SqL.of (p.2.1 _ _ nFs hFf)) ?_ (fun σ Hx ⟨⟨y10, hσ⟩, xb, _⟩ => ⟨⟨_, _, _, _, _, _, _, _, _, _, _, hσ⟩, xb _ _ nd (ef _ _ hde)⟩)
    rintro i x σ _ Hx hi2 ⟨⟨y10, rfl⟩, xb, srcx⟩ ⟨rfl, hx⟩
    rw [List.getElem?_map] at hx
    obtain ⟨z, hz, rfl⟩ := Option.map_eq_some_iff.mp hx
    obtain ⟨hzm, hzn⟩ := List.mem_filter.mp (List.mem_of_getElem? hz)
    obtain ⟨hz1, rz, nzs, hzt, hzl⟩ := pin z hzm
    have zne : z.2.2 ≠ [] := of_decide_eq_true hzn
    have z0 := List.length_pos_iff.mpr zne
    have lzv : z.2.1.length = z.2.2.length := Paired.length rz
    have hzx := xb _ _ nzs hz1
    dsimp only [gName]
    refine ⟨_, rfl, _, rfl, _, rfl, _, rfl, _, rfl, _, rfl, z.1, z.2.1, rfl, .inl (SqL.of hzx), s, (z.2.1.length : Int), rfl, srcx, by omega, Nat.lt_of_le_of_lt (show _ ≤ 1000 by omega) (by decide +kernel), fun r Hg r0 r1 xbg srcg => ?_⟩
    have xfg := xb.trans xbg
    obtain ⟨v, gv, mv⟩ := atI_nat (xs := z.2.1) r0 (by omega)
    obtain ⟨pa, p, rfl, hp, hpa⟩ := mem_rows (rz.monoT fun _ _ q => tup_xb srcf q xfg) mv
    obtain ⟨skp, pout⟩ := hzt p hp
    refine ⟨z.1, _, _, _, rfl, rfl, SqL.of (xfg _ _ nzs hz1), gv, ?_⟩
    refine ⟨bd, ly, g, pa, zz, ns, p, tss, rfl, tab_xbs srcf xfg (tabe.mono ef), ok, p80, xfg _ _ nly2 (ef _ _ hlye), LayR.xb srcf xfg (LayR.mono ef laye), ⟨gs, xfg _ _ ngs (ef _ _ hge), (rge.mono ef).monoT fun _ _ q => tup_xb srcf q xfg⟩, ne, sks, nod, hpa, skp, pout, fun Hh eh => ⟨_, rfl, itf rfl ?_⟩⟩
    exact ⟨⟨_, rfl⟩, xfg.trans (XB.of eh), srcg.mono eh⟩
end

/-! ### the head by facts -/
def dd0 : He.DefD := ⟨("_wall", none), "_wall", "_wall", defArgs s_wall, defBody s_wall, defScope s_wall, [], []⟩
def dd1 : He.DefD := ⟨("is_integer", none), "is_integer", "is_integer", defArgs s_is_integer, defBody s_is_integer, defScope s_is_integer, [], []⟩
def dd2 : He.DefD := ⟨("is_at_least", none), "is_at_least", "is_at_least", defArgs s_is_at_least, defBody s_is_at_least, defScope s_is_at_least, [], []⟩
def dd3 : He.DefD := ⟨("is_between", none), "is_between", "is_between", defArgs s_is_between, defBody s_is_between, defScope s_is_between, [], []⟩
def dd4 : He.DefD := ⟨("greatest_common_divisor", none), "greatest_common_divisor", "greatest_common_divisor", defArgs s_greatest_common_divisor, defBody s_greatest_common_divisor, defScope s_greatest_common_divisor, [], []⟩
def dd5 : He.DefD := ⟨("Table", some "__init__"), "__init__", "Table.__init__", defArgs s_Table_init, defBody s_Table_init, defScope s_Table_init, [], []⟩
def dd6 : He.DefD := ⟨("Table", some "sizes"), "sizes", "Table.sizes", defArgs s_Table_sizes, defBody s_Table_sizes, defScope s_Table_sizes, [], []⟩
def dd7 : He.DefD := ⟨("Table", some "count"), "count", "Table.count", defArgs s_Table_count, defBody s_Table_count, defScope s_Table_count, [], []⟩
def dd8 : He.DefD := ⟨("Table", some "is_seat"), "is_seat", "Table.is_seat", defArgs s_Table_is_seat, defBody s_Table_is_seat, defScope s_Table_is_seat, [], []⟩
def dd9 : He.DefD := ⟨("Table", some "is_call"), "is_call", "Table.is_call", defArgs s_Table_is_call, defBody s_Table_is_call, defScope s_Table_is_call, [], []⟩
def dd10 : He.DefD := ⟨("Table", some "shifted"), "shifted", "Table.shifted", defArgs s_Table_shifted, defBody s_Table_shifted, defScope s_Table_shifted, [], []⟩
def dd11 : He.DefD := ⟨("Table", some "moves"), "moves", "Table.moves", defArgs s_Table_moves, defBody s_Table_moves, defScope s_Table_moves, [], []⟩
def dd12 : He.DefD := ⟨("Table", some "step"), "step", "Table.step", defArgs s_Table_step, defBody s_Table_step, defScope s_Table_step, [], []⟩
def dd13 : He.DefD := ⟨("Table", some "order"), "order", "Table.order", defArgs s_Table_order, defBody s_Table_order, defScope s_Table_order, [], []⟩
def dd14 : He.DefD := ⟨("Table", some "halves"), "halves", "Table.halves", defArgs s_Table_halves, defBody s_Table_halves, defScope s_Table_halves, [], []⟩
def dd15 : He.DefD := ⟨("require_table", none), "require_table", "require_table", defArgs s_require_table, defBody s_require_table, defScope s_require_table, [], []⟩
def dd16 : He.DefD := ⟨("require_seat", none), "require_seat", "require_seat", defArgs s_require_seat, defBody s_require_seat, defScope s_require_seat, [], []⟩
def dd17 : He.DefD := ⟨("require_targets", none), "require_targets", "require_targets", defArgs s_require_targets, defBody s_require_targets, defScope s_require_targets, [], []⟩
def dd18 : He.DefD := ⟨("require_small", none), "require_small", "require_small", defArgs s_require_small, defBody s_require_small, defScope s_require_small, [], []⟩
def dd19 : He.DefD := ⟨("all_seats", none), "all_seats", "all_seats", defArgs s_all_seats, defBody s_all_seats, defScope s_all_seats, [], []⟩
def dd20 : He.DefD := ⟨("mirror_seat", none), "mirror_seat", "mirror_seat", defArgs s_mirror_seat, defBody s_mirror_seat, defScope s_mirror_seat, [], []⟩
def dd21 : He.DefD := ⟨("call_counts", none), "call_counts", "call_counts", defArgs s_call_counts, defBody s_call_counts, defScope s_call_counts, [], []⟩
def dd22 : He.DefD := ⟨("check_small_table", none), "check_small_table", "check_small_table", defArgs s_check_small_table, defBody s_check_small_table, defScope s_check_small_table, [], []⟩
def dd23 : He.DefD := ⟨("layers", none), "layers", "layers", defArgs s_layers, defBody s_layers, defScope s_layers, [], []⟩
def dd24 : He.DefD := ⟨("min_calls", none), "min_calls", "min_calls", defArgs s_min_calls, defBody s_min_calls, defScope s_min_calls, [], []⟩
def dd25 : He.DefD := ⟨("_law_mix", none), "_law_mix", "_law_mix", defArgs s_law_mix, defBody s_law_mix, defScope s_law_mix, [], []⟩
def dd26 : He.DefD := ⟨("_law_source", none), "_law_source", "_law_source", defArgs s_law_source, defBody s_law_source, defScope s_law_source, [], []⟩
def dd27 : He.DefD := ⟨("_law_draw", none), "_law_draw", "_law_draw", defArgs s_law_draw, defBody s_law_draw, defScope s_law_draw, [], []⟩
def dd28 : He.DefD := ⟨("_law_rings", none), "_law_rings", "_law_rings", defArgs s_law_rings, defBody s_law_rings, defScope s_law_rings, [], []⟩
def dd29 : He.DefD := ⟨("_law_seats", none), "_law_seats", "_law_seats", defArgs s_law_seats, defBody s_law_seats, defScope s_law_seats, [], []⟩
def dd30 : He.DefD := ⟨("_law_targets", none), "_law_targets", "_law_targets", defArgs s_law_targets, defBody s_law_targets, defScope s_law_targets, [], []⟩
def dd31 : He.DefD := ⟨("_law_by_seat", none), "_law_by_seat", "_law_by_seat", defArgs s_law_by_seat, defBody s_law_by_seat, defScope s_law_by_seat, [], []⟩
def dd32 : He.DefD := ⟨("_law_shifted_right", none), "_law_shifted_right", "_law_shifted_right", defArgs s_law_shifted_right, defBody s_law_shifted_right, defScope s_law_shifted_right, [], []⟩
def dd33 : He.DefD := ⟨("_law_more_right", none), "_law_more_right", "_law_more_right", defArgs s_law_more_right, defBody s_law_more_right, defScope s_law_more_right, [], []⟩
def dd34 : He.DefD := ⟨("law", none), "law", "law", defArgs s_law, defBody s_law, defScope s_law, [], []⟩
def fnL0 : List He.DefD := [dd0, dd1, dd2, dd3, dd4, dd5, dd6, dd7, dd8, dd9, dd10, dd11, dd12, dd13, dd14, dd15, dd16, dd17, dd18, dd19, dd20, dd21, dd22, dd23, dd24, dd25, dd26, dd27, dd28, dd29]
def fnL1 : List He.DefD := [dd30, dd31, dd32, dd33, dd34]
def fnL : List He.DefD := fnL0 ++ fnL1
def faL0 : List He.Fa := [.glo "_wall", .glo "is_integer", .glo "is_at_least", .glo "is_between", .glo "greatest_common_divisor", .glo "require_table", .glo "require_seat", .glo "require_targets", .glo "require_small", .glo "all_seats", .glo "mirror_seat", .glo "call_counts", .glo "check_small_table", .glo "layers", .glo "min_calls", .glo "_law_mix", .glo "_law_source", .glo "_law_draw", .glo "_law_rings", .glo "_law_seats", .glo "_law_targets", .glo "_law_by_seat", .glo "_law_shifted_right", .glo "_law_more_right", .glo "law", .glo "Table", .cls "Table", .mkr "Table", .meth "Table" "sizes", .meth "Table" "count"]
def faL1 : List He.Fa := [.meth "Table" "is_seat", .meth "Table" "is_call", .meth "Table" "shifted", .meth "Table" "moves", .meth "Table" "step", .meth "Table" "order", .meth "Table" "halves", .noat "Table" "rings", .int "MAX_RINGS" 4, .int "SMALL" 300, .free "abs", .free "all", .free "any", .free "bool", .free "dict", .free "enumerate", .free "int", .free "isinstance", .free "len", .free "list", .free "max", .free "min", .free "range", .free "sorted", .free "tuple", .free "zip"]
def faL : List He.Fa := faL0 ++ faL1
def exB (K : PySem.W.Frag) : Bool := (He.eqO (PySem.W.findIn K (.ref (He.ga K "Table")) "__class__") (some (some (.builtin "object.__class__")))) && ((decide (PySem.W.mroIn K (He.ga K "Table") (.type "object") = some true)) && ((He.eqO (PySem.W.specialIn K (.builtin "object.__class__") "__get__") (some (some (.builtin "getset_descriptor.__get__")))) && ((decide (PySem.W.takesIn K (.builtin "object.__class__") = some true)) && (true))))
abbrev AlK : Type := He.AlD × Bool
def obsK2 (K : PySem.W.Frag) : AlK := (He.obsD faL fnL K, exB K)
def SaysK (K : PySem.W.Frag) : Prop := obsK2 K = (He.valD fnL, true)
def obsK (g : Addr → Option Obj) : AlK := obsK2 (He.frG g (He.asD g 4))
def hk : PySem.W.Hook where
  α := AlK
  obs := fun s => obsK s.heap.get?
  val := fun _ => (He.valD fnL, true)
  says := fun _ h => ∃ K : PySem.W.Frag, K.In h ∧ SaysK K
  of := fun _ _ e => ⟨_, He.frG_in, e⟩
  keeps := fun _ _ _ ⟨K, hK, c⟩ k => ⟨K, PySem.W.Frag.In.keeps hK k, c⟩
def ob (s : PySem.W.SharedT) : AlK := obsK (HandSHeadRun.getT s)
theorem ob_eq (s : PySem.W.SharedT) : ob s = hk.obs s.abs := by
  have e : HandSHeadRun.getT s = s.abs.heap.get? := funext (HandSHeadRun.getT_eq s)
  show obsK (HandSHeadRun.getT s) = obsK s.abs.heap.get?
  rw [e]
def loose0 : List PySem.Str := ["_wall", "SeatError", "InvalidTable", "InvalidTargets", "InvalidSeat", "TooLarge", "is_integer", "is_at_least", "is_between", "greatest_common_divisor", "MAX_RINGS", "SMALL", "Table", "require_table", "require_seat", "require_targets", "require_small", "all_seats", "mirror_seat", "call_counts", "check_small_table", "layers", "min_calls", "_law_mix", "_law_source", "_law_draw", "_law_rings", "_law_seats", "_law_targets", "_law_by_seat"]
def loose1 : List PySem.Str := ["_law_shifted_right", "_law_more_right"]
def loose : List PySem.Str := loose0 ++ loose1
abbrev RR : PySem.W.OpenRow := PySem.W.OpenLaw.row PySem.Challenge.rw_calledseats_k26_whole_layers_as_targets
abbrev QQ : Program := PySem.W.view RR.prog [37]
def kOf (s : PySem.W.SharedT) : PySem.W.Frag := He.frG (HandSHeadRun.getT s) (He.asD (HandSHeadRun.getT s) 4)
theorem runA (w : World) : HandSHeadRun.RunEq RR QQ PySem.W.Hook.none (fun _ => ()) 30000 loose w := by
  intro os
  kernel_rfl
def obB (s : PySem.W.SharedT) : Bool × List He.FnW := (fnL.all fun d => d.ok (kOf s), fnL.map fun d => He.fnW (kOf s) d.at_)
def obC (s : PySem.W.SharedT) : Bool × Bool := (faL.all fun f => f.ok (kOf s), exB (kOf s))
theorem runB (w : World) (os : OsState) : (HandSHeadRun.endF (HandSHeadRun.stepQ (HandSHeadRun.denQ HandSHeadRun.tabQ) RR.prog w) 30000 RR.prog w os).map obB = some (true, fnL.map He.DefD.val) := by
  kernel_rfl
theorem runC (w : World) (os : OsState) : (HandSHeadRun.endF (HandSHeadRun.stepQ (HandSHeadRun.denQ HandSHeadRun.tabQ) RR.prog w) 30000 RR.prog w os).map obC = some (true, true) := by
  kernel_rfl
theorem runTop (w : World) : HandSHeadRun.RunEq RR QQ hk ob 30000 loose w := by
  intro os
  have hA := runA w os
  have hB := runB w os
  have hC := runC w os
  cases e : HandSHeadRun.endF (HandSHeadRun.stepQ (HandSHeadRun.denQ HandSHeadRun.tabQ) RR.prog w) 30000 RR.prog w os with
  | none =>
    rw [e] at hB
    cases hB
  | some s =>
    rw [e] at hA hB hC
    have hA2 := Option.some.inj hA
    have hB2 : obB s = (true, fnL.map He.DefD.val) := Option.some.inj hB
    have hC2 : obC s = (true, true) := Option.some.inj hC
    have hA3 := Prod.mk.inj hA2
    have hA4 := Prod.mk.inj hA3.2
    obtain ⟨b1, b2⟩ := Prod.mk.inj hB2
    obtain ⟨c1, c2⟩ := Prod.mk.inj hC2
    have ho : ob s = (He.valD fnL, true) := by
      show (((faL.all fun f => f.ok (kOf s)) && (fnL.all fun d => d.ok (kOf s)), fnL.map fun d => He.fnW (kOf s) d.at_), exB (kOf s)) = ((true, fnL.map He.DefD.val), true)
      rw [c1, b1, b2, c2]
      rfl
    exact congrArg some (Prod.ext hA3.1 (Prod.ext hA4.1 ho))
theorem fun_of {K : PySem.W.Frag} {d : He.DefD} {st : Stmt} {x q : Str} {fd : FuncData} (e1 : d.name = x) (e2 : d.qual = q) (e3 : d.params = defArgs st) (e4 : d.body = defBody st) (e5 : d.scope = defScope st) (e6 : d.dfl = []) (F : L2.FunD K d.name d.qual d.params d.body d.scope (d.dvs K) (d.kws K) (He.fAd K d.at_) fd) : Fun K x q st (He.fAd K d.at_) fd := by
  obtain ⟨oc, od, dV, kV, doc, pm, an, cdv, ct, osl, h1, h2, h3, h4, h5⟩ := F.ex
  have h6 : dV = .none := by
    rcases h4 with ⟨_, h⟩ | ⟨h, _⟩
    · exact h
    · exact absurd (by show d.dfl.map _ = []; rw [e6]; rfl) h
  subst e1 e2
  rw [e3, e4, e5, h6] at h1
  exact ⟨⟨oc, od, kV, doc, pm, an, cdv, ct, osl, h1, h2, h3⟩, F.kp⟩
set_option maxHeartbeats 0 in
theorem tx_of {K : PySem.W.Frag} {h : Heap} {mg : Str → Option Value} (X : K.In h) (G : h.Ns mainGlobals mg) (c2 : SaysK K) :
    ∃ T : TX K mg, mg "law" = some (.ref T.f_law) ∧ ∀ (s : Shared) (v : Value), BindsTo s T.fd_law ⟨[v], []⟩ [("_law_script", v)] := by
  have c : He.SaysD faL fnL K := congrArg (fun z : AlK => z.1) c2
  have cx : exB K = true := congrArg (fun z : AlK => z.2) c2
  obtain ⟨ic_Table, cx⟩ := He.ba cx
  obtain ⟨im_Table, cx⟩ := He.ba cx
  obtain ⟨ig_, cx⟩ := He.ba cx
  obtain ⟨it_, cx⟩ := He.ba cx
  obtain ⟨fd0, D0⟩ := c.def_ 0 (d := dd0) rfl
  have F0 : Fun K "_wall" "_wall" s_wall (He.fAd K dd0.at_) fd0 := fun_of rfl rfl rfl rfl rfl rfl D0
  have b0 := F0.binds (ps := ["k"]) fun _ _ _ _ _ _ us hl => match us, hl with | [_], _ => rfl
  obtain ⟨fd1, D1⟩ := c.def_ 1 (d := dd1) rfl
  have F1 : Fun K "is_integer" "is_integer" s_is_integer (He.fAd K dd1.at_) fd1 := fun_of rfl rfl rfl rfl rfl rfl D1
  have b1 := F1.binds (ps := ["value"]) fun _ _ _ _ _ _ us hl => match us, hl with | [_], _ => rfl
  obtain ⟨fd2, D2⟩ := c.def_ 2 (d := dd2) rfl
  have F2 : Fun K "is_at_least" "is_at_least" s_is_at_least (He.fAd K dd2.at_) fd2 := fun_of rfl rfl rfl rfl rfl rfl D2
  have b2 := F2.binds (ps := ["value", "low"]) fun _ _ _ _ _ _ us hl => match us, hl with | [_, _], _ => rfl
  obtain ⟨fd3, D3⟩ := c.def_ 3 (d := dd3) rfl
  have F3 : Fun K "is_between" "is_between" s_is_between (He.fAd K dd3.at_) fd3 := fun_of rfl rfl rfl rfl rfl rfl D3
  have b3 := F3.binds (ps := ["value", "low", "high"]) fun _ _ _ _ _ _ us hl => match us, hl with | [_, _, _], _ => rfl
  obtain ⟨fd4, D4⟩ := c.def_ 4 (d := dd4) rfl
  have F4 : Fun K "greatest_common_divisor" "greatest_common_divisor" s_greatest_common_divisor (He.fAd K dd4.at_) fd4 := fun_of rfl rfl rfl rfl rfl rfl D4
  have b4 := F4.binds (ps := ["first", "second"]) fun _ _ _ _ _ _ us hl => match us, hl with | [_, _], _ => rfl
  obtain ⟨fd5, D5⟩ := c.def_ 5 (d := dd5) rfl
  have F5 : Fun K "__init__" "Table.__init__" s_Table_init (He.fAd K dd5.at_) fd5 := fun_of rfl rfl rfl rfl rfl rfl D5
  have b5 := F5.binds (ps := ["self", "rings"]) fun _ _ _ _ _ _ us hl => match us, hl with | [_, _], _ => rfl
  obtain ⟨fd6, D6⟩ := c.def_ 6 (d := dd6) rfl
  have F6 : Fun K "sizes" "Table.sizes" s_Table_sizes (He.fAd K dd6.at_) fd6 := fun_of rfl rfl rfl rfl rfl rfl D6
  have b6 := F6.binds (ps := ["self"]) fun _ _ _ _ _ _ us hl => match us, hl with | [_], _ => rfl
  obtain ⟨fd7, D7⟩ := c.def_ 7 (d := dd7) rfl
  have F7 : Fun K "count" "Table.count" s_Table_count (He.fAd K dd7.at_) fd7 := fun_of rfl rfl rfl rfl rfl rfl D7
  have b7 := F7.binds (ps := ["self"]) fun _ _ _ _ _ _ us hl => match us, hl with | [_], _ => rfl
  obtain ⟨fd8, D8⟩ := c.def_ 8 (d := dd8) rfl
  have F8 : Fun K "is_seat" "Table.is_seat" s_Table_is_seat (He.fAd K dd8.at_) fd8 := fun_of rfl rfl rfl rfl rfl rfl D8
  have b8 := F8.binds (ps := ["self", "value"]) fun _ _ _ _ _ _ us hl => match us, hl with | [_, _], _ => rfl
  obtain ⟨fd9, D9⟩ := c.def_ 9 (d := dd9) rfl
  have F9 : Fun K "is_call" "Table.is_call" s_Table_is_call (He.fAd K dd9.at_) fd9 := fun_of rfl rfl rfl rfl rfl rfl D9
  have b9 := F9.binds (ps := ["self", "value"]) fun _ _ _ _ _ _ us hl => match us, hl with | [_, _], _ => rfl
  obtain ⟨fd10, D10⟩ := c.def_ 10 (d := dd10) rfl
  have F10 : Fun K "shifted" "Table.shifted" s_Table_shifted (He.fAd K dd10.at_) fd10 := fun_of rfl rfl rfl rfl rfl rfl D10
  have b10 := F10.binds (ps := ["self", "seat", "call", "factor"]) fun _ _ _ _ _ _ us hl => match us, hl with | [_, _, _, _], _ => rfl
  obtain ⟨fd11, D11⟩ := c.def_ 11 (d := dd11) rfl
  have F11 : Fun K "moves" "Table.moves" s_Table_moves (He.fAd K dd11.at_) fd11 := fun_of rfl rfl rfl rfl rfl rfl D11
  have b11 := F11.binds (ps := ["self", "seat", "call"]) fun _ _ _ _ _ _ us hl => match us, hl with | [_, _, _], _ => rfl
  obtain ⟨fd12, D12⟩ := c.def_ 12 (d := dd12) rfl
  have F12 : Fun K "step" "Table.step" s_Table_step (He.fAd K dd12.at_) fd12 := fun_of rfl rfl rfl rfl rfl rfl D12
  have b12 := F12.binds (ps := ["self", "seat", "call", "direction"]) fun _ _ _ _ _ _ us hl => match us, hl with | [_, _, _, _], _ => rfl
  obtain ⟨fd13, D13⟩ := c.def_ 13 (d := dd13) rfl
  have F13 : Fun K "order" "Table.order" s_Table_order (He.fAd K dd13.at_) fd13 := fun_of rfl rfl rfl rfl rfl rfl D13
  have b13 := F13.binds (ps := ["self", "seat"]) fun _ _ _ _ _ _ us hl => match us, hl with | [_, _], _ => rfl
  obtain ⟨fd14, D14⟩ := c.def_ 14 (d := dd14) rfl
  have F14 : Fun K "halves" "Table.halves" s_Table_halves (He.fAd K dd14.at_) fd14 := fun_of rfl rfl rfl rfl rfl rfl D14
  have b14 := F14.binds (ps := ["self", "seat"]) fun _ _ _ _ _ _ us hl => match us, hl with | [_, _], _ => rfl
  obtain ⟨fd15, D15⟩ := c.def_ 15 (d := dd15) rfl
  have F15 : Fun K "require_table" "require_table" s_require_table (He.fAd K dd15.at_) fd15 := fun_of rfl rfl rfl rfl rfl rfl D15
  have b15 := F15.binds (ps := ["table"]) fun _ _ _ _ _ _ us hl => match us, hl with | [_], _ => rfl
  obtain ⟨fd16, D16⟩ := c.def_ 16 (d := dd16) rfl
  have F16 : Fun K "require_seat" "require_seat" s_require_seat (He.fAd K dd16.at_) fd16 := fun_of rfl rfl rfl rfl rfl rfl D16
  have b16 := F16.binds (ps := ["table", "seat"]) fun _ _ _ _ _ _ us hl => match us, hl with | [_, _], _ => rfl
  obtain ⟨fd17, D17⟩ := c.def_ 17 (d := dd17) rfl
  have F17 : Fun K "require_targets" "require_targets" s_require_targets (He.fAd K dd17.at_) fd17 := fun_of rfl rfl rfl rfl rfl rfl D17
  have b17 := F17.binds (ps := ["table", "targets"]) fun _ _ _ _ _ _ us hl => match us, hl with | [_, _], _ => rfl
  obtain ⟨fd18, D18⟩ := c.def_ 18 (d := dd18) rfl
  have F18 : Fun K "require_small" "require_small" s_require_small (He.fAd K dd18.at_) fd18 := fun_of rfl rfl rfl rfl rfl rfl D18
  have b18 := F18.binds (ps := ["table"]) fun _ _ _ _ _ _ us hl => match us, hl with | [_], _ => rfl
  obtain ⟨fd19, D19⟩ := c.def_ 19 (d := dd19) rfl
  have F19 : Fun K "all_seats" "all_seats" s_all_seats (He.fAd K dd19.at_) fd19 := fun_of rfl rfl rfl rfl rfl rfl D19
  have b19 := F19.binds (ps := ["table"]) fun _ _ _ _ _ _ us hl => match us, hl with | [_], _ => rfl
  obtain ⟨fd20, D20⟩ := c.def_ 20 (d := dd20) rfl
  have F20 : Fun K "mirror_seat" "mirror_seat" s_mirror_seat (He.fAd K dd20.at_) fd20 := fun_of rfl rfl rfl rfl rfl rfl D20
  have b20 := F20.binds (ps := ["table", "seat", "other"]) fun _ _ _ _ _ _ us hl => match us, hl with | [_, _, _], _ => rfl
  obtain ⟨fd21, D21⟩ := c.def_ 21 (d := dd21) rfl
  have F21 : Fun K "call_counts" "call_counts" s_call_counts (He.fAd K dd21.at_) fd21 := fun_of rfl rfl rfl rfl rfl rfl D21
  have b21 := F21.binds (ps := ["table", "targets"]) fun _ _ _ _ _ _ us hl => match us, hl with | [_, _], _ => rfl
  obtain ⟨fd22, D22⟩ := c.def_ 22 (d := dd22) rfl
  have F22 : Fun K "check_small_table" "check_small_table" s_check_small_table (He.fAd K dd22.at_) fd22 := fun_of rfl rfl rfl rfl rfl rfl D22
  have b22 := F22.binds (ps := ["table", "targets"]) fun _ _ _ _ _ _ us hl => match us, hl with | [_, _], _ => rfl
  obtain ⟨fd23, D23⟩ := c.def_ 23 (d := dd23) rfl
  have F23 : Fun K "layers" "layers" s_layers (He.fAd K dd23.at_) fd23 := fun_of rfl rfl rfl rfl rfl rfl D23
  have b23 := F23.binds (ps := ["table", "targets"]) fun _ _ _ _ _ _ us hl => match us, hl with | [_, _], _ => rfl
  obtain ⟨fd24, D24⟩ := c.def_ 24 (d := dd24) rfl
  have F24 : Fun K "min_calls" "min_calls" s_min_calls (He.fAd K dd24.at_) fd24 := fun_of rfl rfl rfl rfl rfl rfl D24
  have b24 := F24.binds (ps := ["table", "targets", "seat"]) fun _ _ _ _ _ _ us hl => match us, hl with | [_, _, _], _ => rfl
  obtain ⟨fd25, D25⟩ := c.def_ 25 (d := dd25) rfl
  have F25 : Fun K "_law_mix" "_law_mix" s_law_mix (He.fAd K dd25.at_) fd25 := fun_of rfl rfl rfl rfl rfl rfl D25
  have b25 := F25.binds (ps := ["_law_cell", "_law_turn"]) fun _ _ _ _ _ _ us hl => match us, hl with | [_, _], _ => rfl
  obtain ⟨fd26, D26⟩ := c.def_ 26 (d := dd26) rfl
  have F26 : Fun K "_law_source" "_law_source" s_law_source (He.fAd K dd26.at_) fd26 := fun_of rfl rfl rfl rfl rfl rfl D26
  have b26 := F26.binds (ps := ["_law_cell"]) fun _ _ _ _ _ _ us hl => match us, hl with | [_], _ => rfl
  obtain ⟨fd27, D27⟩ := c.def_ 27 (d := dd27) rfl
  have F27 : Fun K "_law_draw" "_law_draw" s_law_draw (He.fAd K dd27.at_) fd27 := fun_of rfl rfl rfl rfl rfl rfl D27
  have b27 := F27.binds (ps := ["_law_source_here", "_law_limit"]) fun _ _ _ _ _ _ us hl => match us, hl with | [_, _], _ => rfl
  obtain ⟨fd28, D28⟩ := c.def_ 28 (d := dd28) rfl
  have F28 : Fun K "_law_rings" "_law_rings" s_law_rings (He.fAd K dd28.at_) fd28 := fun_of rfl rfl rfl rfl rfl rfl D28
  have b28 := F28.binds (ps := ["_law_source_here", "_law_high"]) fun _ _ _ _ _ _ us hl => match us, hl with | [_, _], _ => rfl
  obtain ⟨fd29, D29⟩ := c.def_ 29 (d := dd29) rfl
  have F29 : Fun K "_law_seats" "_law_seats" s_law_seats (He.fAd K dd29.at_) fd29 := fun_of rfl rfl rfl rfl rfl rfl D29
  have b29 := F29.binds (ps := ["_law_rings_here"]) fun _ _ _ _ _ _ us hl => match us, hl with | [_], _ => rfl
  obtain ⟨fd30, D30⟩ := c.def_ 30 (d := dd30) rfl
  have F30 : Fun K "_law_targets" "_law_targets" s_law_targets (He.fAd K dd30.at_) fd30 := fun_of rfl rfl rfl rfl rfl rfl D30
  have b30 := F30.binds (ps := ["_law_source_here", "_law_spots", "_law_many"]) fun _ _ _ _ _ _ us hl => match us, hl with | [_, _, _], _ => rfl
  obtain ⟨fd31, D31⟩ := c.def_ 31 (d := dd31) rfl
  have F31 : Fun K "_law_by_seat" "_law_by_seat" s_law_by_seat (He.fAd K dd31.at_) fd31 := fun_of rfl rfl rfl rfl rfl rfl D31
  have b31 := F31.binds (ps := ["_law_rows"]) fun _ _ _ _ _ _ us hl => match us, hl with | [_], _ => rfl
  obtain ⟨fd32, D32⟩ := c.def_ 32 (d := dd32) rfl
  have F32 : Fun K "_law_shifted_right" "_law_shifted_right" s_law_shifted_right (He.fAd K dd32.at_) fd32 := fun_of rfl rfl rfl rfl rfl rfl D32
  have b32 := F32.binds (ps := ["_law_grid", "_law_rows"]) fun _ _ _ _ _ _ us hl => match us, hl with | [_, _], _ => rfl
  obtain ⟨fd33, D33⟩ := c.def_ 33 (d := dd33) rfl
  have F33 : Fun K "_law_more_right" "_law_more_right" s_law_more_right (He.fAd K dd33.at_) fd33 := fun_of rfl rfl rfl rfl rfl rfl D33
  have b33 := F33.binds (ps := ["_law_grid", "_law_rows", "_law_goals", "_law_spot"]) fun _ _ _ _ _ _ us hl => match us, hl with | [_, _, _, _], _ => rfl
  obtain ⟨fd34, D34⟩ := c.def_ 34 (d := dd34) rfl
  have F34 : Fun K "law" "law" s_law (He.fAd K dd34.at_) fd34 := fun_of rfl rfl rfl rfl rfl rfl D34
  have b34 := F34.binds (ps := ["_law_script"]) fun _ _ _ _ _ _ us hl => match us, hl with | [_], _ => rfl
  obtain ⟨t_MAX_RINGS, e_MAX_RINGS⟩ := He.int_ok X G (c.fact 38 (f := .int "MAX_RINGS" 4) rfl)
  obtain ⟨t_SMALL, e_SMALL⟩ := He.int_ok X G (c.fact 39 (f := .int "SMALL" 300) rfl)
  refine ⟨{
    f_wall := He.fAd K dd0.at_, fd_wall := fd0, F_wall := F0, b_wall := b0, m_wall := He.glo_ok X G (c.fact 0 (f := .glo "_wall") rfl),
    f_is_integer := He.fAd K dd1.at_, fd_is_integer := fd1, F_is_integer := F1, b_is_integer := b1, m_is_integer := He.glo_ok X G (c.fact 1 (f := .glo "is_integer") rfl),
    f_is_at_least := He.fAd K dd2.at_, fd_is_at_least := fd2, F_is_at_least := F2, b_is_at_least := b2, m_is_at_least := He.glo_ok X G (c.fact 2 (f := .glo "is_at_least") rfl),
    f_is_between := He.fAd K dd3.at_, fd_is_between := fd3, F_is_between := F3, b_is_between := b3, m_is_between := He.glo_ok X G (c.fact 3 (f := .glo "is_between") rfl),
    f_greatest_common_divisor := He.fAd K dd4.at_, fd_greatest_common_divisor := fd4, F_greatest_common_divisor := F4, b_greatest_common_divisor := b4, m_greatest_common_divisor := He.glo_ok X G (c.fact 4 (f := .glo "greatest_common_divisor") rfl),
    f_Table_init := He.fAd K dd5.at_, fd_Table_init := fd5, F_Table_init := F5, b_Table_init := b5,
    f_Table_sizes := He.fAd K dd6.at_, fd_Table_sizes := fd6, F_Table_sizes := F6, b_Table_sizes := b6,
    f_Table_count := He.fAd K dd7.at_, fd_Table_count := fd7, F_Table_count := F7, b_Table_count := b7,
    f_Table_is_seat := He.fAd K dd8.at_, fd_Table_is_seat := fd8, F_Table_is_seat := F8, b_Table_is_seat := b8,
    f_Table_is_call := He.fAd K dd9.at_, fd_Table_is_call := fd9, F_Table_is_call := F9, b_Table_is_call := b9,
    f_Table_shifted := He.fAd K dd10.at_, fd_Table_shifted := fd10, F_Table_shifted := F10, b_Table_shifted := b10,
    f_Table_moves := He.fAd K dd11.at_, fd_Table_moves := fd11, F_Table_moves := F11, b_Table_moves := b11,
    f_Table_step := He.fAd K dd12.at_, fd_Table_step := fd12, F_Table_step := F12, b_Table_step := b12,
    f_Table_order := He.fAd K dd13.at_, fd_Table_order := fd13, F_Table_order := F13, b_Table_order := b13,
    f_Table_halves := He.fAd K dd14.at_, fd_Table_halves := fd14, F_Table_halves := F14, b_Table_halves := b14,
    f_require_table := He.fAd K dd15.at_, fd_require_table := fd15, F_require_table := F15, b_require_table := b15, m_require_table := He.glo_ok X G (c.fact 5 (f := .glo "require_table") rfl),
    f_require_seat := He.fAd K dd16.at_, fd_require_seat := fd16, F_require_seat := F16, b_require_seat := b16, m_require_seat := He.glo_ok X G (c.fact 6 (f := .glo "require_seat") rfl),
    f_require_targets := He.fAd K dd17.at_, fd_require_targets := fd17, F_require_targets := F17, b_require_targets := b17, m_require_targets := He.glo_ok X G (c.fact 7 (f := .glo "require_targets") rfl),
    f_require_small := He.fAd K dd18.at_, fd_require_small := fd18, F_require_small := F18, b_require_small := b18, m_require_small := He.glo_ok X G (c.fact 8 (f := .glo "require_small") rfl),
    f_all_seats := He.fAd K dd19.at_, fd_all_seats := fd19, F_all_seats := F19, b_all_seats := b19, m_all_seats := He.glo_ok X G (c.fact 9 (f := .glo "all_seats") rfl),
    f_mirror_seat := He.fAd K dd20.at_, fd_mirror_seat := fd20, F_mirror_seat := F20, b_mirror_seat := b20, m_mirror_seat := He.glo_ok X G (c.fact 10 (f := .glo "mirror_seat") rfl),
    f_call_counts := He.fAd K dd21.at_, fd_call_counts := fd21, F_call_counts := F21, b_call_counts := b21, m_call_counts := He.glo_ok X G (c.fact 11 (f := .glo "call_counts") rfl),
    f_check_small_table := He.fAd K dd22.at_, fd_check_small_table := fd22, F_check_small_table := F22, b_check_small_table := b22, m_check_small_table := He.glo_ok X G (c.fact 12 (f := .glo "check_small_table") rfl),
    f_layers := He.fAd K dd23.at_, fd_layers := fd23, F_layers := F23, b_layers := b23, m_layers := He.glo_ok X G (c.fact 13 (f := .glo "layers") rfl),
    f_min_calls := He.fAd K dd24.at_, fd_min_calls := fd24, F_min_calls := F24, b_min_calls := b24, m_min_calls := He.glo_ok X G (c.fact 14 (f := .glo "min_calls") rfl),
    f_law_mix := He.fAd K dd25.at_, fd_law_mix := fd25, F_law_mix := F25, b_law_mix := b25, m_law_mix := He.glo_ok X G (c.fact 15 (f := .glo "_law_mix") rfl),
    f_law_source := He.fAd K dd26.at_, fd_law_source := fd26, F_law_source := F26, b_law_source := b26, m_law_source := He.glo_ok X G (c.fact 16 (f := .glo "_law_source") rfl),
    f_law_draw := He.fAd K dd27.at_, fd_law_draw := fd27, F_law_draw := F27, b_law_draw := b27, m_law_draw := He.glo_ok X G (c.fact 17 (f := .glo "_law_draw") rfl),
    f_law_rings := He.fAd K dd28.at_, fd_law_rings := fd28, F_law_rings := F28, b_law_rings := b28, m_law_rings := He.glo_ok X G (c.fact 18 (f := .glo "_law_rings") rfl),
    f_law_seats := He.fAd K dd29.at_, fd_law_seats := fd29, F_law_seats := F29, b_law_seats := b29, m_law_seats := He.glo_ok X G (c.fact 19 (f := .glo "_law_seats") rfl),
    f_law_targets := He.fAd K dd30.at_, fd_law_targets := fd30, F_law_targets := F30, b_law_targets := b30, m_law_targets := He.glo_ok X G (c.fact 20 (f := .glo "_law_targets") rfl),
    f_law_by_seat := He.fAd K dd31.at_, fd_law_by_seat := fd31, F_law_by_seat := F31, b_law_by_seat := b31, m_law_by_seat := He.glo_ok X G (c.fact 21 (f := .glo "_law_by_seat") rfl),
    f_law_shifted_right := He.fAd K dd32.at_, fd_law_shifted_right := fd32, F_law_shifted_right := F32, b_law_shifted_right := b32, m_law_shifted_right := He.glo_ok X G (c.fact 22 (f := .glo "_law_shifted_right") rfl),
    f_law_more_right := He.fAd K dd33.at_, fd_law_more_right := fd33, F_law_more_right := F33, b_law_more_right := b33, m_law_more_right := He.glo_ok X G (c.fact 23 (f := .glo "_law_more_right") rfl),
    f_law := He.fAd K dd34.at_, fd_law := fd34, F_law := F34, b_law := b34, m_law := He.glo_ok X G (c.fact 24 (f := .glo "law") rfl),
    C_Table := He.ga K "Table", cl_Table := He.cls_ok (c.fact 26 (f := .cls "Table") rfl), m_Table := He.glo_ok X G (c.fact 25 (f := .glo "Table") rfl),
    M_Table := He.mkr_ok (c.fact 27 (f := .mkr "Table") rfl),
    me_Table_sizes := He.meth_ok (c.fact 28 (f := .meth "Table" "sizes") rfl),
    me_Table_count := He.meth_ok (c.fact 29 (f := .meth "Table" "count") rfl),
    me_Table_is_seat := He.meth_ok (c.fact 30 (f := .meth "Table" "is_seat") rfl),
    me_Table_is_call := He.meth_ok (c.fact 31 (f := .meth "Table" "is_call") rfl),
    me_Table_shifted := He.meth_ok (c.fact 32 (f := .meth "Table" "shifted") rfl),
    me_Table_moves := He.meth_ok (c.fact 33 (f := .meth "Table" "moves") rfl),
    me_Table_step := He.meth_ok (c.fact 34 (f := .meth "Table" "step") rfl),
    me_Table_order := He.meth_ok (c.fact 35 (f := .meth "Table" "order") rfl),
    me_Table_halves := He.meth_ok (c.fact 36 (f := .meth "Table" "halves") rfl),
    n_Table_rings := He.noat_ok (c.fact 37 (f := .noat "Table" "rings") rfl),
    ic_Table := He.eqO_ok ic_Table,
    im_Table := of_decide_eq_true im_Table,
    ig_ := He.eqO_ok ig_,
    it_ := of_decide_eq_true it_,
    t_MAX_RINGS := t_MAX_RINGS, c_MAX_RINGS := e_MAX_RINGS,
    t_SMALL := t_SMALL, c_SMALL := e_SMALL,
    z_abs := He.free_ok X G (c.fact 40 (f := .free "abs") rfl),
    z_all := He.free_ok X G (c.fact 41 (f := .free "all") rfl),
    z_any := He.free_ok X G (c.fact 42 (f := .free "any") rfl),
    z_bool := He.free_ok X G (c.fact 43 (f := .free "bool") rfl),
    z_dict := He.free_ok X G (c.fact 44 (f := .free "dict") rfl),
    z_enumerate := He.free_ok X G (c.fact 45 (f := .free "enumerate") rfl),
    z_int := He.free_ok X G (c.fact 46 (f := .free "int") rfl),
    z_isinstance := He.free_ok X G (c.fact 47 (f := .free "isinstance") rfl),
    z_len := He.free_ok X G (c.fact 48 (f := .free "len") rfl),
    z_list := He.free_ok X G (c.fact 49 (f := .free "list") rfl),
    z_max := He.free_ok X G (c.fact 50 (f := .free "max") rfl),
    z_min := He.free_ok X G (c.fact 51 (f := .free "min") rfl),
    z_range := He.free_ok X G (c.fact 52 (f := .free "range") rfl),
    z_sorted := He.free_ok X G (c.fact 53 (f := .free "sorted") rfl),
    z_tuple := He.free_ok X G (c.fact 54 (f := .free "tuple") rfl),
    z_zip := He.free_ok X G (c.fact 55 (f := .free "zip") rfl)
  }, He.glo_ok X G (c.fact 24 (f := .glo "law") rfl), fun s v => ?_⟩
  obtain ⟨oc, od, kV, doc, pm, an, cdv, ct, osl, h1, h2, h3⟩ := F34.ex
  show BindsTo s fd34 _ _
  rw [h1]
  exact .of_eq rfl
end CS
open PySem PySem.W PySem.Calls PyProof.Rows in
set_option maxRecDepth 100000 in
set_option maxHeartbeats 0 in
theorem PySem.Challenge.cw_calledseats_k26_whole_layers_as_targets_holds : PySem.Challenge.rw_calledseats_k26_whole_layers_as_targets.Holds := by
  w_on; o_law
  refine HandSHeadRun.head_any (r := OpenLaw.row PySem.Challenge.rw_calledseats_k26_whole_layers_as_targets) (q := view (OpenLaw.row PySem.Challenge.rw_calledseats_k26_whole_layers_as_targets).prog [37]) (H := CS.hk) (ob := CS.ob) (M := 30000) (loose := CS.loose) (d := HandSHeadRun.topDef (OpenLaw.row PySem.Challenge.rw_calledseats_k26_whole_layers_as_targets).prog 37) (kwd := []) CS.ob_eq
    (by kernel_rfl) (fun s => by kernel_rfl) CS.runTop (by kernel_rfl) (by kernel_rfl) (by kernel_rfl) (by rfl) (by first | assumption | decide +kernel) (by decide +kernel) ⟨rfl, rfl, rfl, rfl, rfl, by decide +kernel⟩ ?hw ?hc
  case hw => w_witness2
  case hc =>
    refine L2.walk_ofE (l := PySem.Challenge.rw_calledseats_k26_whole_layers_as_targets) (n := 63) (k := 9) (x := "_law_script") (CX := L2.CX0) rfl (by decide) (by kernel_rfl) ⟨rfl, by decide, by decide⟩ ?F (fun _ _ _ _ z => z)
    intro w mg fa h Y G hmg0
    obtain ⟨K, KX, c⟩ := Y
    have hmg : mg ("law" : PySem.Str) = some (.ref fa) := by
      have e : (HandSHeadRun.topDef (OpenLaw.row PySem.Challenge.rw_calledseats_k26_whole_layers_as_targets).prog 37).name = ("law" : PySem.Str) := by kernel_rfl
      rw [← e]
      exact hmg0
    obtain ⟨T, e1, e2⟩ := CS.tx_of KX G c
    have e := hmg.symm.trans e1
    cases e
    exact ⟨K, T.fd_law, CS.sp_law K, KX, e2, fun H a ns hl _ hS => ⟨a, ns, rfl, hS, hl, fun _ => rfl⟩, fun base _ _ => CS.ok_law T⟩
