import PyProof.Rows.All
import Wide.All
import OpenK.AllK
import Wide.FinOn
import HandS.ForMost
import HandS.Zip
import HandS.TupAny
import HandS.TupMul
import HandS.Deep
import HandS.Style
import HandS.SetFor
import HandS.Strs
import HandS.Walk
import HandS.IsInst
import HandS.Conv
import HandS.Wide
import HandS.WideBits
import HandS.Evl
import HandS.MakeKwOnly
import KE.GoesMore
import KE.GoesEnumKw
import KE.KBits
import KE.SortData
import HandS.TupSets
import HandS.DictComp
import HandS.DictTup
import HandS.TupLen
import KE.KDictCopyH
import KE.KDictWalk
import KE.KDictKeyed
import PyProof.WalkInts
import PyProof.SeqI3
import HandS.TryOnly
import KE.KStateDown
import HandS.Head0
import HandS.Head1
import HandS.Head2
import HandS.More
import HandS.Defaults
import HandS.HeadEnd
import HandS.HeadHook1
import HandS.HeadHook2
import PySem.Challenge.RW_calledseats_k64_tours_played
set_option Elab.async false
set_option linter.all false
set_option maxRecDepth 100000
set_option maxHeartbeats 4000000


namespace CZ
open PySem PySem.Spec PyProof.Rows L2
open PySem.Sem (wp)
/-- one draw of a zip: strict or not -/
def zdraw (b : Bool) (it : Value) : Sem (Option Value) := if b = true then Builtin.SmallTypes.nextOrEnd it else (Builtin.SmallTypes.nextOf it >>= fun x => pure (some x))
/-- a zip object: f0 what it has handed out, b its strictness -/
abbrev ZipO (h : Heap) (z TI TO : Addr) (f0 : Value) (b : Bool) : Prop := h.get? z = some { cls := .type "zip", data := .fields #[f0, .bool false, .bool b, .ref TI, .ref TO] }
abbrev TupO (h : Heap) (T : Addr) (vs : Array Value) : Prop := h.get? T = some { cls := .type "tuple", data := .seq vs }
theorem val_b (b : Bool) : (Value.bool b == Value.bool true) = b := by cases b <;> rfl
section
variable {prog : Program} {w : World} {A : Around} {E : Value → Shared → Prop} {s : Shared} {b : Bool}
theorem zdraw_item {it : Addr} {fp : List Addr} {n i : Nat} {P : Nat → Value → Prop} {St : Nat → Heap → Prop} {Q : Option Value → Shared → Prop} (D : Draws prog w A it fp n P St) (hi : i < n) (st : St i s.heap)
    (hQ : ∀ x h' tk, P i x → St (i + 1) h' → Heap.SameBut it s.heap h' → Q (some x) { s with heap := h', toks := tk }) : wpAny (model prog w) A (zdraw b (.ref it)) Q E s := by
  cases b with
  | false => exact wpAny_bind (m := Builtin.SmallTypes.nextOf (.ref it)) (D.item i s _ _ hi st fun x h' tk p st' sb => wpAny_pure (hQ x h' tk p st' sb))
  | true =>
    show wpAny _ _ (Builtin.SmallTypes.nextOrEnd (.ref it)) _ _ _
    unfold Builtin.SmallTypes.nextOrEnd
    exact wpAny_bind (wpAny_attempt (D.item i s _ _ hi st fun x h' tk p st' sb => wpAny_pure (hQ x h' tk p st' sb)))
theorem zend_strict {it : Addr} {fp : List Addr} {n : Nat} {P : Nat → Value → Prop} {St : Nat → Heap → Prop} {Q : Option Value → Shared → Prop} (D : Draws prog w A it fp n P St) (st : St n s.heap)
    (hQ : ∀ h', Heap.ExtBut it s.heap h' → Q none { s with heap := h' }) : wpAny (model prog w) A (Builtin.SmallTypes.nextOrEnd (.ref it)) Q E s := by
  unfold Builtin.SmallTypes.nextOrEnd
  refine wpAny_bind (wpAny_attempt (D.done s _ _ st fun h' e eb he => ?_))
  obtain ⟨o, ho, hc⟩ := he
  exact wpAny_bind (wpAny_isInstance (T := "StopIteration") (b := true) ⟨o, ho, hc⟩ isSubtype_stop (wpAny_pure (hQ h' eb)))
theorem upd_tup {T : Addr} {vs : Array Value} {x : Value} {k : Nat} {Q : Unit → Shared → Prop} (hT : TupO s.heap T vs) (hz : vs.size ≤ 8)
    (h : ∀ h', TupO h' T (vs.setIfInBounds k x) → Heap.SameBut T s.heap h' → Q () { s with heap := h' }) : wpAny (model prog w) A (updateSeq T (·.setIfInBounds k x)) Q E s := by
  have z8 : (8 : Nat) ≤ sizeLine := by decide
  refine wpAny_updateSeq hT rfl (h _ ?_ (Heap.SameBut.update ..)) (Nat.le_trans hz z8) (by rw [Array.size_setIfInBounds]; exact Nat.le_succ_of_le (Nat.le_trans hz z8))
  unfold TupO
  rw [Heap.get?_update_self _ hT rfl]
  simp [Obj.mapSeq]
theorem iter_zip {z TI TO : Addr} {f0 : Value} {Q : Value → Shared → Prop} (hz : ZipO s.heap z TI TO f0 b) (h : Q (.ref z) s) : wpAny (model prog w) A (pyIter (.ref z)) Q E s := by
  have hT : s.TypeIs (.ref z) "zip" := ⟨_, hz, rfl⟩
  exact wpAny_pyIter_slot hT F.slot_zip_iter (wpAny_call_entry F.slot_zip_iter hT F.entry_zip_iter (wpAny_pure ⟨_, rfl, "zip", _, hT, F.slot_zip_next.lookup, h⟩) (F.args_zip_iter_1 _))
/-- the tuple that was handed out is let go -/
theorem go_zip {elts : List Expr} {x1} {pos : Pos} {z TI TO T : Addr} {Q : Unit → Shared → Prop} (hz : ZipO s.heap z TI TO (rawInt T) b)
    (hQ : ∀ h', ZipO h' z TI TO .none b → Heap.SameBut z s.heap h' → Q () { s with heap := h' }) : wpAny (model prog w) A (letOwnedTupleGo (.Tuple elts x1 pos) (.ref z) (.ref T)) Q E s := by
  unfold letOwnedTupleGo
  refine wpAny_bind (wpAny_load hz ?_)
  show wpAny _ _ (ite _ _ _) Q E s
  rw [if_pos (by simp)]
  exact wpAny_bind (wpAny_rule (wpAny_setField_rec hz (by simp) fun h' hz' hs' => hQ h' hz' hs'))
/-- the StopIteration that a zip ends by -/
theorem stop_it {Q : Fin → Shared → Prop} (hh : A.handled = none) (hE : ∀ h' e, (∀ c o, s.heap.get? c = some o → h'.get? c = some o) → (∃ o, h'.get? e = some o ∧ o.cls = .type "StopIteration") → E (.ref e) { s with heap := h' }) :
    wpAny (model prog w) A (PySem.Builtin.SmallTypes.stopIteration : Sem Fin) Q E s := by
  unfold PySem.Builtin.SmallTypes.stopIteration
  show wpAny _ _ (newExc (.type "StopIteration") [] >>= _) _ _ _
  refine wpAny_bind ?_
  simp only [newExc, newTuple]
  refine wpAny_bind (wpAny_newObj_type ?_ (by size_fits))
  refine wpAny_bind (m := firstArgMember _ _) (wpAny_of_eq (a := Value.none) (by first | rfl | (simp only [firstArgMember]; rfl)) ?_)
  refine wpAny_newObj_type ?_ (by size_fits)
  simp only [raiseNew]
  refine wpAny_bind (wpAny_handled ?_)
  rw [hh]
  exact wpAny_bind (wpAny_pure (wpAny_throw (hE _ _ (fun c o e => Heap.get?_push_of_some _ (Heap.get?_push_of_some _ e)) ⟨_, Heap.get?_push_size _ rfl, rfl⟩)))
end
end CZ

namespace CZ
open PySem PySem.Spec PyProof.Rows L2
open PySem.Sem (wp)
/-- the cells of a zip over 2 iterators lie apart -/
structure Sep2 (z TI TO i1 i2 : Addr) (fp1 fp2 : List Addr) : Prop where
  zTO : z ≠ TO
  zTI : z ≠ TI
  TOTI : TO ≠ TI
  m1 : i1 ∈ fp1
  z1 : z ∉ fp1
  T1 : TO ∉ fp1
  I1 : TI ≠ i1
  s2_1 : i2 ∉ fp1
  m2 : i2 ∈ fp2
  z2 : z ∉ fp2
  T2 : TO ∉ fp2
  I2 : TI ≠ i2
  s1_2 : i1 ∉ fp2
section
variable {prog : Program} {w : World} {A : Around} {E : Value → Shared → Prop} {s : Shared} {b : Bool}
theorem next_item2 {z TI TO i1 i2 : Addr} {fp1 fp2 : List Addr} {n1 n2 i : Nat} {P1 P2 : Nat → Value → Prop} {St1 St2 : Nat → Heap → Prop} {a1 a2 : Value} {Q : Value → Shared → Prop} (S : Sep2 z TI TO i1 i2 fp1 fp2) (D1 : Draws prog w A i1 fp1 n1 P1 St1) (D2 : Draws prog w A i2 fp2 n2 P2 St2)
    (hz : ZipO s.heap z TI TO .none b) (hTI : TupO s.heap TI #[.ref i1, .ref i2]) (hTO : TupO s.heap TO #[a1, a2]) (st1 : St1 i s.heap) (st2 : St2 i s.heap) (hi1 : i < n1) (hi2 : i < n2)
    (hQ : ∀ x1 x2 h' tk, P1 i x1 → P2 i x2 → ZipO h' z TI TO (rawInt s.heap.objs.size) b → TupO h' TO #[x1, x2] → St1 (i + 1) h' → St2 (i + 1) h' → TupO h' s.heap.objs.size #[x1, x2] →
      (∀ c o, c ≠ z → c ≠ TO → c ≠ i1 → c ≠ i2 → s.heap.get? c = some o → h'.get? c = some o) → Q (.ref s.heap.objs.size) { s with heap := h', toks := tk }) :
    wpAny (model prog w) A (Builtin.«zip.__next__» ⟨[.ref z], []⟩) (fun fin s' => ∃ v, fin = .done (.ret v) ∧ Q v s') E s := by
  obtain ⟨hp, g, d, tk0, os⟩ := s
  refine wpAny_bind (m := field (.ref z) 2) (wpAny_field hz rfl (x := .bool b) rfl ?_)
  refine wpAny_bind (m := field (.ref z) 3) (wpAny_field hz rfl (x := .ref TI) rfl ?_)
  refine wpAny_bind (wpAny_seqItems hTI rfl ?_)
  show wpAny _ _ (Builtin.SmallTypes.ownedTupleIsFree (.ref z) >>= _) _ _ _
  rw [val_b]
  refine wpAny_bind ?_
  unfold Builtin.SmallTypes.ownedTupleIsFree
  refine wpAny_bind (wpAny_field hz rfl (x := .none) rfl (wpAny_pure ?_))
  simp only [if_true]
  refine wpAny_bind (wpAny_rule (wpAny_bind (wpAny_field hz rfl (x := .ref TO) rfl ?_)))
  refine wpAny_bind (wpAny_setField_rec hz (by simp) fun g0 hz0 hs0 => wpAny_bind ?_)
  replace hs0 : Heap.SameBut z hp g0 := hs0
  replace hz0 : ZipO g0 z TI TO .ellipsis b := hz0
  have hT0 : TupO g0 TO #[a1, a2] := hs0.extBut _ _ S.zTO.symm hTO
  have t1_0 : St1 i g0 := D1.frame _ _ _ st1 fun c hc o e => hs0.extBut c o (fun q => S.z1 (q ▸ hc)) e
  have t2_0 : St2 i g0 := D2.frame _ _ _ st2 fun c hc o e => hs0.extBut c o (fun q => S.z2 (q ▸ hc)) e
  have k0 : ∀ c o, c ≠ z → c ≠ TO → c ≠ i1 → c ≠ i2 → hp.get? c = some o → g0.get? c = some o := fun c o q0 _ _ _ e => hs0.extBut c o q0 e
  simp only [List.zipIdx_cons, List.zipIdx_nil, List.forIn_cons, List.forIn_nil]
  refine wpAny_bind (wpAny_bind (wpAny_onRaise (m := zdraw b (.ref i1)) (zdraw_item (s := ⟨g0, g, d, tk0, os⟩) D1 hi1 t1_0 fun x1 d1 tk1 p1 n1 hd1 => ?_)))
  replace hd1 : Heap.SameBut i1 g0 d1 := hd1
  have hU1 : TupO d1 TO #[a1, a2] := hd1.extBut _ _ (fun q => S.T1 (q ▸ S.m1)) hT0
  refine wpAny_bind (wpAny_seqItems (s := ⟨d1, g, d, tk1, os⟩) hU1 rfl ?_)
  refine wpAny_bind (upd_tup (s := ⟨d1, g, d, tk1, os⟩) hU1 (by simp) fun g1 hT1 hs1 => ?_)
  replace hs1 : Heap.SameBut TO d1 g1 := hs1
  replace hT1 : TupO g1 TO #[x1, a2] := hT1
  have hz1 : ZipO g1 z TI TO .ellipsis b := hs1.extBut _ _ S.zTO (hd1.extBut _ _ (fun q => S.z1 (q ▸ S.m1)) hz0)
  have t1_1 : St1 (i + 1) g1 := D1.frame _ _ _ n1 fun c hc o e => hs1.extBut c o (fun q => S.T1 (q ▸ hc)) e
  have t2_1 : St2 i g1 := D2.frame _ _ _ t2_0 fun c hc o e => hs1.extBut c o (fun q => S.T2 (q ▸ hc)) (hd1.extBut c o (fun q => S.s1_2 (q ▸ hc)) e)
  have k1 : ∀ c o, c ≠ z → c ≠ TO → c ≠ i1 → c ≠ i2 → hp.get? c = some o → g1.get? c = some o := fun c o qz qT q1 q2 e => hs1.extBut c o qT (hd1.extBut c o q1 (k0 c o qz qT q1 q2 e))
  have e1 : g1.objs.size = g0.objs.size := by rw [hs1.1, hd1.1]
  refine wpAny_bind (wpAny_letGo (wpAny_pure ?_))
  refine wpAny_bind (wpAny_bind (wpAny_onRaise (m := zdraw b (.ref i2)) (zdraw_item (s := ⟨g1, g, d, tk1, os⟩) D2 hi2 t2_1 fun x2 d2 tk2 p2 n2 hd2 => ?_)))
  replace hd2 : Heap.SameBut i2 g1 d2 := hd2
  have hU2 : TupO d2 TO #[x1, a2] := hd2.extBut _ _ (fun q => S.T2 (q ▸ S.m2)) hT1
  refine wpAny_bind (wpAny_seqItems (s := ⟨d2, g, d, tk2, os⟩) hU2 rfl ?_)
  refine wpAny_bind (upd_tup (s := ⟨d2, g, d, tk2, os⟩) hU2 (by simp) fun g2 hT2 hs2 => ?_)
  replace hs2 : Heap.SameBut TO d2 g2 := hs2
  replace hT2 : TupO g2 TO #[x1, x2] := hT2
  have hz2 : ZipO g2 z TI TO .ellipsis b := hs2.extBut _ _ S.zTO (hd2.extBut _ _ (fun q => S.z2 (q ▸ S.m2)) hz1)
  have t1_2 : St1 (i + 1) g2 := D1.frame _ _ _ t1_1 fun c hc o e => hs2.extBut c o (fun q => S.T1 (q ▸ hc)) (hd2.extBut c o (fun q => S.s2_1 (q ▸ hc)) e)
  have t2_2 : St2 (i + 1) g2 := D2.frame _ _ _ n2 fun c hc o e => hs2.extBut c o (fun q => S.T2 (q ▸ hc)) e
  have k2 : ∀ c o, c ≠ z → c ≠ TO → c ≠ i1 → c ≠ i2 → hp.get? c = some o → g2.get? c = some o := fun c o qz qT q1 q2 e => hs2.extBut c o qT (hd2.extBut c o q2 (k1 c o qz qT q1 q2 e))
  have e2 : g2.objs.size = g1.objs.size := by rw [hs2.1, hd2.1]
  refine wpAny_bind (wpAny_letGo (wpAny_pure ?_))
  refine wpAny_pure ?_
  refine wpAny_bind (wpAny_seqItems (s := ⟨g2, g, d, tk2, os⟩) hT2 rfl ?_)
  refine wpAny_bind (wpAny_newTuple ?_)
  have hsz : g2.objs.size = hp.objs.size := by rw [e2, e1, hs0.1]
  have hlt : z < g2.objs.size := Heap.lt_size hz2
  refine wpAny_bind ?_
  unfold Builtin.SmallTypes.ownedTupleHandOut
  have hy : ZipO (g2.push { cls := .type "tuple", data := .seq #[x1, x2] }) z TI TO .ellipsis b := Heap.get?_push_of_some _ hz2
  refine wpAny_bind (wpAny_setField_rec hy (by simp) fun u1 hu1 hv1 => wpAny_setField_rec hu1 (by simp) fun u2 hu2 hv2 => ?_)
  have up : ∀ c o, c ≠ z → g2.get? c = some o → u2.get? c = some o := fun c o q e => hv2.extBut c o q (hv1.extBut c o q (Heap.get?_push_of_some _ e))
  have hN : TupO u2 g2.objs.size #[x1, x2] := hv2.extBut _ _ (Nat.ne_of_gt hlt) (hv1.extBut _ _ (Nat.ne_of_gt hlt) (Heap.get?_push_size _ rfl))
  have hZ : ZipO u2 z TI TO (rawInt g2.objs.size) b := hu2
  rw [hsz] at hN hZ
  refine wpAny_pure ⟨_, rfl, ?_⟩
  show Q (.ref g2.objs.size) ⟨u2, g, d, tk2, os⟩
  rw [hsz]
  exact hQ x1 x2 u2 tk2 p1 p2 hZ (up _ _ S.zTO.symm hT2) (D1.frame _ _ _ t1_2 fun c hc o e => up c o (fun q => S.z1 (q ▸ hc)) e) (D2.frame _ _ _ t2_2 fun c hc o e => up c o (fun q => S.z2 (q ▸ hc)) e) hN fun c o qz qT q1 q2 e => up c o qz (k2 c o qz qT q1 q2 e)
theorem next_end2 {z TI TO i1 i2 : Addr} {fp1 fp2 : List Addr} {n : Nat} {P1 P2 : Nat → Value → Prop} {St1 St2 : Nat → Heap → Prop} {a1 a2 : Value} {Q : Fin → Shared → Prop} (hh : A.handled = none) (S : Sep2 z TI TO i1 i2 fp1 fp2) (D1 : Draws prog w A i1 fp1 n P1 St1) (D2 : Draws prog w A i2 fp2 n P2 St2)
    (hz : ZipO s.heap z TI TO .none b) (hTI : TupO s.heap TI #[.ref i1, .ref i2]) (hTO : TupO s.heap TO #[a1, a2]) (st1 : St1 n s.heap) (st2 : St2 n s.heap)
    (hE : ∀ h' e, (∀ c o, c ≠ z → c ≠ TO → c ≠ i1 → c ≠ i2 → s.heap.get? c = some o → h'.get? c = some o) → (∃ o, h'.get? e = some o ∧ o.cls = .type "StopIteration") → E (.ref e) { s with heap := h' }) :
    wpAny (model prog w) A (Builtin.«zip.__next__» ⟨[.ref z], []⟩) Q E s := by
  obtain ⟨hp, g, d, tk0, os⟩ := s
  refine wpAny_bind (m := field (.ref z) 2) (wpAny_field hz rfl (x := .bool b) rfl ?_)
  refine wpAny_bind (m := field (.ref z) 3) (wpAny_field hz rfl (x := .ref TI) rfl ?_)
  refine wpAny_bind (wpAny_seqItems hTI rfl ?_)
  show wpAny _ _ (Builtin.SmallTypes.ownedTupleIsFree (.ref z) >>= _) _ _ _
  rw [val_b]
  refine wpAny_bind ?_
  unfold Builtin.SmallTypes.ownedTupleIsFree
  refine wpAny_bind (wpAny_field hz rfl (x := .none) rfl (wpAny_pure ?_))
  simp only [if_true]
  refine wpAny_bind (wpAny_rule (wpAny_bind (wpAny_field hz rfl (x := .ref TO) rfl ?_)))
  refine wpAny_bind (wpAny_setField_rec hz (by simp) fun g0 hz0 hs0 => wpAny_bind ?_)
  replace hs0 : Heap.SameBut z hp g0 := hs0
  replace hz0 : ZipO g0 z TI TO .ellipsis b := hz0
  have t1_0 : St1 n g0 := D1.frame _ _ _ st1 fun c hc o e => hs0.extBut c o (fun q => S.z1 (q ▸ hc)) e
  have t2_0 : St2 n g0 := D2.frame _ _ _ st2 fun c hc o e => hs0.extBut c o (fun q => S.z2 (q ▸ hc)) e
  simp only [List.zipIdx_cons, List.zipIdx_nil, List.forIn_cons, List.forIn_nil]
  refine wpAny_bind (wpAny_bind (wpAny_onRaise ?_))
  cases b with
  | false =>
    refine wpAny_bind (m := Builtin.SmallTypes.nextOf (.ref i1)) (D1.done ⟨g0, g, d, tk0, os⟩ _ _ t1_0 fun y e hy he => ?_)
    replace hy : Heap.ExtBut i1 g0 y := hy
    obtain ⟨oe, hoe, hce⟩ := he
    replace hoe : y.get? e = some oe := hoe
    have hzy : ZipO y z TI TO .ellipsis false := hy _ _ (fun q => S.z1 (q ▸ S.m1)) hz0
    have hez : e ≠ z := fun x => by subst x; rw [hzy] at hoe; cases hoe; simp at hce
    refine wpAny_setField_rec (s := ⟨y, g, d, tk0, os⟩) hzy (by simp) fun y2 _ hv => ?_
    replace hv : Heap.SameBut z y y2 := hv
    exact hE y2 e (fun c o qz qT q1 q2 x => hv.extBut c o qz (hy c o q1 (hs0.extBut c o qz x))) ⟨oe, hv.extBut _ _ hez hoe, hce⟩
  | true =>
    refine zend_strict (s := ⟨g0, g, d, tk0, os⟩) D1 t1_0 fun y hy => ?_
    replace hy : Heap.ExtBut i1 g0 y := hy
    have hzy : ZipO y z TI TO .ellipsis true := hy _ _ (fun q => S.z1 (q ▸ S.m1)) hz0
    have t2_1 : St2 n y := D2.frame _ _ _ t2_0 fun c hc o e => hy c o (fun q => S.s1_2 (q ▸ hc)) e
    refine wpAny_bind (wpAny_setField_rec (s := ⟨y, g, d, tk0, os⟩) hzy (by simp) fun y1 _ hv1 => ?_)
    replace hv1 : Heap.SameBut z y y1 := hv1
    have r2_1 : St2 n y1 := D2.frame _ _ _ t2_1 fun c hc o e => hv1.extBut c o (fun q => S.z2 (q ▸ hc)) e
    have k1 : ∀ c o, c ≠ z → c ≠ TO → c ≠ i1 → c ≠ i2 → hp.get? c = some o → y1.get? c = some o := fun c o qz qT q1 q2 e => hv1.extBut c o qz (hy c o q1 (hs0.extBut c o qz e))
    refine wpAny_bind ?_
    refine wpAny_bind ?_
    simp only [List.drop_succ_cons, List.drop_zero, List.zipIdx_cons, List.zipIdx_nil, List.forIn_cons, List.forIn_nil]
    refine wpAny_bind (wpAny_bind (zend_strict (s := ⟨y1, g, d, tk0, os⟩) D2 r2_1 fun y2 hy2 => ?_))
    replace hy2 : Heap.ExtBut i2 y1 y2 := hy2
    have k2 : ∀ c o, c ≠ z → c ≠ TO → c ≠ i1 → c ≠ i2 → hp.get? c = some o → y2.get? c = some o := fun c o qz qT q1 q2 e => hy2 c o q2 (k1 c o qz qT q1 q2 e)
    refine wpAny_pure ?_
    refine wpAny_pure ?_
    exact wpAny_bind (wpAny_rule (stop_it (s := ⟨y2, g, d, tk0, os⟩) hh fun h2 e kk he => hE h2 e (fun c o qz qT q1 q2 x => kk c o (k2 c o qz qT q1 q2 x)) he))
theorem py_item2 {z TI TO i1 i2 : Addr} {fp1 fp2 : List Addr} {n1 n2 i : Nat} {P1 P2 : Nat → Value → Prop} {St1 St2 : Nat → Heap → Prop} {a1 a2 : Value} {Q : Option Value → Shared → Prop} (S : Sep2 z TI TO i1 i2 fp1 fp2) (D1 : Draws prog w A.in1 i1 fp1 n1 P1 St1) (D2 : Draws prog w A.in1 i2 fp2 n2 P2 St2)
    (hz : ZipO s.heap z TI TO .none b) (hTI : TupO s.heap TI #[.ref i1, .ref i2]) (hTO : TupO s.heap TO #[a1, a2]) (st1 : St1 i s.heap) (st2 : St2 i s.heap) (hi1 : i < n1) (hi2 : i < n2)
    (hQ : ∀ x1 x2 h' tk, P1 i x1 → P2 i x2 → ZipO h' z TI TO (rawInt s.heap.objs.size) b → TupO h' TO #[x1, x2] → St1 (i + 1) h' → St2 (i + 1) h' → TupO h' s.heap.objs.size #[x1, x2] →
      (∀ c o, c ≠ z → c ≠ TO → c ≠ i1 → c ≠ i2 → s.heap.get? c = some o → h'.get? c = some o) → Q (some (.ref s.heap.objs.size)) { s with heap := h', toks := tk }) : wpAny (model prog w) A (pyNext (.ref z)) Q E s := by
  have hT : s.TypeIs (.ref z) "zip" := ⟨_, hz, rfl⟩
  unfold pyNext
  refine wpAny_bind (wpAny_attempt (wpAny_callSpecial?_slot (name := Str.ofString "__next__") hT F.slot_zip_next (wpAny_call_entry F.slot_zip_next hT F.entry_zip_next ?_ (F.args_zip_next_1 _))))
  exact next_item2 S D1 D2 hz hTI hTO st1 st2 hi1 hi2 fun x1 x2 h2 tk p1 p2 q1 q2 u1 u2 q3 q4 => wpAny_pure (hQ x1 x2 h2 tk p1 p2 q1 q2 u1 u2 q3 q4)
theorem py_end2 {z TI TO i1 i2 : Addr} {fp1 fp2 : List Addr} {n : Nat} {P1 P2 : Nat → Value → Prop} {St1 St2 : Nat → Heap → Prop} {a1 a2 : Value} {Q : Option Value → Shared → Prop} (hh : A.handled = none) (S : Sep2 z TI TO i1 i2 fp1 fp2) (D1 : Draws prog w A.in1 i1 fp1 n P1 St1) (D2 : Draws prog w A.in1 i2 fp2 n P2 St2)
    (hz : ZipO s.heap z TI TO .none b) (hTI : TupO s.heap TI #[.ref i1, .ref i2]) (hTO : TupO s.heap TO #[a1, a2]) (st1 : St1 n s.heap) (st2 : St2 n s.heap)
    (hQ : ∀ h', (∀ c o, c ≠ z → c ≠ TO → c ≠ i1 → c ≠ i2 → s.heap.get? c = some o → h'.get? c = some o) → Q none { s with heap := h' }) : wpAny (model prog w) A (pyNext (.ref z)) Q E s := by
  have hT : s.TypeIs (.ref z) "zip" := ⟨_, hz, rfl⟩
  unfold pyNext
  refine wpAny_bind (wpAny_attempt (wpAny_callSpecial?_slot (name := Str.ofString "__next__") hT F.slot_zip_next (wpAny_call_entry F.slot_zip_next hT F.entry_zip_next ?_ (F.args_zip_next_1 _))))
  refine next_end2 (A := A.in1) hh S D1 D2 hz hTI hTO st1 st2 fun h2 e kk he => ?_
  obtain ⟨o, ho, hc⟩ := he
  exact wpAny_bind (wpAny_isInstance (T := "StopIteration") (b := true) ⟨o, ho, hc⟩ isSubtype_stop (wpAny_pure (hQ _ kk)))
theorem typeCall_strict2 (v1 v2 x : Value) : checkTypeCall "zip" ⟨[v1, v2], [(Str.ofString "strict", x)]⟩ = pure () := by kernel_rfl
theorem newCall_strict2 (v1 v2 x : Value) : checkBuiltinCall "zip.__new__" ⟨[.type "zip", v1, v2], [(Str.ofString "strict", x)]⟩ = pure () := by kernel_rfl
theorem initArgs_strict2 (obj v1 v2 x : Value) : argsOk "object.__init__" ⟨[obj, v1, v2], [(Str.ofString "strict", x)]⟩ := by unfold argsOk; kernel_rfl
abbrev sT2 (h : Heap) (o1 o2 : Obj) : Heap := (((h.push o1).push o2).push { cls := .type "tuple", data := .seq #[.ref h.objs.size, .ref (h.push o1).objs.size] })
abbrev sO2 (h : Heap) (o1 o2 : Obj) : Heap := (sT2 h o1 o2).push { cls := .type "tuple", data := .seq #[.none, .none] }
abbrev sZ2 (h : Heap) (o1 o2 : Obj) : Heap := (sO2 h o1 o2).push { cls := .type "zip", data := .fields #[.none, .bool false, .bool true, .ref ((h.push o1).push o2).objs.size, .ref (sT2 h o1 o2).objs.size] }
theorem meets_strict2 {v1 v2 : Value} {o1 o2 : Obj} {G1 G2 : Heap → Prop} (B1 : Begins v1 o1 G1) (B2 : Begins v2 o2 G2) :
    Meets (Builtin.«zip.__new__» ⟨[.type "zip", v1, v2], [(Str.ofString "strict", .bool true)]⟩) (fun _ R s => (G1 s.heap ∧ G2 s.heap) ∧ R (.ok (.ret (.ref (sO2 s.heap o1 o2).objs.size))) { s with heap := (sZ2 s.heap o1 o2) }) :=
  .of_wp fun prog w A R s h => by
    obtain ⟨hp, g, d, tk, os⟩ := s
    obtain ⟨⟨h1, h2⟩, h⟩ := h
    have hsub := sub_zip
    have e1 : (Str.ofString "strict" != ("strict" : Str)) = false := by decide +kernel
    have w1 : ∀ {A' : Around} {E : Value → Shared → Prop} {Q : Value → Shared → Prop}, Q (.ref hp.objs.size) ⟨(hp.push o1), g, d, tk, os⟩ → wpAny (model prog w) A' (pyIter v1) Q E ⟨hp, g, d, tk, os⟩ := fun q => B1.iter prog w _ _ ⟨hp, g, d, tk, os⟩ _ (B1.keeps _ _ h1 fun c u e => e) q
    have w2 : ∀ {A' : Around} {E : Value → Shared → Prop} {Q : Value → Shared → Prop}, Q (.ref (hp.push o1).objs.size) ⟨((hp.push o1).push o2), g, d, tk, os⟩ → wpAny (model prog w) A' (pyIter v2) Q E ⟨(hp.push o1), g, d, tk, os⟩ := fun q => B2.iter prog w _ _ ⟨(hp.push o1), g, d, tk, os⟩ _ (B2.keeps _ _ h2 fun c u e => (Heap.get?_push_of_some _ e)) q
    wp_walk using w1, w2
    exact ⟨_, rfl, h⟩
/-- zip(.., strict=True) of 2: its new cells -/
theorem begins_strict2 {v1 v2 : Value} {o1 o2 : Obj} {G1 G2 : Heap → Prop} {Q : Value → Shared → Prop} (B1 : Begins v1 o1 G1) (B2 : Begins v2 o2 G2) (h1 : G1 s.heap) (h2 : G2 s.heap)
    (h : ∀ h', ZipO h' (s.heap.objs.size + 4) (s.heap.objs.size + 2) (s.heap.objs.size + 3) .none true → TupO h' (s.heap.objs.size + 2) #[.ref s.heap.objs.size, .ref (s.heap.objs.size + 1)] → TupO h' (s.heap.objs.size + 3) #[.none, .none] → h'.get? s.heap.objs.size = some o1 → h'.get? (s.heap.objs.size + 1) = some o2 → (∀ c o, s.heap.get? c = some o → h'.get? c = some o) → Q (.ref (s.heap.objs.size + 4)) { s with heap := h' }) :
    wpAny (model prog w) A (call (.type "zip") [v1, v2] [(Str.ofString "strict", .bool true)]) Q E s := by
  refine callType_newKw F.called_zip (by decide) (typeCall_strict2 _ _ _) (newCall_strict2 _ _ _) (fun obj => initArgs_strict2 obj _ _ _) F.entry_zip_new (meets_strict2 B1 B2) ⟨⟨h1, h2⟩, ?_⟩
  have z1 : (s.heap.push o1).objs.size = s.heap.objs.size + 1 := by rw [Heap.size_push]
  have z2 : ((s.heap.push o1).push o2).objs.size = s.heap.objs.size + 2 := by rw [Heap.size_push, z1]
  have z3 : (sT2 s.heap o1 o2).objs.size = s.heap.objs.size + 3 := by rw [Heap.size_push, z2]
  have z4 : (sO2 s.heap o1 o2).objs.size = s.heap.objs.size + 4 := by rw [Heap.size_push, z3]
  have z5 : (sZ2 s.heap o1 o2).objs.size = s.heap.objs.size + 5 := by rw [Heap.size_push, z4]
  have q0 : (sZ2 s.heap o1 o2).get? s.heap.objs.size = some o1 := (Heap.get?_push_of_some _ (Heap.get?_push_of_some _ (Heap.get?_push_of_some _ (Heap.get?_push_of_some _ (Heap.get?_push_size _ B1.free)))))
  have q1 : (sZ2 s.heap o1 o2).get? (s.heap.push o1).objs.size = some o2 := (Heap.get?_push_of_some _ (Heap.get?_push_of_some _ (Heap.get?_push_of_some _ (Heap.get?_push_size _ B2.free))))
  rw [z1] at q1
  have q2 : (sZ2 s.heap o1 o2).get? ((s.heap.push o1).push o2).objs.size = some ({ cls := .type "tuple", data := .seq #[.ref s.heap.objs.size, .ref (s.heap.push o1).objs.size] } : Obj) := (Heap.get?_push_of_some _ (Heap.get?_push_of_some _ (Heap.get?_push_size _ rfl)))
  rw [z2] at q2
  have q3 : (sZ2 s.heap o1 o2).get? (sT2 s.heap o1 o2).objs.size = some ({ cls := .type "tuple", data := .seq #[.none, .none] } : Obj) := (Heap.get?_push_of_some _ (Heap.get?_push_size _ rfl))
  rw [z3] at q3
  have q4 : (sZ2 s.heap o1 o2).get? (sO2 s.heap o1 o2).objs.size = some ({ cls := .type "zip", data := .fields #[.none, .bool false, .bool true, .ref ((s.heap.push o1).push o2).objs.size, .ref (sT2 s.heap o1 o2).objs.size] } : Obj) := (Heap.get?_push_size _ rfl)
  rw [z4] at q4
  rw [z1] at q2
  rw [z3, z2] at q4
  show _ ∧ _
  rw [z4]
  exact ⟨⟨_, q4, rfl⟩, h _ q4 q2 q3 q0 q1 fun c o e => (Heap.get?_push_of_some _ (Heap.get?_push_of_some _ (Heap.get?_push_of_some _ (Heap.get?_push_of_some _ (Heap.get?_push_of_some _ e)))))⟩
end
/-- the cells of a zip over 3 iterators lie apart -/
structure Sep3 (z TI TO i1 i2 i3 : Addr) (fp1 fp2 fp3 : List Addr) : Prop where
  zTO : z ≠ TO
  zTI : z ≠ TI
  TOTI : TO ≠ TI
  m1 : i1 ∈ fp1
  z1 : z ∉ fp1
  T1 : TO ∉ fp1
  I1 : TI ≠ i1
  s2_1 : i2 ∉ fp1
  s3_1 : i3 ∉ fp1
  m2 : i2 ∈ fp2
  z2 : z ∉ fp2
  T2 : TO ∉ fp2
  I2 : TI ≠ i2
  s1_2 : i1 ∉ fp2
  s3_2 : i3 ∉ fp2
  m3 : i3 ∈ fp3
  z3 : z ∉ fp3
  T3 : TO ∉ fp3
  I3 : TI ≠ i3
  s1_3 : i1 ∉ fp3
  s2_3 : i2 ∉ fp3
section
variable {prog : Program} {w : World} {A : Around} {E : Value → Shared → Prop} {s : Shared} {b : Bool}
theorem next_item3 {z TI TO i1 i2 i3 : Addr} {fp1 fp2 fp3 : List Addr} {n1 n2 n3 i : Nat} {P1 P2 P3 : Nat → Value → Prop} {St1 St2 St3 : Nat → Heap → Prop} {a1 a2 a3 : Value} {Q : Value → Shared → Prop} (S : Sep3 z TI TO i1 i2 i3 fp1 fp2 fp3) (D1 : Draws prog w A i1 fp1 n1 P1 St1) (D2 : Draws prog w A i2 fp2 n2 P2 St2) (D3 : Draws prog w A i3 fp3 n3 P3 St3)
    (hz : ZipO s.heap z TI TO .none b) (hTI : TupO s.heap TI #[.ref i1, .ref i2, .ref i3]) (hTO : TupO s.heap TO #[a1, a2, a3]) (st1 : St1 i s.heap) (st2 : St2 i s.heap) (st3 : St3 i s.heap) (hi1 : i < n1) (hi2 : i < n2) (hi3 : i < n3)
    (hQ : ∀ x1 x2 x3 h' tk, P1 i x1 → P2 i x2 → P3 i x3 → ZipO h' z TI TO (rawInt s.heap.objs.size) b → TupO h' TO #[x1, x2, x3] → St1 (i + 1) h' → St2 (i + 1) h' → St3 (i + 1) h' → TupO h' s.heap.objs.size #[x1, x2, x3] →
      (∀ c o, c ≠ z → c ≠ TO → c ≠ i1 → c ≠ i2 → c ≠ i3 → s.heap.get? c = some o → h'.get? c = some o) → Q (.ref s.heap.objs.size) { s with heap := h', toks := tk }) :
    wpAny (model prog w) A (Builtin.«zip.__next__» ⟨[.ref z], []⟩) (fun fin s' => ∃ v, fin = .done (.ret v) ∧ Q v s') E s := by
  obtain ⟨hp, g, d, tk0, os⟩ := s
  refine wpAny_bind (m := field (.ref z) 2) (wpAny_field hz rfl (x := .bool b) rfl ?_)
  refine wpAny_bind (m := field (.ref z) 3) (wpAny_field hz rfl (x := .ref TI) rfl ?_)
  refine wpAny_bind (wpAny_seqItems hTI rfl ?_)
  show wpAny _ _ (Builtin.SmallTypes.ownedTupleIsFree (.ref z) >>= _) _ _ _
  rw [val_b]
  refine wpAny_bind ?_
  unfold Builtin.SmallTypes.ownedTupleIsFree
  refine wpAny_bind (wpAny_field hz rfl (x := .none) rfl (wpAny_pure ?_))
  simp only [if_true]
  refine wpAny_bind (wpAny_rule (wpAny_bind (wpAny_field hz rfl (x := .ref TO) rfl ?_)))
  refine wpAny_bind (wpAny_setField_rec hz (by simp) fun g0 hz0 hs0 => wpAny_bind ?_)
  replace hs0 : Heap.SameBut z hp g0 := hs0
  replace hz0 : ZipO g0 z TI TO .ellipsis b := hz0
  have hT0 : TupO g0 TO #[a1, a2, a3] := hs0.extBut _ _ S.zTO.symm hTO
  have t1_0 : St1 i g0 := D1.frame _ _ _ st1 fun c hc o e => hs0.extBut c o (fun q => S.z1 (q ▸ hc)) e
  have t2_0 : St2 i g0 := D2.frame _ _ _ st2 fun c hc o e => hs0.extBut c o (fun q => S.z2 (q ▸ hc)) e
  have t3_0 : St3 i g0 := D3.frame _ _ _ st3 fun c hc o e => hs0.extBut c o (fun q => S.z3 (q ▸ hc)) e
  have k0 : ∀ c o, c ≠ z → c ≠ TO → c ≠ i1 → c ≠ i2 → c ≠ i3 → hp.get? c = some o → g0.get? c = some o := fun c o q0 _ _ _ _ e => hs0.extBut c o q0 e
  simp only [List.zipIdx_cons, List.zipIdx_nil, List.forIn_cons, List.forIn_nil]
  refine wpAny_bind (wpAny_bind (wpAny_onRaise (m := zdraw b (.ref i1)) (zdraw_item (s := ⟨g0, g, d, tk0, os⟩) D1 hi1 t1_0 fun x1 d1 tk1 p1 n1 hd1 => ?_)))
  replace hd1 : Heap.SameBut i1 g0 d1 := hd1
  have hU1 : TupO d1 TO #[a1, a2, a3] := hd1.extBut _ _ (fun q => S.T1 (q ▸ S.m1)) hT0
  refine wpAny_bind (wpAny_seqItems (s := ⟨d1, g, d, tk1, os⟩) hU1 rfl ?_)
  refine wpAny_bind (upd_tup (s := ⟨d1, g, d, tk1, os⟩) hU1 (by simp) fun g1 hT1 hs1 => ?_)
  replace hs1 : Heap.SameBut TO d1 g1 := hs1
  replace hT1 : TupO g1 TO #[x1, a2, a3] := hT1
  have hz1 : ZipO g1 z TI TO .ellipsis b := hs1.extBut _ _ S.zTO (hd1.extBut _ _ (fun q => S.z1 (q ▸ S.m1)) hz0)
  have t1_1 : St1 (i + 1) g1 := D1.frame _ _ _ n1 fun c hc o e => hs1.extBut c o (fun q => S.T1 (q ▸ hc)) e
  have t2_1 : St2 i g1 := D2.frame _ _ _ t2_0 fun c hc o e => hs1.extBut c o (fun q => S.T2 (q ▸ hc)) (hd1.extBut c o (fun q => S.s1_2 (q ▸ hc)) e)
  have t3_1 : St3 i g1 := D3.frame _ _ _ t3_0 fun c hc o e => hs1.extBut c o (fun q => S.T3 (q ▸ hc)) (hd1.extBut c o (fun q => S.s1_3 (q ▸ hc)) e)
  have k1 : ∀ c o, c ≠ z → c ≠ TO → c ≠ i1 → c ≠ i2 → c ≠ i3 → hp.get? c = some o → g1.get? c = some o := fun c o qz qT q1 q2 q3 e => hs1.extBut c o qT (hd1.extBut c o q1 (k0 c o qz qT q1 q2 q3 e))
  have e1 : g1.objs.size = g0.objs.size := by rw [hs1.1, hd1.1]
  refine wpAny_bind (wpAny_letGo (wpAny_pure ?_))
  refine wpAny_bind (wpAny_bind (wpAny_onRaise (m := zdraw b (.ref i2)) (zdraw_item (s := ⟨g1, g, d, tk1, os⟩) D2 hi2 t2_1 fun x2 d2 tk2 p2 n2 hd2 => ?_)))
  replace hd2 : Heap.SameBut i2 g1 d2 := hd2
  have hU2 : TupO d2 TO #[x1, a2, a3] := hd2.extBut _ _ (fun q => S.T2 (q ▸ S.m2)) hT1
  refine wpAny_bind (wpAny_seqItems (s := ⟨d2, g, d, tk2, os⟩) hU2 rfl ?_)
  refine wpAny_bind (upd_tup (s := ⟨d2, g, d, tk2, os⟩) hU2 (by simp) fun g2 hT2 hs2 => ?_)
  replace hs2 : Heap.SameBut TO d2 g2 := hs2
  replace hT2 : TupO g2 TO #[x1, x2, a3] := hT2
  have hz2 : ZipO g2 z TI TO .ellipsis b := hs2.extBut _ _ S.zTO (hd2.extBut _ _ (fun q => S.z2 (q ▸ S.m2)) hz1)
  have t1_2 : St1 (i + 1) g2 := D1.frame _ _ _ t1_1 fun c hc o e => hs2.extBut c o (fun q => S.T1 (q ▸ hc)) (hd2.extBut c o (fun q => S.s2_1 (q ▸ hc)) e)
  have t2_2 : St2 (i + 1) g2 := D2.frame _ _ _ n2 fun c hc o e => hs2.extBut c o (fun q => S.T2 (q ▸ hc)) e
  have t3_2 : St3 i g2 := D3.frame _ _ _ t3_1 fun c hc o e => hs2.extBut c o (fun q => S.T3 (q ▸ hc)) (hd2.extBut c o (fun q => S.s2_3 (q ▸ hc)) e)
  have k2 : ∀ c o, c ≠ z → c ≠ TO → c ≠ i1 → c ≠ i2 → c ≠ i3 → hp.get? c = some o → g2.get? c = some o := fun c o qz qT q1 q2 q3 e => hs2.extBut c o qT (hd2.extBut c o q2 (k1 c o qz qT q1 q2 q3 e))
  have e2 : g2.objs.size = g1.objs.size := by rw [hs2.1, hd2.1]
  refine wpAny_bind (wpAny_letGo (wpAny_pure ?_))
  refine wpAny_bind (wpAny_bind (wpAny_onRaise (m := zdraw b (.ref i3)) (zdraw_item (s := ⟨g2, g, d, tk2, os⟩) D3 hi3 t3_2 fun x3 d3 tk3 p3 n3 hd3 => ?_)))
  replace hd3 : Heap.SameBut i3 g2 d3 := hd3
  have hU3 : TupO d3 TO #[x1, x2, a3] := hd3.extBut _ _ (fun q => S.T3 (q ▸ S.m3)) hT2
  refine wpAny_bind (wpAny_seqItems (s := ⟨d3, g, d, tk3, os⟩) hU3 rfl ?_)
  refine wpAny_bind (upd_tup (s := ⟨d3, g, d, tk3, os⟩) hU3 (by simp) fun g3 hT3 hs3 => ?_)
  replace hs3 : Heap.SameBut TO d3 g3 := hs3
  replace hT3 : TupO g3 TO #[x1, x2, x3] := hT3
  have hz3 : ZipO g3 z TI TO .ellipsis b := hs3.extBut _ _ S.zTO (hd3.extBut _ _ (fun q => S.z3 (q ▸ S.m3)) hz2)
  have t1_3 : St1 (i + 1) g3 := D1.frame _ _ _ t1_2 fun c hc o e => hs3.extBut c o (fun q => S.T1 (q ▸ hc)) (hd3.extBut c o (fun q => S.s3_1 (q ▸ hc)) e)
  have t2_3 : St2 (i + 1) g3 := D2.frame _ _ _ t2_2 fun c hc o e => hs3.extBut c o (fun q => S.T2 (q ▸ hc)) (hd3.extBut c o (fun q => S.s3_2 (q ▸ hc)) e)
  have t3_3 : St3 (i + 1) g3 := D3.frame _ _ _ n3 fun c hc o e => hs3.extBut c o (fun q => S.T3 (q ▸ hc)) e
  have k3 : ∀ c o, c ≠ z → c ≠ TO → c ≠ i1 → c ≠ i2 → c ≠ i3 → hp.get? c = some o → g3.get? c = some o := fun c o qz qT q1 q2 q3 e => hs3.extBut c o qT (hd3.extBut c o q3 (k2 c o qz qT q1 q2 q3 e))
  have e3 : g3.objs.size = g2.objs.size := by rw [hs3.1, hd3.1]
  refine wpAny_bind (wpAny_letGo (wpAny_pure ?_))
  refine wpAny_pure ?_
  refine wpAny_bind (wpAny_seqItems (s := ⟨g3, g, d, tk3, os⟩) hT3 rfl ?_)
  refine wpAny_bind (wpAny_newTuple ?_)
  have hsz : g3.objs.size = hp.objs.size := by rw [e3, e2, e1, hs0.1]
  have hlt : z < g3.objs.size := Heap.lt_size hz3
  refine wpAny_bind ?_
  unfold Builtin.SmallTypes.ownedTupleHandOut
  have hy : ZipO (g3.push { cls := .type "tuple", data := .seq #[x1, x2, x3] }) z TI TO .ellipsis b := Heap.get?_push_of_some _ hz3
  refine wpAny_bind (wpAny_setField_rec hy (by simp) fun u1 hu1 hv1 => wpAny_setField_rec hu1 (by simp) fun u2 hu2 hv2 => ?_)
  have up : ∀ c o, c ≠ z → g3.get? c = some o → u2.get? c = some o := fun c o q e => hv2.extBut c o q (hv1.extBut c o q (Heap.get?_push_of_some _ e))
  have hN : TupO u2 g3.objs.size #[x1, x2, x3] := hv2.extBut _ _ (Nat.ne_of_gt hlt) (hv1.extBut _ _ (Nat.ne_of_gt hlt) (Heap.get?_push_size _ rfl))
  have hZ : ZipO u2 z TI TO (rawInt g3.objs.size) b := hu2
  rw [hsz] at hN hZ
  refine wpAny_pure ⟨_, rfl, ?_⟩
  show Q (.ref g3.objs.size) ⟨u2, g, d, tk3, os⟩
  rw [hsz]
  exact hQ x1 x2 x3 u2 tk3 p1 p2 p3 hZ (up _ _ S.zTO.symm hT3) (D1.frame _ _ _ t1_3 fun c hc o e => up c o (fun q => S.z1 (q ▸ hc)) e) (D2.frame _ _ _ t2_3 fun c hc o e => up c o (fun q => S.z2 (q ▸ hc)) e) (D3.frame _ _ _ t3_3 fun c hc o e => up c o (fun q => S.z3 (q ▸ hc)) e) hN fun c o qz qT q1 q2 q3 e => up c o qz (k3 c o qz qT q1 q2 q3 e)
theorem next_end3 {z TI TO i1 i2 i3 : Addr} {fp1 fp2 fp3 : List Addr} {n : Nat} {P1 P2 P3 : Nat → Value → Prop} {St1 St2 St3 : Nat → Heap → Prop} {a1 a2 a3 : Value} {Q : Fin → Shared → Prop} (hh : A.handled = none) (S : Sep3 z TI TO i1 i2 i3 fp1 fp2 fp3) (D1 : Draws prog w A i1 fp1 n P1 St1) (D2 : Draws prog w A i2 fp2 n P2 St2) (D3 : Draws prog w A i3 fp3 n P3 St3)
    (hz : ZipO s.heap z TI TO .none b) (hTI : TupO s.heap TI #[.ref i1, .ref i2, .ref i3]) (hTO : TupO s.heap TO #[a1, a2, a3]) (st1 : St1 n s.heap) (st2 : St2 n s.heap) (st3 : St3 n s.heap)
    (hE : ∀ h' e, (∀ c o, c ≠ z → c ≠ TO → c ≠ i1 → c ≠ i2 → c ≠ i3 → s.heap.get? c = some o → h'.get? c = some o) → (∃ o, h'.get? e = some o ∧ o.cls = .type "StopIteration") → E (.ref e) { s with heap := h' }) :
    wpAny (model prog w) A (Builtin.«zip.__next__» ⟨[.ref z], []⟩) Q E s := by
  obtain ⟨hp, g, d, tk0, os⟩ := s
  refine wpAny_bind (m := field (.ref z) 2) (wpAny_field hz rfl (x := .bool b) rfl ?_)
  refine wpAny_bind (m := field (.ref z) 3) (wpAny_field hz rfl (x := .ref TI) rfl ?_)
  refine wpAny_bind (wpAny_seqItems hTI rfl ?_)
  show wpAny _ _ (Builtin.SmallTypes.ownedTupleIsFree (.ref z) >>= _) _ _ _
  rw [val_b]
  refine wpAny_bind ?_
  unfold Builtin.SmallTypes.ownedTupleIsFree
  refine wpAny_bind (wpAny_field hz rfl (x := .none) rfl (wpAny_pure ?_))
  simp only [if_true]
  refine wpAny_bind (wpAny_rule (wpAny_bind (wpAny_field hz rfl (x := .ref TO) rfl ?_)))
  refine wpAny_bind (wpAny_setField_rec hz (by simp) fun g0 hz0 hs0 => wpAny_bind ?_)
  replace hs0 : Heap.SameBut z hp g0 := hs0
  replace hz0 : ZipO g0 z TI TO .ellipsis b := hz0
  have t1_0 : St1 n g0 := D1.frame _ _ _ st1 fun c hc o e => hs0.extBut c o (fun q => S.z1 (q ▸ hc)) e
  have t2_0 : St2 n g0 := D2.frame _ _ _ st2 fun c hc o e => hs0.extBut c o (fun q => S.z2 (q ▸ hc)) e
  have t3_0 : St3 n g0 := D3.frame _ _ _ st3 fun c hc o e => hs0.extBut c o (fun q => S.z3 (q ▸ hc)) e
  simp only [List.zipIdx_cons, List.zipIdx_nil, List.forIn_cons, List.forIn_nil]
  refine wpAny_bind (wpAny_bind (wpAny_onRaise ?_))
  cases b with
  | false =>
    refine wpAny_bind (m := Builtin.SmallTypes.nextOf (.ref i1)) (D1.done ⟨g0, g, d, tk0, os⟩ _ _ t1_0 fun y e hy he => ?_)
    replace hy : Heap.ExtBut i1 g0 y := hy
    obtain ⟨oe, hoe, hce⟩ := he
    replace hoe : y.get? e = some oe := hoe
    have hzy : ZipO y z TI TO .ellipsis false := hy _ _ (fun q => S.z1 (q ▸ S.m1)) hz0
    have hez : e ≠ z := fun x => by subst x; rw [hzy] at hoe; cases hoe; simp at hce
    refine wpAny_setField_rec (s := ⟨y, g, d, tk0, os⟩) hzy (by simp) fun y2 _ hv => ?_
    replace hv : Heap.SameBut z y y2 := hv
    exact hE y2 e (fun c o qz qT q1 q2 q3 x => hv.extBut c o qz (hy c o q1 (hs0.extBut c o qz x))) ⟨oe, hv.extBut _ _ hez hoe, hce⟩
  | true =>
    refine zend_strict (s := ⟨g0, g, d, tk0, os⟩) D1 t1_0 fun y hy => ?_
    replace hy : Heap.ExtBut i1 g0 y := hy
    have hzy : ZipO y z TI TO .ellipsis true := hy _ _ (fun q => S.z1 (q ▸ S.m1)) hz0
    have t2_1 : St2 n y := D2.frame _ _ _ t2_0 fun c hc o e => hy c o (fun q => S.s1_2 (q ▸ hc)) e
    have t3_1 : St3 n y := D3.frame _ _ _ t3_0 fun c hc o e => hy c o (fun q => S.s1_3 (q ▸ hc)) e
    refine wpAny_bind (wpAny_setField_rec (s := ⟨y, g, d, tk0, os⟩) hzy (by simp) fun y1 _ hv1 => ?_)
    replace hv1 : Heap.SameBut z y y1 := hv1
    have r2_1 : St2 n y1 := D2.frame _ _ _ t2_1 fun c hc o e => hv1.extBut c o (fun q => S.z2 (q ▸ hc)) e
    have r3_1 : St3 n y1 := D3.frame _ _ _ t3_1 fun c hc o e => hv1.extBut c o (fun q => S.z3 (q ▸ hc)) e
    have k1 : ∀ c o, c ≠ z → c ≠ TO → c ≠ i1 → c ≠ i2 → c ≠ i3 → hp.get? c = some o → y1.get? c = some o := fun c o qz qT q1 q2 q3 e => hv1.extBut c o qz (hy c o q1 (hs0.extBut c o qz e))
    refine wpAny_bind ?_
    refine wpAny_bind ?_
    simp only [List.drop_succ_cons, List.drop_zero, List.zipIdx_cons, List.zipIdx_nil, List.forIn_cons, List.forIn_nil]
    refine wpAny_bind (wpAny_bind (zend_strict (s := ⟨y1, g, d, tk0, os⟩) D2 r2_1 fun y2 hy2 => ?_))
    replace hy2 : Heap.ExtBut i2 y1 y2 := hy2
    have k2 : ∀ c o, c ≠ z → c ≠ TO → c ≠ i1 → c ≠ i2 → c ≠ i3 → hp.get? c = some o → y2.get? c = some o := fun c o qz qT q1 q2 q3 e => hy2 c o q2 (k1 c o qz qT q1 q2 q3 e)
    have r3_2 : St3 n y2 := D3.frame _ _ _ r3_1 fun c hc o e => hy2 c o (fun q => S.s2_3 (q ▸ hc)) e
    refine wpAny_pure ?_
    refine wpAny_bind (wpAny_bind (zend_strict (s := ⟨y2, g, d, tk0, os⟩) D3 r3_2 fun y3 hy3 => ?_))
    replace hy3 : Heap.ExtBut i3 y2 y3 := hy3
    have k3 : ∀ c o, c ≠ z → c ≠ TO → c ≠ i1 → c ≠ i2 → c ≠ i3 → hp.get? c = some o → y3.get? c = some o := fun c o qz qT q1 q2 q3 e => hy3 c o q3 (k2 c o qz qT q1 q2 q3 e)
    refine wpAny_pure ?_
    refine wpAny_pure ?_
    exact wpAny_bind (wpAny_rule (stop_it (s := ⟨y3, g, d, tk0, os⟩) hh fun h2 e kk he => hE h2 e (fun c o qz qT q1 q2 q3 x => kk c o (k3 c o qz qT q1 q2 q3 x)) he))
theorem py_item3 {z TI TO i1 i2 i3 : Addr} {fp1 fp2 fp3 : List Addr} {n1 n2 n3 i : Nat} {P1 P2 P3 : Nat → Value → Prop} {St1 St2 St3 : Nat → Heap → Prop} {a1 a2 a3 : Value} {Q : Option Value → Shared → Prop} (S : Sep3 z TI TO i1 i2 i3 fp1 fp2 fp3) (D1 : Draws prog w A.in1 i1 fp1 n1 P1 St1) (D2 : Draws prog w A.in1 i2 fp2 n2 P2 St2) (D3 : Draws prog w A.in1 i3 fp3 n3 P3 St3)
    (hz : ZipO s.heap z TI TO .none b) (hTI : TupO s.heap TI #[.ref i1, .ref i2, .ref i3]) (hTO : TupO s.heap TO #[a1, a2, a3]) (st1 : St1 i s.heap) (st2 : St2 i s.heap) (st3 : St3 i s.heap) (hi1 : i < n1) (hi2 : i < n2) (hi3 : i < n3)
    (hQ : ∀ x1 x2 x3 h' tk, P1 i x1 → P2 i x2 → P3 i x3 → ZipO h' z TI TO (rawInt s.heap.objs.size) b → TupO h' TO #[x1, x2, x3] → St1 (i + 1) h' → St2 (i + 1) h' → St3 (i + 1) h' → TupO h' s.heap.objs.size #[x1, x2, x3] →
      (∀ c o, c ≠ z → c ≠ TO → c ≠ i1 → c ≠ i2 → c ≠ i3 → s.heap.get? c = some o → h'.get? c = some o) → Q (some (.ref s.heap.objs.size)) { s with heap := h', toks := tk }) : wpAny (model prog w) A (pyNext (.ref z)) Q E s := by
  have hT : s.TypeIs (.ref z) "zip" := ⟨_, hz, rfl⟩
  unfold pyNext
  refine wpAny_bind (wpAny_attempt (wpAny_callSpecial?_slot (name := Str.ofString "__next__") hT F.slot_zip_next (wpAny_call_entry F.slot_zip_next hT F.entry_zip_next ?_ (F.args_zip_next_1 _))))
  exact next_item3 S D1 D2 D3 hz hTI hTO st1 st2 st3 hi1 hi2 hi3 fun x1 x2 x3 h2 tk p1 p2 p3 q1 q2 u1 u2 u3 q3 q4 => wpAny_pure (hQ x1 x2 x3 h2 tk p1 p2 p3 q1 q2 u1 u2 u3 q3 q4)
theorem py_end3 {z TI TO i1 i2 i3 : Addr} {fp1 fp2 fp3 : List Addr} {n : Nat} {P1 P2 P3 : Nat → Value → Prop} {St1 St2 St3 : Nat → Heap → Prop} {a1 a2 a3 : Value} {Q : Option Value → Shared → Prop} (hh : A.handled = none) (S : Sep3 z TI TO i1 i2 i3 fp1 fp2 fp3) (D1 : Draws prog w A.in1 i1 fp1 n P1 St1) (D2 : Draws prog w A.in1 i2 fp2 n P2 St2) (D3 : Draws prog w A.in1 i3 fp3 n P3 St3)
    (hz : ZipO s.heap z TI TO .none b) (hTI : TupO s.heap TI #[.ref i1, .ref i2, .ref i3]) (hTO : TupO s.heap TO #[a1, a2, a3]) (st1 : St1 n s.heap) (st2 : St2 n s.heap) (st3 : St3 n s.heap)
    (hQ : ∀ h', (∀ c o, c ≠ z → c ≠ TO → c ≠ i1 → c ≠ i2 → c ≠ i3 → s.heap.get? c = some o → h'.get? c = some o) → Q none { s with heap := h' }) : wpAny (model prog w) A (pyNext (.ref z)) Q E s := by
  have hT : s.TypeIs (.ref z) "zip" := ⟨_, hz, rfl⟩
  unfold pyNext
  refine wpAny_bind (wpAny_attempt (wpAny_callSpecial?_slot (name := Str.ofString "__next__") hT F.slot_zip_next (wpAny_call_entry F.slot_zip_next hT F.entry_zip_next ?_ (F.args_zip_next_1 _))))
  refine next_end3 (A := A.in1) hh S D1 D2 D3 hz hTI hTO st1 st2 st3 fun h2 e kk he => ?_
  obtain ⟨o, ho, hc⟩ := he
  exact wpAny_bind (wpAny_isInstance (T := "StopIteration") (b := true) ⟨o, ho, hc⟩ isSubtype_stop (wpAny_pure (hQ _ kk)))
theorem typeCall_strict3 (v1 v2 v3 x : Value) : checkTypeCall "zip" ⟨[v1, v2, v3], [(Str.ofString "strict", x)]⟩ = pure () := by kernel_rfl
theorem newCall_strict3 (v1 v2 v3 x : Value) : checkBuiltinCall "zip.__new__" ⟨[.type "zip", v1, v2, v3], [(Str.ofString "strict", x)]⟩ = pure () := by kernel_rfl
theorem initArgs_strict3 (obj v1 v2 v3 x : Value) : argsOk "object.__init__" ⟨[obj, v1, v2, v3], [(Str.ofString "strict", x)]⟩ := by unfold argsOk; kernel_rfl
abbrev sT3 (h : Heap) (o1 o2 o3 : Obj) : Heap := ((((h.push o1).push o2).push o3).push { cls := .type "tuple", data := .seq #[.ref h.objs.size, .ref (h.push o1).objs.size, .ref ((h.push o1).push o2).objs.size] })
abbrev sO3 (h : Heap) (o1 o2 o3 : Obj) : Heap := (sT3 h o1 o2 o3).push { cls := .type "tuple", data := .seq #[.none, .none, .none] }
abbrev sZ3 (h : Heap) (o1 o2 o3 : Obj) : Heap := (sO3 h o1 o2 o3).push { cls := .type "zip", data := .fields #[.none, .bool false, .bool true, .ref (((h.push o1).push o2).push o3).objs.size, .ref (sT3 h o1 o2 o3).objs.size] }
theorem meets_strict3 {v1 v2 v3 : Value} {o1 o2 o3 : Obj} {G1 G2 G3 : Heap → Prop} (B1 : Begins v1 o1 G1) (B2 : Begins v2 o2 G2) (B3 : Begins v3 o3 G3) :
    Meets (Builtin.«zip.__new__» ⟨[.type "zip", v1, v2, v3], [(Str.ofString "strict", .bool true)]⟩) (fun _ R s => (G1 s.heap ∧ G2 s.heap ∧ G3 s.heap) ∧ R (.ok (.ret (.ref (sO3 s.heap o1 o2 o3).objs.size))) { s with heap := (sZ3 s.heap o1 o2 o3) }) :=
  .of_wp fun prog w A R s h => by
    obtain ⟨hp, g, d, tk, os⟩ := s
    obtain ⟨⟨h1, h2, h3⟩, h⟩ := h
    have hsub := sub_zip
    have e1 : (Str.ofString "strict" != ("strict" : Str)) = false := by decide +kernel
    have w1 : ∀ {A' : Around} {E : Value → Shared → Prop} {Q : Value → Shared → Prop}, Q (.ref hp.objs.size) ⟨(hp.push o1), g, d, tk, os⟩ → wpAny (model prog w) A' (pyIter v1) Q E ⟨hp, g, d, tk, os⟩ := fun q => B1.iter prog w _ _ ⟨hp, g, d, tk, os⟩ _ (B1.keeps _ _ h1 fun c u e => e) q
    have w2 : ∀ {A' : Around} {E : Value → Shared → Prop} {Q : Value → Shared → Prop}, Q (.ref (hp.push o1).objs.size) ⟨((hp.push o1).push o2), g, d, tk, os⟩ → wpAny (model prog w) A' (pyIter v2) Q E ⟨(hp.push o1), g, d, tk, os⟩ := fun q => B2.iter prog w _ _ ⟨(hp.push o1), g, d, tk, os⟩ _ (B2.keeps _ _ h2 fun c u e => (Heap.get?_push_of_some _ e)) q
    have w3 : ∀ {A' : Around} {E : Value → Shared → Prop} {Q : Value → Shared → Prop}, Q (.ref ((hp.push o1).push o2).objs.size) ⟨(((hp.push o1).push o2).push o3), g, d, tk, os⟩ → wpAny (model prog w) A' (pyIter v3) Q E ⟨((hp.push o1).push o2), g, d, tk, os⟩ := fun q => B3.iter prog w _ _ ⟨((hp.push o1).push o2), g, d, tk, os⟩ _ (B3.keeps _ _ h3 fun c u e => (Heap.get?_push_of_some _ (Heap.get?_push_of_some _ e))) q
    wp_walk using w1, w2, w3
    exact ⟨_, rfl, h⟩
/-- zip(.., strict=True) of 3: its new cells -/
theorem begins_strict3 {v1 v2 v3 : Value} {o1 o2 o3 : Obj} {G1 G2 G3 : Heap → Prop} {Q : Value → Shared → Prop} (B1 : Begins v1 o1 G1) (B2 : Begins v2 o2 G2) (B3 : Begins v3 o3 G3) (h1 : G1 s.heap) (h2 : G2 s.heap) (h3 : G3 s.heap)
    (h : ∀ h', ZipO h' (s.heap.objs.size + 5) (s.heap.objs.size + 3) (s.heap.objs.size + 4) .none true → TupO h' (s.heap.objs.size + 3) #[.ref s.heap.objs.size, .ref (s.heap.objs.size + 1), .ref (s.heap.objs.size + 2)] → TupO h' (s.heap.objs.size + 4) #[.none, .none, .none] → h'.get? s.heap.objs.size = some o1 → h'.get? (s.heap.objs.size + 1) = some o2 → h'.get? (s.heap.objs.size + 2) = some o3 → (∀ c o, s.heap.get? c = some o → h'.get? c = some o) → Q (.ref (s.heap.objs.size + 5)) { s with heap := h' }) :
    wpAny (model prog w) A (call (.type "zip") [v1, v2, v3] [(Str.ofString "strict", .bool true)]) Q E s := by
  refine callType_newKw F.called_zip (by decide) (typeCall_strict3 _ _ _ _) (newCall_strict3 _ _ _ _) (fun obj => initArgs_strict3 obj _ _ _ _) F.entry_zip_new (meets_strict3 B1 B2 B3) ⟨⟨h1, h2, h3⟩, ?_⟩
  have z1 : (s.heap.push o1).objs.size = s.heap.objs.size + 1 := by rw [Heap.size_push]
  have z2 : ((s.heap.push o1).push o2).objs.size = s.heap.objs.size + 2 := by rw [Heap.size_push, z1]
  have z3 : (((s.heap.push o1).push o2).push o3).objs.size = s.heap.objs.size + 3 := by rw [Heap.size_push, z2]
  have z4 : (sT3 s.heap o1 o2 o3).objs.size = s.heap.objs.size + 4 := by rw [Heap.size_push, z3]
  have z5 : (sO3 s.heap o1 o2 o3).objs.size = s.heap.objs.size + 5 := by rw [Heap.size_push, z4]
  have z6 : (sZ3 s.heap o1 o2 o3).objs.size = s.heap.objs.size + 6 := by rw [Heap.size_push, z5]
  have q0 : (sZ3 s.heap o1 o2 o3).get? s.heap.objs.size = some o1 := (Heap.get?_push_of_some _ (Heap.get?_push_of_some _ (Heap.get?_push_of_some _ (Heap.get?_push_of_some _ (Heap.get?_push_of_some _ (Heap.get?_push_size _ B1.free))))))
  have q1 : (sZ3 s.heap o1 o2 o3).get? (s.heap.push o1).objs.size = some o2 := (Heap.get?_push_of_some _ (Heap.get?_push_of_some _ (Heap.get?_push_of_some _ (Heap.get?_push_of_some _ (Heap.get?_push_size _ B2.free)))))
  rw [z1] at q1
  have q2 : (sZ3 s.heap o1 o2 o3).get? ((s.heap.push o1).push o2).objs.size = some o3 := (Heap.get?_push_of_some _ (Heap.get?_push_of_some _ (Heap.get?_push_of_some _ (Heap.get?_push_size _ B3.free))))
  rw [z2] at q2
  have q3 : (sZ3 s.heap o1 o2 o3).get? (((s.heap.push o1).push o2).push o3).objs.size = some ({ cls := .type "tuple", data := .seq #[.ref s.heap.objs.size, .ref (s.heap.push o1).objs.size, .ref ((s.heap.push o1).push o2).objs.size] } : Obj) := (Heap.get?_push_of_some _ (Heap.get?_push_of_some _ (Heap.get?_push_size _ rfl)))
  rw [z3] at q3
  have q4 : (sZ3 s.heap o1 o2 o3).get? (sT3 s.heap o1 o2 o3).objs.size = some ({ cls := .type "tuple", data := .seq #[.none, .none, .none] } : Obj) := (Heap.get?_push_of_some _ (Heap.get?_push_size _ rfl))
  rw [z4] at q4
  have q5 : (sZ3 s.heap o1 o2 o3).get? (sO3 s.heap o1 o2 o3).objs.size = some ({ cls := .type "zip", data := .fields #[.none, .bool false, .bool true, .ref (((s.heap.push o1).push o2).push o3).objs.size, .ref (sT3 s.heap o1 o2 o3).objs.size] } : Obj) := (Heap.get?_push_size _ rfl)
  rw [z5] at q5
  rw [z2, z1] at q3
  rw [z4, z3] at q5
  show _ ∧ _
  rw [z5]
  exact ⟨⟨_, q5, rfl⟩, h _ q5 q3 q4 q0 q1 q2 fun c o e => (Heap.get?_push_of_some _ (Heap.get?_push_of_some _ (Heap.get?_push_of_some _ (Heap.get?_push_of_some _ (Heap.get?_push_of_some _ (Heap.get?_push_of_some _ e))))))⟩
end
end CZ

namespace CZ
open PySem PySem.Spec PyProof.Rows L2
/-- a list (false) or a tuple (true) that is read -/
def SqK (K : PySem.W.Frag) (H : Hp) (p : Bool × Addr) (xs : List V) : Prop := if p.1 = true then SqT K H p.2 xs else SqL K H p.2 xs
def SqIt (h : Heap) (it : Addr) (p : Bool × Addr) (i : Nat) : Prop := if p.1 = true then h.IsTupleIter it p.2 i else h.IsListIter it p.2 i
def SeqIs (h : Heap) (p : Bool × Addr) (its : List Value) : Prop := if p.1 = true then h.IsTuple p.2 its.toArray else h.IsList p.2 its.toArray
/-- the iterator's object as it begins -/
def itO (p : Bool × Addr) : Obj := if p.1 = true then { cls := .type "tuple_iterator", data := .fields #[.ref p.2, .int 0 0] } else { cls := .type "list_iterator", data := .fields #[.ref p.2, .int 0 0] }
theorem SqIt.at {h h' : Heap} {it : Addr} {p : Bool × Addr} {i : Nat} (x : SqIt h it p i) (k : ∀ o, h.get? it = some o → h'.get? it = some o) : SqIt h' it p i := by
  obtain ⟨b, a⟩ := p
  cases b
  · exact Heap.IsListIter.at (show h.IsListIter it a i from x) k
  · exact Heap.IsTupleIter.at (show h.IsTupleIter it a i from x) k
theorem SqIt.obj {h : Heap} {it : Addr} {p : Bool × Addr} {i : Nat} (x : SqIt h it p i) : ∃ o, h.get? it = some o ∧ ∀ v, o.data ≠ .cell v := by
  obtain ⟨b, a⟩ := p
  cases b
  · obtain ⟨o, e, _, d⟩ := (show h.IsListIter it a i from x)
    exact ⟨o, e, fun v q => by rw [d] at q; cases q⟩
  · obtain ⟨o, e, _, d⟩ := (show h.IsTupleIter it a i from x)
    exact ⟨o, e, fun v q => by rw [d] at q; cases q⟩
theorem SqIt.begin {h : Heap} {it : Addr} {p : Bool × Addr} (e : h.get? it = some (itO p)) : SqIt h it p 0 := by
  obtain ⟨b, a⟩ := p
  cases b
  · exact ⟨_, e, rfl, rfl⟩
  · exact ⟨_, e, rfl, rfl⟩
theorem begins_of (p : Bool × Addr) (its : List Value) : Begins (.ref p.2) (itO p) (fun h => SeqIs h p its) := by
  obtain ⟨b, a⟩ := p
  cases b
  · exact begins_list a its.toArray
  · exact begins_tuple a its.toArray
theorem draws_of {prog : Program} {w : World} {A : Around} (hh : A.handled = none) (it : Addr) (p : Bool × Addr) (ne : p.2 ≠ it) (its : List Value) :
    Draws prog w A it [it, p.2] its.toArray.size (fun i v => its.toArray[i]? = some v) (fun i h => SqIt h it p i ∧ SeqIs h p its) := by
  obtain ⟨b, a⟩ := p
  cases b
  · exact Draws.list hh it a ne its.toArray
  · exact Draws.tuple hh it a ne its.toArray
section
variable {X : Cx} {pins : List (Addr × Obj)} {σ : L2.St} {H : Hp} {s : Shared} {p : Bool × Addr} {xs ys : List V}
theorem sq_seq (I : Inv X pins σ H s) (h : SqK X.K H p xs) : ∃ its : List Value, Vals xs its ∧ SeqIs s.heap p its ∧ p.2 < s.heap.objs.size := by
  obtain ⟨b, a⟩ := p
  cases b
  · obtain ⟨its, rv, q, _⟩ := I.list (show SqL X.K H a xs from h)
    exact ⟨its, rv, q.isList, q.lt⟩
  · obtain ⟨its, rv, q, _⟩ := I.tuple (show SqT X.K H a xs from h)
    obtain ⟨o, ho, _⟩ := id q
    exact ⟨its, rv, q, Heap.lt_size ho⟩
theorem sq_inj (I : Inv X pins σ H s) (h : SqK X.K H p xs) (h2 : SqK X.K H p ys) : xs = ys := by
  obtain ⟨b, a⟩ := p
  cases b
  · exact I.list_inj (show SqL X.K H a xs from h) h2
  · exact I.tuple_inj (show SqT X.K H a xs from h) h2
end
/-- what a zip of lists and tuples of one length gives -/
def ItZ (K : PySem.W.Frag) (l : List (Bool × Addr)) : It :=
  ⟨fun i H => ∃ vs : List V, Paired (fun p v => ∃ xs, SqK K H p xs ∧ xs[i]? = some v) l vs,
    fun i H v H2 => ∃ (T : Addr) (vs : List V), v = .ref T ∧ H T = none ∧ H2 = upd H T (.tup vs) ∧ Paired (fun p v => ∀ xs, SqK K H p xs → xs[i]? = some v) l vs,
    fun i H => ∀ p ∈ l, ∃ xs, SqK K H p xs ∧ xs.length = i⟩
def YRow (xss : List (List V)) : Nat → Hp → V → Hp → Prop := fun i H v H2 => ∃ (T : Addr) (vs : List V), v = .ref T ∧ H T = none ∧ H2 = upd H T (.tup vs) ∧ Paired (fun (xs : List V) v => xs[i]? = some v) xss vs
theorem pair_go {K : PySem.W.Frag} {H : Hp} {i : Nat} : ∀ {l : List (Bool × Addr)} {xss : List (List V)}, Paired (fun p xs => SqK K H p xs) l xss → (∀ xs ∈ xss, i < xs.length) → ∃ vs, Paired (fun p v => ∃ xs, SqK K H p xs ∧ xs[i]? = some v) l vs
  | _, _, .nil, _ => ⟨[], .nil⟩
  | _, _, .cons (b := xs) r t, h => by
    obtain ⟨vs, q⟩ := pair_go t fun ys hy => h ys (List.mem_cons_of_mem _ hy)
    have hi := h xs List.mem_cons_self
    exact ⟨xs[i] :: vs, .cons ⟨xs, r, List.getElem?_eq_getElem hi⟩ q⟩
theorem pair_row {K : PySem.W.Frag} {H : Hp} {i : Nat} : ∀ {l : List (Bool × Addr)} {xss : List (List V)} {vs : List V}, Paired (fun p xs => SqK K H p xs) l xss → Paired (fun p v => ∀ xs, SqK K H p xs → xs[i]? = some v) l vs → Paired (fun (xs : List V) v => xs[i]? = some v) xss vs
  | _, _, _, .nil, .nil => .nil
  | _, _, _, .cons r t, .cons q u => .cons (q _ r) (pair_row t u)
theorem pair_stop {K : PySem.W.Frag} {H : Hp} {n : Nat} : ∀ {l : List (Bool × Addr)} {xss : List (List V)}, Paired (fun p xs => SqK K H p xs) l xss → (∀ xs ∈ xss, xs.length = n) → ∀ p ∈ l, ∃ xs, SqK K H p xs ∧ xs.length = n
  | _, _, .nil, _, _, hp => nomatch hp
  | _, _, .cons r t, h, p, hp => by
    rcases List.mem_cons.mp hp with e | hp
    · rw [e]
      exact ⟨_, r, h _ List.mem_cons_self⟩
    · exact pair_stop t (fun ys hy => h ys (List.mem_cons_of_mem _ hy)) p hp
theorem walk_rows {K : PySem.W.Frag} {l : List (Bool × Addr)} {xss : List (List V)} {n : Nat} (hn : ∀ xs ∈ xss, xs.length = n) : Walk (ItZ K l) n (fun H => Paired (fun p xs => SqK K H p xs) l xss) (YRow xss) :=
  ⟨fun i H hi q => pair_go q fun xs hx => by rw [hn xs hx]; exact hi, fun H q => pair_stop q hn, fun i H x H2 _ q y => by
    obtain ⟨T, vs, h1, h2, h3, h4⟩ := y
    exact ⟨T, vs, h1, h2, h3, pair_row q h4⟩⟩
/-- the reading of zip(..): which are tuples is told by the flags -/
def iZ (K : PySem.W.Frag) (fl : List Bool) (ta : TA) : TI := fun σ H R => ta σ H fun vs H1 => ∃ l : List Addr, vs = l.map V.ref ∧ l.length = fl.length ∧ (∀ p ∈ fl.zip l, ∃ xs, SqK K H1 p xs) ∧ R (ItZ K (fl.zip l)) H1
theorem nin_new {M a : Nat} (j k : Nat) (h : a < M) (hjk : j ≠ k) : M + j ∉ [M + k, a] := by
  simp only [List.mem_cons, List.mem_nil_iff, or_false, not_or]
  omega
theorem looks_ty {M : Model} {h : Heap} (T : String) (_ : True) : ∃ k, (k = Keeper.frame ∨ k = Keeper.machine ∨ k = Keeper.boundFrame) ∧ PySem.W.Looks M h (keeperOf (.type T)) k := ⟨_, .inr (.inl rfl), PySem.W.Looks.of_pure rfl⟩
end CZ

namespace CZ
open PySem PySem.Spec PyProof.Rows L2
theorem turn_z2 {P : Program} {w : World} {K : PySem.W.Frag} {elts : List Expr} {kk : Nat} {tpos : Pos} {z TI TO i1 i2 : Addr} {p1 p2 : Bool × Addr} {b : Bool} (S : Sep2 z TI TO i1 i2 [i1, p1.2] [i2, p2.2]) (ne1 : p1.2 ≠ i1) (ne2 : p2.2 ≠ i2) :
    Turn P w K (.Tuple elts kk tpos) (ItZ K [p1, p2]) [z, TI, TO, i1, i2] z (fun i h => ZipO h z TI TO .none b ∧ TupO h TI #[.ref i1, .ref i2] ∧ (∃ a1 a2, TupO h TO #[a1, a2]) ∧ SqIt h i1 p1 i ∧ SqIt h i2 p2 i) where
  mem := by simp
  obj := fun i h st c hc => by
    obtain ⟨hz, hTI, ⟨a1, a2, hTO⟩, h1, h2⟩ := st
    have e : c = z ∨ c = TI ∨ c = TO ∨ c = i1 ∨ c = i2 := by simpa using hc
    rcases e with q | q | q | q | q
    · rw [q]; exact ⟨_, hz, fun v q => nomatch q⟩
    · rw [q]; exact ⟨_, hTI, fun v q => nomatch q⟩
    · rw [q]; exact ⟨_, hTO, fun v q => nomatch q⟩
    · rw [q]; exact h1.obj
    · rw [q]; exact h2.obj
  keep := fun i h h2 st k => by
    obtain ⟨hz, hTI, ⟨a1, a2, hTO⟩, h1, h2⟩ := st
    exact ⟨k z (by simp) _ hz, k TI (by simp) _ hTI, ⟨a1, a2, k TO (by simp) _ hTO⟩, h1.at fun o q => k i1 (by simp) o q, h2.at fun o q => k i2 (by simp) o q⟩
  item := by
    intro X hP hw hK hc i pins s σ H E I hf st hg
    subst hP hw hK
    obtain ⟨hz, hTI, ⟨a1, a2, hTO⟩, h1, h2⟩ := st
    obtain ⟨vs, hv⟩ := hg
    cases hv with
    | cons r1 hv1 =>
      rename_i v1 ws1
      obtain ⟨xs1, hq1, hx1⟩ := r1
      obtain ⟨its1, rv1, q1, _⟩ := sq_seq I hq1
      obtain ⟨u1, hu1, ru1⟩ := rv1.get hx1
      have g1 : its1.toArray[i]? = some u1 := by simpa using hu1
      have l1 : i < its1.toArray.size := by have := (List.getElem?_eq_some_iff.mp hu1).1; simpa using this
      cases hv1 with
      | cons r2 hv2 =>
        rename_i v2 ws2
        obtain ⟨xs2, hq2, hx2⟩ := r2
        obtain ⟨its2, rv2, q2, _⟩ := sq_seq I hq2
        obtain ⟨u2, hu2, ru2⟩ := rv2.get hx2
        have g2 : its2.toArray[i]? = some u2 := by simpa using hu2
        have l2 : i < its2.toArray.size := by have := (List.getElem?_eq_some_iff.mp hu2).1; simpa using this
        cases hv2
        have hzl : z < s.heap.objs.size := Heap.lt_size hz
        refine py_item2 S (draws_of (A := X.A.in1) (I.ok.hd hc) i1 p1 ne1 its1) (draws_of (A := X.A.in1) (I.ok.hd hc) i2 p2 ne2 its2) hz hTI hTO ⟨h1, q1⟩ ⟨h2, q2⟩ l1 l2 fun x1 x2 hA tk y1 y2 z2 TO2 n1 n2 hT hk => ?_
        obtain rfl : u1 = x1 := Option.some.inj (g1.symm.trans y1)
        obtain rfl : u2 = x2 := Option.some.inj (g2.symm.trans y2)
        refine ⟨_, rfl, go_zip (s := { s with heap := hA, toks := tk }) z2 fun hB z3 sb => ?_⟩
        replace sb : Heap.SameBut z hA hB := sb
        have hT2 : hB.get? s.heap.objs.size = some { cls := .type "tuple", data := .seq #[u1, u2] } := (sb.2 _ (Nat.ne_of_gt hzl)).trans hT
        have new : ObjOk X.prog X.w (upd H s.heap.objs.size (.tup [v1, v2])) hB s.heap.objs.size (.tup [v1, v2]) := ⟨by show 2 ≤ sizeLine; decide, [u1, u2], (.cons ru1 (.cons ru2 .nil)), ⟨_, hT2, rfl, _, rfl⟩⟩
        have I1 : Inv X pins σ (upd H s.heap.objs.size (.tup [v1, v2])) { s with heap := hB, toks := tk } := I.turnedNew (t' := tk) (ch := [z, TI, TO, i1, i2]) (fun c o hb q => (sb.2 c (fun q => hb (by simp [q]))).trans (hk c o (fun q => hb (by simp [q])) (fun q => hb (by simp [q])) (fun q => hb (by simp [q])) (fun q => hb (by simp [q])) q)) hf (Nat.le_refl _) new
        refine ⟨.ref s.heap.objs.size, _, I1, rfl, ⟨_, _, rfl, I.hok.fresh (Nat.le_refl _), rfl, (.cons (fun l hl => by rw [sq_inj I hl hq1]; exact hx1) (.cons (fun l hl => by rw [sq_inj I hl hq2]; exact hx2) .nil))⟩, ⟨z3, (sb.2 _ S.zTI.symm).trans (hk _ _ S.zTI.symm S.TOTI.symm S.I1 S.I2 hTI), ⟨u1, u2, (sb.2 _ S.zTO.symm).trans TO2⟩, (n1.1.at fun o q => (sb.2 _ (fun q => S.z1 (by rw [← q]; exact S.m1))).trans q), (n2.1.at fun o q => (sb.2 _ (fun q => S.z2 (by rw [← q]; exact S.m2))).trans q)⟩, fun c hcm => ?_⟩
        have hlt : c < s.heap.objs.size := by
          have e : c = z ∨ c = TI ∨ c = TO ∨ c = i1 ∨ c = i2 := by simpa using hcm
          rcases e with q | q | q | q | q
          · rw [q]; exact hzl
          · rw [q]; exact Heap.lt_size hTI
          · rw [q]; exact Heap.lt_size hTO
          · rw [q]; obtain ⟨_, e1, _⟩ := h1.obj; exact Heap.lt_size e1
          · rw [q]; obtain ⟨_, e1, _⟩ := h2.obj; exact Heap.lt_size e1
        rw [upd_ne (Nat.ne_of_lt hlt)]
        exact (hf c hcm).1
  done := by
    intro X hP hw hK hc i pins s σ H E I hf st hg
    subst hP hw hK
    obtain ⟨hz, hTI, ⟨a1, a2, hTO⟩, h1, h2⟩ := st
    obtain ⟨xs1, hq1, hx1⟩ := hg p1 (by simp)
    obtain ⟨its1, rv1, q1, _⟩ := sq_seq I hq1
    have l1 : its1.toArray.size = i := by have := rv1.length; simp; omega
    have D1 := draws_of (prog := X.prog) (w := X.w) (A := X.A.in1) (I.ok.hd hc) i1 p1 ne1 its1
    rw [l1] at D1
    obtain ⟨xs2, hq2, hx2⟩ := hg p2 (by simp)
    obtain ⟨its2, rv2, q2, _⟩ := sq_seq I hq2
    have l2 : its2.toArray.size = i := by have := rv2.length; simp; omega
    have D2 := draws_of (prog := X.prog) (w := X.w) (A := X.A.in1) (I.ok.hd hc) i2 p2 ne2 its2
    rw [l2] at D2
    exact py_end2 (I.ok.hd hc) S D1 D2 hz hTI hTO ⟨h1, q1⟩ ⟨h2, q2⟩ fun h2 hk => ⟨rfl, I.turnedL (t' := s.toks) (ch := [z, TI, TO, i1, i2]) (fun c o hb q => hk c o (fun q => hb (by simp [q])) (fun q => hb (by simp [q])) (fun q => hb (by simp [q])) (fun q => hb (by simp [q])) q) hf⟩
  self := fun A i s Q E st h => iter_zip st.1 h
theorem sep_new2 {M : Nat} {p1 p2 : Bool × Addr} (h1 : p1.2 < M) (h2 : p2.2 < M) : Sep2 (M + 4) (M + 2) (M + 3) M (M + 1) [M, p1.2] [M + 1, p2.2] where
  zTO := by show (M + 4 : Nat) ≠ M + 3; omega
  zTI := by show (M + 4 : Nat) ≠ M + 2; omega
  TOTI := by show (M + 3 : Nat) ≠ M + 2; omega
  m1 := by simp
  z1 := nin_new (a := p1.2) 4 0 h1 (by decide)
  T1 := nin_new (a := p1.2) 3 0 h1 (by decide)
  I1 := by show (M + 2 : Nat) ≠ M; omega
  s2_1 := nin_new (a := p1.2) 1 0 h1 (by decide)
  m2 := by simp
  z2 := nin_new (a := p2.2) 4 1 h2 (by decide)
  T2 := nin_new (a := p2.2) 3 1 h2 (by decide)
  I2 := by show (M + 2 : Nat) ≠ M + 1; omega
  s1_2 := nin_new (a := p2.2) 0 1 h2 (by decide)
theorem pi_z2s {X : Cx} {e1 e2 : Expr} {ta : TA} {p pos tpos : Pos} {elts : List Expr} {kk : Nat} {jj : Nat} {kp kp2 : Pos} {fl : List Bool} (hfl : fl.length = 2) (hg : Gl X "zip") (hm : X.mg "zip" = none) (ha : PA X [e1, e2] ta)
    (hs : starEach [e1, e2] X.env = (false, eval e1 X.env) :: starEach [e2] X.env := by rfl) (hpl : (backTo pos (starEach [e2] X.env)).any (·.1) = false := by rfl) :
    PI X (.Tuple elts kk tpos) (.Call (.Name "zip" p) [e1, e2] [⟨some "strict", .Constant (.bool true) jj kp, kp2⟩] pos) (iZ X.K fl ta) := by
  refine ⟨fun pins s σ H R I h => ?_⟩
  refine wpAny_Call_Name_kw (ld_blt I hg hm PyProof.Rows.boot_zip ?_)
  refine PySem.W.callWith_of (P := fun _ => True) ?_ (fun h _ => looks_ty "zip" True.intro) ?_
  · show ((backTo pos (starEach _ X.env)).any (·.1) || false) = false
    rw [hs, Bool.or_false]
    exact hpl
  have he : backTo pos (starEach [e1, e2] X.env) = (false, eval e1 X.env) :: backTo pos (starEach [e2] X.env) := by rw [hs]; rfl
  rw [he]
  refine PyProof.Rows.evalArgs_kwB rfl ?_
  rw [← he]
  refine thn (ha.run pos pins s σ H _ I h) fun us s0 ⟨vs, H1, I0, r1, q1⟩ => ?_
  refine PyProof.Rows.kws_cons (Constant_bool (PyProof.Rows.kws_nil ⟨True.intro, ?_⟩))
  have I1 := I0
  obtain ⟨l, ev, el, hl, q1⟩ := q1
  subst ev
  obtain ⟨b1, b2, rfl⟩ : ∃ b1 b2 : Bool, fl = [b1, b2] := match fl, hfl with | [_, _], _ => ⟨_, _, rfl⟩
  obtain ⟨c1, c2, rfl⟩ : ∃ c1 c2 : Addr, l = [c1, c2] := match l, el with | [_, _], _ => ⟨_, _, rfl⟩
  cases r1 with
  | cons r_1 rr1 =>
    cases r_1
    cases rr1 with
    | cons r_2 rr2 =>
      cases r_2
      cases rr2
      obtain ⟨xs1, hq1⟩ := hl (b1, c1) (by simp)
      obtain ⟨its1, rv1, g1, lt1⟩ := sq_seq I1 hq1
      obtain ⟨xs2, hq2⟩ := hl (b2, c2) (by simp)
      obtain ⟨its2, rv2, g2, lt2⟩ := sq_seq I1 hq2
      have frs : ∀ c, c ∈ [s0.heap.objs.size + 4, s0.heap.objs.size + 2, s0.heap.objs.size + 3, s0.heap.objs.size, s0.heap.objs.size + 1] → FpOk X pins H1 c := fun c hcm => by
        have e : c = s0.heap.objs.size + 4 ∨ c = s0.heap.objs.size + 2 ∨ c = s0.heap.objs.size + 3 ∨ c = s0.heap.objs.size ∨ c = s0.heap.objs.size + 1 := by simpa using hcm
        have hle : s0.heap.objs.size ≤ c := by
          rcases e with q | q | q | q | q
          · rw [q]; exact Nat.le_add_right _ _
          · rw [q]; exact Nat.le_add_right _ _
          · rw [q]; exact Nat.le_add_right _ _
          · rw [q]; exact Nat.le_refl _
          · rw [q]; exact Nat.le_add_right _ _
        exact I1.fpOk hle (I1.hok.fresh hle)
      refine begins_strict2 (begins_of (b1, c1) its1) (begins_of (b2, c2) its2) g1 g2 fun hA hz hTI hTO y1 y2 kk => iter_zip hz ?_
      have I2 : Inv X pins σ H1 { s0 with heap := hA } := I1.kept (t' := s0.toks) kk
      exact ⟨_, [s0.heap.objs.size + 4, s0.heap.objs.size + 2, s0.heap.objs.size + 3, s0.heap.objs.size, s0.heap.objs.size + 1], _, _, H1, rfl, I2, turn_z2 (sep_new2 lt1 lt2) (Nat.ne_of_lt lt1) (Nat.ne_of_lt (Nat.lt_of_lt_of_le lt2 (Nat.le_add_right _ 1))), ⟨hz, hTI, ⟨_, _, hTO⟩, SqIt.begin y1, SqIt.begin y2⟩, frs, q1⟩
theorem pi_z2 {X : Cx} {e1 e2 : Expr} {ta : TA} {p pos tpos : Pos} {elts : List Expr} {kk : Nat} {fl : List Bool} (hfl : fl.length = 2) (hg : Gl X "zip") (hm : X.mg "zip" = none) (ha : PA X [e1, e2] ta)
    (hs : starEach [e1, e2] X.env = (false, eval e1 X.env) :: starEach [e2] X.env := by rfl) (hpl : (backTo pos (starEach [e2] X.env)).any (·.1) = false := by rfl) :
    PI X (.Tuple elts kk tpos) (.Call (.Name "zip" p) [e1, e2] [] pos) (iZ X.K fl ta) := by
  refine ⟨fun pins s σ H R I h => ?_⟩
  refine Call_ (ld_blt I hg hm PyProof.Rows.boot_zip (PyProof.Rows.callWith_type1 (thn (ha.run pos pins s σ H _ I h) fun us s0 ⟨vs, H1, I1, r1, q1⟩ => ?_) hs hpl))
  obtain ⟨l, ev, el, hl, q1⟩ := q1
  subst ev
  obtain ⟨b1, b2, rfl⟩ : ∃ b1 b2 : Bool, fl = [b1, b2] := match fl, hfl with | [_, _], _ => ⟨_, _, rfl⟩
  obtain ⟨c1, c2, rfl⟩ : ∃ c1 c2 : Addr, l = [c1, c2] := match l, el with | [_, _], _ => ⟨_, _, rfl⟩
  cases r1 with
  | cons r_1 rr1 =>
    cases r_1
    cases rr1 with
    | cons r_2 rr2 =>
      cases r_2
      cases rr2
      obtain ⟨xs1, hq1⟩ := hl (b1, c1) (by simp)
      obtain ⟨its1, rv1, g1, lt1⟩ := sq_seq I1 hq1
      obtain ⟨xs2, hq2⟩ := hl (b2, c2) (by simp)
      obtain ⟨its2, rv2, g2, lt2⟩ := sq_seq I1 hq2
      have frs : ∀ c, c ∈ [s0.heap.objs.size + 4, s0.heap.objs.size + 2, s0.heap.objs.size + 3, s0.heap.objs.size, s0.heap.objs.size + 1] → FpOk X pins H1 c := fun c hcm => by
        have e : c = s0.heap.objs.size + 4 ∨ c = s0.heap.objs.size + 2 ∨ c = s0.heap.objs.size + 3 ∨ c = s0.heap.objs.size ∨ c = s0.heap.objs.size + 1 := by simpa using hcm
        have hle : s0.heap.objs.size ≤ c := by
          rcases e with q | q | q | q | q
          · rw [q]; exact Nat.le_add_right _ _
          · rw [q]; exact Nat.le_add_right _ _
          · rw [q]; exact Nat.le_add_right _ _
          · rw [q]; exact Nat.le_refl _
          · rw [q]; exact Nat.le_add_right _ _
        exact I1.fpOk hle (I1.hok.fresh hle)
      refine zip_begins2 (begins_of (b1, c1) its1) (begins_of (b2, c2) its2) g1 g2 fun hA hz hTI hTO y1 y2 _ kk => iter_zip (b := false) hz ?_
      have I2 : Inv X pins σ H1 { s0 with heap := hA } := I1.kept (t' := s0.toks) kk
      exact ⟨_, [s0.heap.objs.size + 4, s0.heap.objs.size + 2, s0.heap.objs.size + 3, s0.heap.objs.size, s0.heap.objs.size + 1], _, _, H1, rfl, I2, turn_z2 (sep_new2 lt1 lt2) (Nat.ne_of_lt lt1) (Nat.ne_of_lt (Nat.lt_of_lt_of_le lt2 (Nat.le_add_right _ 1))), ⟨hz, hTI, ⟨_, _, hTO⟩, SqIt.begin y1, SqIt.begin y2⟩, frs, q1⟩
theorem turn_z3 {P : Program} {w : World} {K : PySem.W.Frag} {elts : List Expr} {kk : Nat} {tpos : Pos} {z TI TO i1 i2 i3 : Addr} {p1 p2 p3 : Bool × Addr} {b : Bool} (S : Sep3 z TI TO i1 i2 i3 [i1, p1.2] [i2, p2.2] [i3, p3.2]) (ne1 : p1.2 ≠ i1) (ne2 : p2.2 ≠ i2) (ne3 : p3.2 ≠ i3) :
    Turn P w K (.Tuple elts kk tpos) (ItZ K [p1, p2, p3]) [z, TI, TO, i1, i2, i3] z (fun i h => ZipO h z TI TO .none b ∧ TupO h TI #[.ref i1, .ref i2, .ref i3] ∧ (∃ a1 a2 a3, TupO h TO #[a1, a2, a3]) ∧ SqIt h i1 p1 i ∧ SqIt h i2 p2 i ∧ SqIt h i3 p3 i) where
  mem := by simp
  obj := fun i h st c hc => by
    obtain ⟨hz, hTI, ⟨a1, a2, a3, hTO⟩, h1, h2, h3⟩ := st
    have e : c = z ∨ c = TI ∨ c = TO ∨ c = i1 ∨ c = i2 ∨ c = i3 := by simpa using hc
    rcases e with q | q | q | q | q | q
    · rw [q]; exact ⟨_, hz, fun v q => nomatch q⟩
    · rw [q]; exact ⟨_, hTI, fun v q => nomatch q⟩
    · rw [q]; exact ⟨_, hTO, fun v q => nomatch q⟩
    · rw [q]; exact h1.obj
    · rw [q]; exact h2.obj
    · rw [q]; exact h3.obj
  keep := fun i h h2 st k => by
    obtain ⟨hz, hTI, ⟨a1, a2, a3, hTO⟩, h1, h2, h3⟩ := st
    exact ⟨k z (by simp) _ hz, k TI (by simp) _ hTI, ⟨a1, a2, a3, k TO (by simp) _ hTO⟩, h1.at fun o q => k i1 (by simp) o q, h2.at fun o q => k i2 (by simp) o q, h3.at fun o q => k i3 (by simp) o q⟩
  item := by
    intro X hP hw hK hc i pins s σ H E I hf st hg
    subst hP hw hK
    obtain ⟨hz, hTI, ⟨a1, a2, a3, hTO⟩, h1, h2, h3⟩ := st
    obtain ⟨vs, hv⟩ := hg
    cases hv with
    | cons r1 hv1 =>
      rename_i v1 ws1
      obtain ⟨xs1, hq1, hx1⟩ := r1
      obtain ⟨its1, rv1, q1, _⟩ := sq_seq I hq1
      obtain ⟨u1, hu1, ru1⟩ := rv1.get hx1
      have g1 : its1.toArray[i]? = some u1 := by simpa using hu1
      have l1 : i < its1.toArray.size := by have := (List.getElem?_eq_some_iff.mp hu1).1; simpa using this
      cases hv1 with
      | cons r2 hv2 =>
        rename_i v2 ws2
        obtain ⟨xs2, hq2, hx2⟩ := r2
        obtain ⟨its2, rv2, q2, _⟩ := sq_seq I hq2
        obtain ⟨u2, hu2, ru2⟩ := rv2.get hx2
        have g2 : its2.toArray[i]? = some u2 := by simpa using hu2
        have l2 : i < its2.toArray.size := by have := (List.getElem?_eq_some_iff.mp hu2).1; simpa using this
        cases hv2 with
        | cons r3 hv3 =>
          rename_i v3 ws3
          obtain ⟨xs3, hq3, hx3⟩ := r3
          obtain ⟨its3, rv3, q3, _⟩ := sq_seq I hq3
          obtain ⟨u3, hu3, ru3⟩ := rv3.get hx3
          have g3 : its3.toArray[i]? = some u3 := by simpa using hu3
          have l3 : i < its3.toArray.size := by have := (List.getElem?_eq_some_iff.mp hu3).1; simpa using this
          cases hv3
          have hzl : z < s.heap.objs.size := Heap.lt_size hz
          refine py_item3 S (draws_of (A := X.A.in1) (I.ok.hd hc) i1 p1 ne1 its1) (draws_of (A := X.A.in1) (I.ok.hd hc) i2 p2 ne2 its2) (draws_of (A := X.A.in1) (I.ok.hd hc) i3 p3 ne3 its3) hz hTI hTO ⟨h1, q1⟩ ⟨h2, q2⟩ ⟨h3, q3⟩ l1 l2 l3 fun x1 x2 x3 hA tk y1 y2 y3 z2 TO2 n1 n2 n3 hT hk => ?_
          obtain rfl : u1 = x1 := Option.some.inj (g1.symm.trans y1)
          obtain rfl : u2 = x2 := Option.some.inj (g2.symm.trans y2)
          obtain rfl : u3 = x3 := Option.some.inj (g3.symm.trans y3)
          refine ⟨_, rfl, go_zip (s := { s with heap := hA, toks := tk }) z2 fun hB z3 sb => ?_⟩
          replace sb : Heap.SameBut z hA hB := sb
          have hT2 : hB.get? s.heap.objs.size = some { cls := .type "tuple", data := .seq #[u1, u2, u3] } := (sb.2 _ (Nat.ne_of_gt hzl)).trans hT
          have new : ObjOk X.prog X.w (upd H s.heap.objs.size (.tup [v1, v2, v3])) hB s.heap.objs.size (.tup [v1, v2, v3]) := ⟨by show 3 ≤ sizeLine; decide, [u1, u2, u3], (.cons ru1 (.cons ru2 (.cons ru3 .nil))), ⟨_, hT2, rfl, _, rfl⟩⟩
          have I1 : Inv X pins σ (upd H s.heap.objs.size (.tup [v1, v2, v3])) { s with heap := hB, toks := tk } := I.turnedNew (t' := tk) (ch := [z, TI, TO, i1, i2, i3]) (fun c o hb q => (sb.2 c (fun q => hb (by simp [q]))).trans (hk c o (fun q => hb (by simp [q])) (fun q => hb (by simp [q])) (fun q => hb (by simp [q])) (fun q => hb (by simp [q])) (fun q => hb (by simp [q])) q)) hf (Nat.le_refl _) new
          refine ⟨.ref s.heap.objs.size, _, I1, rfl, ⟨_, _, rfl, I.hok.fresh (Nat.le_refl _), rfl, (.cons (fun l hl => by rw [sq_inj I hl hq1]; exact hx1) (.cons (fun l hl => by rw [sq_inj I hl hq2]; exact hx2) (.cons (fun l hl => by rw [sq_inj I hl hq3]; exact hx3) .nil)))⟩, ⟨z3, (sb.2 _ S.zTI.symm).trans (hk _ _ S.zTI.symm S.TOTI.symm S.I1 S.I2 S.I3 hTI), ⟨u1, u2, u3, (sb.2 _ S.zTO.symm).trans TO2⟩, (n1.1.at fun o q => (sb.2 _ (fun q => S.z1 (by rw [← q]; exact S.m1))).trans q), (n2.1.at fun o q => (sb.2 _ (fun q => S.z2 (by rw [← q]; exact S.m2))).trans q), (n3.1.at fun o q => (sb.2 _ (fun q => S.z3 (by rw [← q]; exact S.m3))).trans q)⟩, fun c hcm => ?_⟩
          have hlt : c < s.heap.objs.size := by
            have e : c = z ∨ c = TI ∨ c = TO ∨ c = i1 ∨ c = i2 ∨ c = i3 := by simpa using hcm
            rcases e with q | q | q | q | q | q
            · rw [q]; exact hzl
            · rw [q]; exact Heap.lt_size hTI
            · rw [q]; exact Heap.lt_size hTO
            · rw [q]; obtain ⟨_, e1, _⟩ := h1.obj; exact Heap.lt_size e1
            · rw [q]; obtain ⟨_, e1, _⟩ := h2.obj; exact Heap.lt_size e1
            · rw [q]; obtain ⟨_, e1, _⟩ := h3.obj; exact Heap.lt_size e1
          rw [upd_ne (Nat.ne_of_lt hlt)]
          exact (hf c hcm).1
  done := by
    intro X hP hw hK hc i pins s σ H E I hf st hg
    subst hP hw hK
    obtain ⟨hz, hTI, ⟨a1, a2, a3, hTO⟩, h1, h2, h3⟩ := st
    obtain ⟨xs1, hq1, hx1⟩ := hg p1 (by simp)
    obtain ⟨its1, rv1, q1, _⟩ := sq_seq I hq1
    have l1 : its1.toArray.size = i := by have := rv1.length; simp; omega
    have D1 := draws_of (prog := X.prog) (w := X.w) (A := X.A.in1) (I.ok.hd hc) i1 p1 ne1 its1
    rw [l1] at D1
    obtain ⟨xs2, hq2, hx2⟩ := hg p2 (by simp)
    obtain ⟨its2, rv2, q2, _⟩ := sq_seq I hq2
    have l2 : its2.toArray.size = i := by have := rv2.length; simp; omega
    have D2 := draws_of (prog := X.prog) (w := X.w) (A := X.A.in1) (I.ok.hd hc) i2 p2 ne2 its2
    rw [l2] at D2
    obtain ⟨xs3, hq3, hx3⟩ := hg p3 (by simp)
    obtain ⟨its3, rv3, q3, _⟩ := sq_seq I hq3
    have l3 : its3.toArray.size = i := by have := rv3.length; simp; omega
    have D3 := draws_of (prog := X.prog) (w := X.w) (A := X.A.in1) (I.ok.hd hc) i3 p3 ne3 its3
    rw [l3] at D3
    exact py_end3 (I.ok.hd hc) S D1 D2 D3 hz hTI hTO ⟨h1, q1⟩ ⟨h2, q2⟩ ⟨h3, q3⟩ fun h2 hk => ⟨rfl, I.turnedL (t' := s.toks) (ch := [z, TI, TO, i1, i2, i3]) (fun c o hb q => hk c o (fun q => hb (by simp [q])) (fun q => hb (by simp [q])) (fun q => hb (by simp [q])) (fun q => hb (by simp [q])) (fun q => hb (by simp [q])) q) hf⟩
  self := fun A i s Q E st h => iter_zip st.1 h
theorem sep_new3 {M : Nat} {p1 p2 p3 : Bool × Addr} (h1 : p1.2 < M) (h2 : p2.2 < M) (h3 : p3.2 < M) : Sep3 (M + 5) (M + 3) (M + 4) M (M + 1) (M + 2) [M, p1.2] [M + 1, p2.2] [M + 2, p3.2] where
  zTO := by show (M + 5 : Nat) ≠ M + 4; omega
  zTI := by show (M + 5 : Nat) ≠ M + 3; omega
  TOTI := by show (M + 4 : Nat) ≠ M + 3; omega
  m1 := by simp
  z1 := nin_new (a := p1.2) 5 0 h1 (by decide)
  T1 := nin_new (a := p1.2) 4 0 h1 (by decide)
  I1 := by show (M + 3 : Nat) ≠ M; omega
  s2_1 := nin_new (a := p1.2) 1 0 h1 (by decide)
  s3_1 := nin_new (a := p1.2) 2 0 h1 (by decide)
  m2 := by simp
  z2 := nin_new (a := p2.2) 5 1 h2 (by decide)
  T2 := nin_new (a := p2.2) 4 1 h2 (by decide)
  I2 := by show (M + 3 : Nat) ≠ M + 1; omega
  s1_2 := nin_new (a := p2.2) 0 1 h2 (by decide)
  s3_2 := nin_new (a := p2.2) 2 1 h2 (by decide)
  m3 := by simp
  z3 := nin_new (a := p3.2) 5 2 h3 (by decide)
  T3 := nin_new (a := p3.2) 4 2 h3 (by decide)
  I3 := by show (M + 3 : Nat) ≠ M + 2; omega
  s1_3 := nin_new (a := p3.2) 0 2 h3 (by decide)
  s2_3 := nin_new (a := p3.2) 1 2 h3 (by decide)
theorem pi_z3s {X : Cx} {e1 e2 e3 : Expr} {ta : TA} {p pos tpos : Pos} {elts : List Expr} {kk : Nat} {jj : Nat} {kp kp2 : Pos} {fl : List Bool} (hfl : fl.length = 3) (hg : Gl X "zip") (hm : X.mg "zip" = none) (ha : PA X [e1, e2, e3] ta)
    (hs : starEach [e1, e2, e3] X.env = (false, eval e1 X.env) :: starEach [e2, e3] X.env := by rfl) (hpl : (backTo pos (starEach [e2, e3] X.env)).any (·.1) = false := by rfl) :
    PI X (.Tuple elts kk tpos) (.Call (.Name "zip" p) [e1, e2, e3] [⟨some "strict", .Constant (.bool true) jj kp, kp2⟩] pos) (iZ X.K fl ta) := by
  refine ⟨fun pins s σ H R I h => ?_⟩
  refine wpAny_Call_Name_kw (ld_blt I hg hm PyProof.Rows.boot_zip ?_)
  refine PySem.W.callWith_of (P := fun _ => True) ?_ (fun h _ => looks_ty "zip" True.intro) ?_
  · show ((backTo pos (starEach _ X.env)).any (·.1) || false) = false
    rw [hs, Bool.or_false]
    exact hpl
  have he : backTo pos (starEach [e1, e2, e3] X.env) = (false, eval e1 X.env) :: backTo pos (starEach [e2, e3] X.env) := by rw [hs]; rfl
  rw [he]
  refine PyProof.Rows.evalArgs_kwB rfl ?_
  rw [← he]
  refine thn (ha.run pos pins s σ H _ I h) fun us s0 ⟨vs, H1, I0, r1, q1⟩ => ?_
  refine PyProof.Rows.kws_cons (Constant_bool (PyProof.Rows.kws_nil ⟨True.intro, ?_⟩))
  have I1 := I0
  obtain ⟨l, ev, el, hl, q1⟩ := q1
  subst ev
  obtain ⟨b1, b2, b3, rfl⟩ : ∃ b1 b2 b3 : Bool, fl = [b1, b2, b3] := match fl, hfl with | [_, _, _], _ => ⟨_, _, _, rfl⟩
  obtain ⟨c1, c2, c3, rfl⟩ : ∃ c1 c2 c3 : Addr, l = [c1, c2, c3] := match l, el with | [_, _, _], _ => ⟨_, _, _, rfl⟩
  cases r1 with
  | cons r_1 rr1 =>
    cases r_1
    cases rr1 with
    | cons r_2 rr2 =>
      cases r_2
      cases rr2 with
      | cons r_3 rr3 =>
        cases r_3
        cases rr3
        obtain ⟨xs1, hq1⟩ := hl (b1, c1) (by simp)
        obtain ⟨its1, rv1, g1, lt1⟩ := sq_seq I1 hq1
        obtain ⟨xs2, hq2⟩ := hl (b2, c2) (by simp)
        obtain ⟨its2, rv2, g2, lt2⟩ := sq_seq I1 hq2
        obtain ⟨xs3, hq3⟩ := hl (b3, c3) (by simp)
        obtain ⟨its3, rv3, g3, lt3⟩ := sq_seq I1 hq3
        have frs : ∀ c, c ∈ [s0.heap.objs.size + 5, s0.heap.objs.size + 3, s0.heap.objs.size + 4, s0.heap.objs.size, s0.heap.objs.size + 1, s0.heap.objs.size + 2] → FpOk X pins H1 c := fun c hcm => by
          have e : c = s0.heap.objs.size + 5 ∨ c = s0.heap.objs.size + 3 ∨ c = s0.heap.objs.size + 4 ∨ c = s0.heap.objs.size ∨ c = s0.heap.objs.size + 1 ∨ c = s0.heap.objs.size + 2 := by simpa using hcm
          have hle : s0.heap.objs.size ≤ c := by
            rcases e with q | q | q | q | q | q
            · rw [q]; exact Nat.le_add_right _ _
            · rw [q]; exact Nat.le_add_right _ _
            · rw [q]; exact Nat.le_add_right _ _
            · rw [q]; exact Nat.le_refl _
            · rw [q]; exact Nat.le_add_right _ _
            · rw [q]; exact Nat.le_add_right _ _
          exact I1.fpOk hle (I1.hok.fresh hle)
        refine begins_strict3 (begins_of (b1, c1) its1) (begins_of (b2, c2) its2) (begins_of (b3, c3) its3) g1 g2 g3 fun hA hz hTI hTO y1 y2 y3 kk => iter_zip hz ?_
        have I2 : Inv X pins σ H1 { s0 with heap := hA } := I1.kept (t' := s0.toks) kk
        exact ⟨_, [s0.heap.objs.size + 5, s0.heap.objs.size + 3, s0.heap.objs.size + 4, s0.heap.objs.size, s0.heap.objs.size + 1, s0.heap.objs.size + 2], _, _, H1, rfl, I2, turn_z3 (sep_new3 lt1 lt2 lt3) (Nat.ne_of_lt lt1) (Nat.ne_of_lt (Nat.lt_of_lt_of_le lt2 (Nat.le_add_right _ 1))) (Nat.ne_of_lt (Nat.lt_of_lt_of_le lt3 (Nat.le_add_right _ 2))), ⟨hz, hTI, ⟨_, _, _, hTO⟩, SqIt.begin y1, SqIt.begin y2, SqIt.begin y3⟩, frs, q1⟩
theorem pi_z3 {X : Cx} {e1 e2 e3 : Expr} {ta : TA} {p pos tpos : Pos} {elts : List Expr} {kk : Nat} {fl : List Bool} (hfl : fl.length = 3) (hg : Gl X "zip") (hm : X.mg "zip" = none) (ha : PA X [e1, e2, e3] ta)
    (hs : starEach [e1, e2, e3] X.env = (false, eval e1 X.env) :: starEach [e2, e3] X.env := by rfl) (hpl : (backTo pos (starEach [e2, e3] X.env)).any (·.1) = false := by rfl) :
    PI X (.Tuple elts kk tpos) (.Call (.Name "zip" p) [e1, e2, e3] [] pos) (iZ X.K fl ta) := by
  refine ⟨fun pins s σ H R I h => ?_⟩
  refine Call_ (ld_blt I hg hm PyProof.Rows.boot_zip (PyProof.Rows.callWith_type1 (thn (ha.run pos pins s σ H _ I h) fun us s0 ⟨vs, H1, I1, r1, q1⟩ => ?_) hs hpl))
  obtain ⟨l, ev, el, hl, q1⟩ := q1
  subst ev
  obtain ⟨b1, b2, b3, rfl⟩ : ∃ b1 b2 b3 : Bool, fl = [b1, b2, b3] := match fl, hfl with | [_, _, _], _ => ⟨_, _, _, rfl⟩
  obtain ⟨c1, c2, c3, rfl⟩ : ∃ c1 c2 c3 : Addr, l = [c1, c2, c3] := match l, el with | [_, _, _], _ => ⟨_, _, _, rfl⟩
  cases r1 with
  | cons r_1 rr1 =>
    cases r_1
    cases rr1 with
    | cons r_2 rr2 =>
      cases r_2
      cases rr2 with
      | cons r_3 rr3 =>
        cases r_3
        cases rr3
        obtain ⟨xs1, hq1⟩ := hl (b1, c1) (by simp)
        obtain ⟨its1, rv1, g1, lt1⟩ := sq_seq I1 hq1
        obtain ⟨xs2, hq2⟩ := hl (b2, c2) (by simp)
        obtain ⟨its2, rv2, g2, lt2⟩ := sq_seq I1 hq2
        obtain ⟨xs3, hq3⟩ := hl (b3, c3) (by simp)
        obtain ⟨its3, rv3, g3, lt3⟩ := sq_seq I1 hq3
        have frs : ∀ c, c ∈ [s0.heap.objs.size + 5, s0.heap.objs.size + 3, s0.heap.objs.size + 4, s0.heap.objs.size, s0.heap.objs.size + 1, s0.heap.objs.size + 2] → FpOk X pins H1 c := fun c hcm => by
          have e : c = s0.heap.objs.size + 5 ∨ c = s0.heap.objs.size + 3 ∨ c = s0.heap.objs.size + 4 ∨ c = s0.heap.objs.size ∨ c = s0.heap.objs.size + 1 ∨ c = s0.heap.objs.size + 2 := by simpa using hcm
          have hle : s0.heap.objs.size ≤ c := by
            rcases e with q | q | q | q | q | q
            · rw [q]; exact Nat.le_add_right _ _
            · rw [q]; exact Nat.le_add_right _ _
            · rw [q]; exact Nat.le_add_right _ _
            · rw [q]; exact Nat.le_refl _
            · rw [q]; exact Nat.le_add_right _ _
            · rw [q]; exact Nat.le_add_right _ _
          exact I1.fpOk hle (I1.hok.fresh hle)
        refine zip_begins3 (begins_of (b1, c1) its1) (begins_of (b2, c2) its2) (begins_of (b3, c3) its3) g1 g2 g3 fun hA hz hTI hTO y1 y2 y3 _ kk => iter_zip (b := false) hz ?_
        have I2 : Inv X pins σ H1 { s0 with heap := hA } := I1.kept (t' := s0.toks) kk
        exact ⟨_, [s0.heap.objs.size + 5, s0.heap.objs.size + 3, s0.heap.objs.size + 4, s0.heap.objs.size, s0.heap.objs.size + 1, s0.heap.objs.size + 2], _, _, H1, rfl, I2, turn_z3 (sep_new3 lt1 lt2 lt3) (Nat.ne_of_lt lt1) (Nat.ne_of_lt (Nat.lt_of_lt_of_le lt2 (Nat.le_add_right _ 1))) (Nat.ne_of_lt (Nat.lt_of_lt_of_le lt3 (Nat.le_add_right _ 2))), ⟨hz, hTI, ⟨_, _, _, hTO⟩, SqIt.begin y1, SqIt.begin y2, SqIt.begin y3⟩, frs, q1⟩
end CZ

namespace CS
open PySem PySem.Spec PyProof.Rows L2
/-! ### rules beside the layer's -/
section
variable {X : Cx}
/-- a product, whatever the reason that it fits -/
theorem op_mulI : OpR X (binaryOp .Mult) (rI IntMulOk fun i j => .int (i * j)) := opI fun _ _ _ _ _ _ _ hc q => mul_int q hc
/-- list + list, however each is known -/
def rCatR (K : PySem.W.Frag) : R2 := fun x y H Q => ∃ l b xs zs, x = .ref l ∧ y = .ref b ∧ SqL K H l xs ∧ SqL K H b zs ∧ xs.length + zs.length ≤ sizeLine ∧ ∀ p, H p = none → Q (.ref p) (upd H p (.lst (xs ++ zs)))
theorem op_catR : OpR X (binaryOp .Add) (rCatR X.K) := by
  intro pins s σ H x y v u Q I rx ry h
  obtain ⟨l, b, xs, zs, rfl, rfl, hH, hB, hz, q⟩ := h
  cases rx
  cases ry
  obtain ⟨its, r, p1, _⟩ := I.list hH
  obtain ⟨its2, r2, p2, _⟩ := I.list hB
  obtain ⟨⟨cls, dd, data, sl⟩, ho, hc, n, hd⟩ := id p1.isList
  obtain ⟨⟨cls2, dd2, data2, sl2⟩, ho2, hc2, n2, hd2⟩ := id p2.isList
  simp only at hc hd hc2 hd2
  subst hc hd hc2 hd2
  have l1 := r.length
  have l2 := r2.length
  have ea : its.toArray ++ its2.toArray = (its ++ its2).toArray := by simp
  refine concat_meets ⟨_, ho, rfl⟩ ⟨_, ho2, rfl⟩ noFill_list_add seq_list_add PySem.F.slot_list_add PySem.F.entry_list_add (PySem.F.args_list_add_2 _ _) (list_addW l b its.toArray its2.toArray n n2 dd dd2 sl sl2 (by rw [List.size_toArray, List.size_toArray]; omega)) ⟨ho, ho2, ?_⟩
  rw [ea]
  exact ⟨.ref _, _, I.lnew (t' := s.toks) (r.append r2) (by rw [List.length_append]; omega), rfl, q _ I.fresh⟩
theorem pi_or {tg it : Expr} {w1 w2 : TI} (h1 : PI X tg it w1) (h2 : PI X tg it w2) : PI X tg it (fun σ H R => w1 σ H R ∨ w2 σ H R) :=
  ⟨fun pins s σ H R I h => h.elim (fun z => h1.run pins s σ H R I z) fun z => h2.run pins s σ H R I z⟩
end
/-! ### calls by keywords alone -/
def pick {α : Type} (js : List Nat) (l : List α) : List α := js.filterMap fun j => l[j]?
theorem vals_pick {xs : List V} {us : List Value} (r : Vals xs us) : ∀ js : List Nat, Vals (pick js xs) (pick js us)
  | [] => .nil
  | j :: js => by
    have ih := vals_pick r js
    unfold pick at ih ⊢
    cases e : xs[j]? with
    | none =>
      have e2 := r.none_of e
      rw [List.filterMap_cons_none (by rw [e]), List.filterMap_cons_none (by rw [e2])]
      exact ih
    | some x =>
      obtain ⟨u, e2, ru⟩ := r.get e
      rw [List.filterMap_cons_some (by rw [e]), List.filterMap_cons_some (by rw [e2])]
      exact .cons ru ih
theorem kbn_of {K : PySem.W.Frag} {x qual : Str} {st : Stmt} {f : Addr} {fd : FuncData} {ps : List Str} (F : Fun K x qual st f fd) (n : Nat) (ks : List Str) (js : List Nat)
    (h : ∀ (kV doc pm : Value) (an : Option Addr) (cdv ct : Value) (us ws : List Value), us.length = n → ws.length = ks.length → bindArgs (PySem.W.fnOf x qual (defArgs st) (defBody st) (defScope st) .none kV doc pm an cdv ct) ⟨us, ks.zip ws⟩ = pure (ps.zip (pick js (us ++ ws)))) :
    KBn K fd ps n ks (fun us ws => pick js (us ++ ws)) (fun vs zs => pick js (vs ++ zs)) := by
  obtain ⟨oc, od, kV, doc, pm, an, cdv, ct, osl, rfl, lk, hcd⟩ := F.ex
  exact ⟨fun s us ws _ h1 h2 => .of_eq (h kV doc pm an cdv ct us ws h1 h2), fun r1 r2 => vals_pick (r1.append r2) js⟩
section
variable {X : Cx} {CX : CXT} {k n : Nat} {f C : Addr} {fd : FuncData} {ps ks : List Str} {sp : Sp} {E : XK} {x m : Str} {p pos apos : Pos} {o : Expr} {kws : List Keyword} {ta : TE} {tk : TA} {g : List Value → List Value → List Value} {gV : List V → List V → List V}
theorem run_kw {pins : List (Addr × Obj)} {σ : L2.St} {H : Hp} {s : Shared} {Q : VK} {us ws : List Value} {vs zs : List V} (F : FnOk X.prog X.w X.K X.mg X.base CX k f fd ps sp) (hr : Room k X.A) (hb : KBn X.K fd ps n ks g gV) (hx : Passes CX X E)
    (I : Inv X pins σ H s) (r : Vals vs us) (rz : Vals zs ws) (l1 : vs.length = n) (l2 : zs.length = ks.length) (h : sp (gV vs zs) H Q E) : wpAny (model X.prog X.w) X.A (call (.ref f) us (ks.zip ws)) (EP X pins σ Q) X.xe s := by
  refine wpAny_call (codeAny_mono (F.run X.A X.stack s H ⟨us, ks.zip ws⟩ (g us ws) (gV vs zs) Q E hr I.env0 (hb.to s us ws I.kIn (r.length.symm.trans l1) (rz.length.symm.trans l2)) (hb.rel r rz) h) fun res s2 hq => ?_)
  cases res with
  | error e => exact hx pins σ H s e s2 I hq
  | ok fl =>
    cases fl with
    | ret u => exact I.after hq
    | next => exact False.elim hq
    | brk => exact False.elim hq
    | cont => exact False.elim hq
/-- f(k = v, ..) -/
def tCallKw (m : Nat) (sp : Sp) (gV : List V → List V → List V) (E : XK) (tk : TA) : TE := fun σ H Q => tk σ H fun zs H1 => zs.length = m ∧ sp (gV [] zs) H1 Q E
theorem pe_callKw (F : FnOk X.prog X.w X.K X.mg X.base CX k f fd ps sp) (hr : Room k X.A) (hg : Gl X x) (hm : X.mg x = some (.ref f)) (hk : PySem.W.keepIn X.K (.ref f) = true) (hb : KBn X.K fd ps 0 ks g gV) (hx : Passes CX X E) (hkw : PK X kws tk)
    (hall : (backToKw pos (keywordEach kws X.env)).all (·.1.isSome) = true := by rfl) (hks : (backToKw pos (keywordEach kws X.env)).filterMap (·.1) = ks := by rfl) (hdb : (x == ("__debug__" : Str)) = false := by decide)
    (hpl : ((backTo pos (starEach [] X.env)).any (·.1) || (backToKw pos (keywordEach kws X.env)).any (·.1.isNone)) = false := by rfl) :
    PE X (.Call (.Name x p) [] kws pos) (tCallKw ks.length sp gV E tk) := by
  refine ⟨fun pins s σ H Q I h => ?_⟩
  refine wpAny_Call_Name_kw (ld_glob I hg hm ?_ hdb)
  refine PySem.W.callWith_KW0 (h₀ := X.base) I.ok.mod.kin hk hall (thn (hkw.run pos pins s σ H _ I h) fun ws s2 ⟨zs, H2, I2, rz, l2, q2⟩ => ⟨I2.kIn, ?_⟩) hpl
  rw [hks]
  exact run_kw (us := []) (vs := []) F hr hb hx I2 .nil rz rfl l2 q2
/-- o.m(k = v, ..) -/
def tMethKw (C : Addr) (m : Str) (n : Nat) (sp : Sp) (gV : List V → List V → List V) (E : XK) (ta : TE) (tk : TA) : TE := fun σ H Q => ta σ H fun x H1 => ∃ a dx fs, x = .ref a ∧ H1 a = some (.ins C dx fs) ∧ fs.lookup m = none ∧
  tk σ H1 fun zs H2 => zs.length = n ∧ sp (gV [x] zs) H2 Q E
theorem pe_methKw {pl : Sem Bool} (he : PE X o ta) (c : Cls X.K C) (hm : Meth X.K C m f) (F : FnOk X.prog X.w X.K X.mg X.base CX k f fd ps sp) (hr : Room k X.A) (hb : KBn X.K fd ps 1 ks g gV) (hx : Passes CX X E) (hkw : PK X kws tk)
    (hall : (backToKw pos (keywordEach kws X.env)).all (·.1.isSome) = true := by rfl) (hks : (backToKw pos (keywordEach kws X.env)).filterMap (·.1) = ks := by rfl)
    (hpl : ((backTo pos (starEach [] X.env)).any (·.1) || (backToKw pos (keywordEach kws X.env)).any (·.1.isNone)) = false := by rfl)
    (ht : eval (.Call (.Attribute o m apos) [] kws pos) X.env = (do
      let ov ← eval o X.env
      standAt apos.atName
      let (f, first) ← holding [ov] (getMethod ov m pl)
      callWith pos f first (backTo pos (starEach [] X.env)) (backToKw pos (keywordEach kws X.env))) := by rfl) :
    PE X (.Call (.Attribute o m apos) [] kws pos) (tMethKw C m ks.length sp gV E ta tk) := by
  refine ⟨fun pins s σ H Q I h => ?_⟩
  refine PySem.W.methodCall_KW (pl := pl) (thn (he.run pins s σ H _ I h) fun u s1 ⟨x, H1, I1, rx, a, dx, fs, ex, ea, l, q⟩ => ?_) ht
  subst ex
  obtain rfl : u = Value.ref a := rx
  refine getmeth_ok I1 ea c hm l ?_
  refine PySem.W.callWith_KW0 (first := [.ref a]) (h₀ := X.base) I.ok.mod.kin hm.kp hall (thn (hkw.run pos pins s1 σ H1 _ I1 q) fun ws s2 ⟨zs, H2, I2, rz, l2, q2⟩ => ⟨I2.kIn, ?_⟩) hpl
  rw [hks]
  exact run_kw (us := [.ref a]) (vs := [.ref a]) F hr hb hx I2 (.cons rfl .nil) rz rfl l2 q2
end
/-! ### heaps that grow -/
abbrev Ex (H H2 : Hp) : Prop := Evl.Ex H H2
theorem exr {H : Hp} : Ex H H := fun _ _ h => h
theorem exn {H : Hp} {p : Addr} {o : HO} (h : H p = none) : Ex H (upd H p o) := Evl.Ex.new h
theorem SqK.mono {K : PySem.W.Frag} {H H2 : Hp} {p : Bool × Addr} {xs : List V} (e : Ex H H2) (h : CZ.SqK K H p xs) : CZ.SqK K H2 p xs := by
  obtain ⟨b, a⟩ := p
  cases b
  · exact Evl.ex_l e h
  · exact Evl.ex_t e h
/-- a comprehension whose element and tests leave all that stood: out i is what stands behind i turns -/
theorem lc_out {J : It} {n : Nat} {G : Hp → Prop} {Y : Nat → Hp → V → Hp → Prop} (w : Walk J n G Y) {g : TG} {tt : TT} {te : TE} {vs : List Nat} {σ : L2.St} {H1 : Hp} {D : Addr} {Qd : Hp → Prop} (out : Nat → List V) (h0 : out 0 = []) (hD : H1 D = none)
    (hlen : ∀ i, i < n → (out i).length < sizeLine) (hG : ∀ H, Ex H1 H → G H)
    (hs : ∀ i x H H2 (Nx : Hp → Prop), i < n → Ex H1 H → H D = some (.lst (out i)) → Y i H x H2 →
      (∀ y H5, Ex H H5 → out (i + 1) = out i ++ [y] → ∃ acc, H5 D = some (.lst acc) ∧ acc.length < sizeLine ∧ Nx (upd H5 D (.lst (acc ++ [y])))) → (∀ H4, Ex H H4 → out (i + 1) = out i → Nx H4) →
      g x (wipe σ vs) H2 fun σ2 H3 => wipe σ2 vs = wipe σ vs ∧ tt σ2 H3 fun b H4 => if b = true then te σ2 H4 fun y H5 => ∃ acc, H5 D = some (.lst acc) ∧ acc.length < sizeLine ∧ Nx (upd H5 D (.lst (acc ++ [y]))) else Nx H4)
    (hd : ∀ H, Ex H1 H → H D = some (.lst (out n)) → Qd H) :
    ∃ W : Nat → Nat → Hp → Prop, (∃ m, W 0 m (upd H1 D (.lst []))) ∧ ∀ i m H, W i m H →
      (J.stop i H ∧ Qd H) ∨ (J.go i H ∧ ∃ Nx : Hp → Prop, (∀ H2, Nx H2 → ∃ m2, m2 < m ∧ W (i + 1) m2 H2) ∧ ∀ x H2, J.yld i H x H2 → g x (wipe σ vs) H2 fun σ2 H3 => wipe σ2 vs = wipe σ vs ∧ tt σ2 H3 fun b H4 =>
        if b = true then te σ2 H4 fun y H5 => ∃ acc, H5 D = some (.lst acc) ∧ acc.length < sizeLine ∧ Nx (upd H5 D (.lst (acc ++ [y]))) else Nx H4) := by
  refine lc_it w (fun i H => Ex H1 H ∧ H D = some (.lst (out i))) ⟨exn hD, by rw [upd_same, h0]⟩ (fun i H _ p => hG H p.1) (fun i x H H2 hi p y => ?_) (fun H p => hd H p.1 p.2)
  refine hs i x H H2 _ hi p.1 p.2 y (fun y2 H5 e eo => ⟨out i, e D _ p.2, hlen i hi, fun b o q => ?_, by rw [upd_same, eo]⟩) (fun H4 e eo => ⟨fun b o q => e b o (p.1 b o q), by rw [eo]; exact e D _ p.2⟩)
  rw [upd_ne (ne_of_none q hD)]
  exact e b o (p.1 b o q)
/-- .. whose list is known: vals -/
theorem lc_vals {J : It} {n : Nat} {G : Hp → Prop} {Y : Nat → Hp → V → Hp → Prop} (w : Walk J n G Y) {g : TG} {te : TE} {vs : List Nat} {σ : L2.St} {H1 : Hp} {D : Addr} {Qd : Hp → Prop} (vals : List V) (hn : vals.length = n) (hl : n ≤ 10000000) (hD : H1 D = none)
    (hG : ∀ H, Ex H1 H → G H)
    (hs : ∀ i x H H2 (R : VK), i < n → Ex H1 H → Y i H x H2 → (∀ y H5, Ex H H5 → vals[i]? = some y → R y H5) → g x (wipe σ vs) H2 fun σ2 H3 => wipe σ2 vs = wipe σ vs ∧ te σ2 H3 R)
    (hg : ∀ x σ2 H2 (R R2 : L2.St → Hp → Prop), (∀ σ3 H3, R σ3 H3 → R2 σ3 H3) → g x σ2 H2 R → g x σ2 H2 R2)
    (hd : ∀ H, Ex H1 H → H D = some (.lst vals) → Qd H) :
    ∃ W : Nat → Nat → Hp → Prop, (∃ m, W 0 m (upd H1 D (.lst []))) ∧ ∀ i m H, W i m H →
      (J.stop i H ∧ Qd H) ∨ (J.go i H ∧ ∃ Nx : Hp → Prop, (∀ H2, Nx H2 → ∃ m2, m2 < m ∧ W (i + 1) m2 H2) ∧ ∀ x H2, J.yld i H x H2 → g x (wipe σ vs) H2 fun σ2 H3 => wipe σ2 vs = wipe σ vs ∧ tYes σ2 H3 fun b H4 =>
        if b = true then te σ2 H4 fun y H5 => ∃ acc, H5 D = some (.lst acc) ∧ acc.length < sizeLine ∧ Nx (upd H5 D (.lst (acc ++ [y]))) else Nx H4) := by
  refine lc_out w (fun i => vals.take i) rfl hD (fun i hi => ?_) hG (fun i x H H2 Nx hi e hDi y kA _ => ?_) (fun H e h => hd H e ?_)
  · rw [List.length_take]
    exact Nat.lt_of_le_of_lt (Nat.le_trans (Nat.min_le_right _ _) (by rw [hn]; exact hl)) (by decide)
  · refine hg _ _ _ _ _ (fun σ3 H3 q => ⟨q.1, ?_⟩) (hs i x H H2 (fun y H5 => ∃ acc, H5 D = some (.lst acc) ∧ acc.length < sizeLine ∧ Nx (upd H5 D (.lst (acc ++ [y])))) hi e y fun y2 H5 e5 ev => kA y2 H5 e5 ?_)
    · exact q.2
    · rw [List.take_add_one, ev]
      rfl
  · rw [h, List.take_of_length_le (by rw [hn]; exact Nat.le_refl _)]
theorem gmono_name {i : Nat} : ∀ x σ2 H2 (R R2 : L2.St → Hp → Prop), (∀ σ3 H3, R σ3 H3 → R2 σ3 H3) → gName i x σ2 H2 R → gName i x σ2 H2 R2 := fun _ _ _ _ _ h q => h _ _ q
theorem gmono_nil : ∀ vs σ2 H2 (R R2 : L2.St → Hp → Prop), (∀ σ3 H3, R σ3 H3 → R2 σ3 H3) → gNil vs σ2 H2 R → gNil vs σ2 H2 R2 := fun _ _ _ _ _ h q => ⟨q.1, h _ _ q.2⟩
theorem gmono_cons {t : TG} {u : TGs} (ht : ∀ x σ2 H2 (R R2 : L2.St → Hp → Prop), (∀ σ3 H3, R σ3 H3 → R2 σ3 H3) → t x σ2 H2 R → t x σ2 H2 R2) (hu : ∀ x σ2 H2 (R R2 : L2.St → Hp → Prop), (∀ σ3 H3, R σ3 H3 → R2 σ3 H3) → u x σ2 H2 R → u x σ2 H2 R2) :
    ∀ vs σ2 H2 (R R2 : L2.St → Hp → Prop), (∀ σ3 H3, R σ3 H3 → R2 σ3 H3) → gCons t u vs σ2 H2 R → gCons t u vs σ2 H2 R2 := fun vs σ2 H2 R R2 h q => by
  obtain ⟨v, r, e, q⟩ := q
  exact ⟨v, r, e, ht _ _ _ _ _ (fun σ3 H3 z => hu _ _ _ _ _ h z) q⟩
theorem gmono_tup {K : PySem.W.Frag} {n : Nat} {t : TGs} (ht : ∀ x σ2 H2 (R R2 : L2.St → Hp → Prop), (∀ σ3 H3, R σ3 H3 → R2 σ3 H3) → t x σ2 H2 R → t x σ2 H2 R2) :
    ∀ v σ2 H2 (R R2 : L2.St → Hp → Prop), (∀ σ3 H3, R σ3 H3 → R2 σ3 H3) → gTup K n t v σ2 H2 R → gTup K n t v σ2 H2 R2 := fun v σ2 H2 R R2 h q => by
  obtain ⟨a, xs, e, h1, h2, q⟩ := q
  exact ⟨a, xs, e, h1, h2, ht _ _ _ _ _ h q⟩
/-! ### a list or a tuple walked -/
def ItS (K : PySem.W.Frag) (p : Bool × Addr) : It := if p.1 = true then Itt K p.2 else Itl K p.2
def iSeq (K : PySem.W.Frag) (tl : TE) : TI := fun σ H R => tl σ H fun x H1 => ∃ p : Bool × Addr, x = .ref p.2 ∧ (∃ xs, CZ.SqK K H1 p xs) ∧ R (ItS K p) H1
theorem pi_seq {X : Cx} {tg l : Expr} {tl : TE} (hl : PE X l tl) : PI X tg l (iSeq X.K tl) := by
  refine ⟨fun pins s σ H R I h => ?_⟩
  refine thn (hl.run pins s σ H _ I h) fun v s1 ⟨x, H1, I1, r1, q1⟩ => ?_
  obtain ⟨⟨b, a⟩, ex, ⟨xs, hq⟩, q⟩ := q1
  subst ex
  cases r1
  obtain ⟨its, rv, g, lt⟩ := CZ.sq_seq I1 hq
  have fp : ∀ c ∈ [s1.heap.objs.size], FpOk X pins H1 c := fun c hc => by
    have e : c = s1.heap.objs.size := by simpa using hc
    rw [e]
    exact I1.fpOk (Nat.le_refl _) (I1.hok.fresh (Nat.le_refl _))
  refine (CZ.begins_of (b, a) its).iter _ _ _ _ s1 _ g ?_
  have I2 : Inv X pins σ H1 { s1 with heap := s1.heap.push (CZ.itO (b, a)) } := I1.kept (t' := s1.toks) fun c o e => Heap.get?_push_of_some _ e
  cases b
  · exact ⟨_, [s1.heap.objs.size], _, _, H1, rfl, I2, turn_list a _, ⟨_, Heap.get?_push_size _ rfl, rfl, rfl⟩, fp, q⟩
  · exact ⟨_, [s1.heap.objs.size], _, _, H1, rfl, I2, turn_tuple a _, ⟨_, Heap.get?_push_size _ rfl, rfl, rfl⟩, fp, q⟩
theorem walk_seq {K : PySem.W.Frag} {p : Bool × Addr} {xs : List V} : Walk (ItS K p) xs.length (fun H => CZ.SqK K H p xs) (YAt xs) := by
  obtain ⟨b, a⟩ := p
  cases b
  · exact walk_list
  · exact walk_tup
theorem itt {c : Bool} {A B : Prop} (h : c = true) (a : A) : if c = true then A else B := by rw [if_pos h]; exact a
theorem itf {c : Bool} {A B : Prop} (h : c = false) (b : B) : if c = true then A else B := by rw [h, if_neg Bool.false_ne_true]; exact b
theorem map_get {α : Type} {f : α → V} {l : List α} {i : Nat} {x : V} (h : (l.map f)[i]? = some x) : ∃ n, l[i]? = some n ∧ x = f n := by
  rw [List.getElem?_map] at h
  cases e : l[i]? with
  | none => rw [e] at h; cases h
  | some n => rw [e] at h; exact ⟨n, rfl, (Option.some.inj h).symm⟩
end CS

namespace CE
open PySem PySem.Spec PyProof.Rows L2 CZ
/-! ### enumerate over a list or a tuple -/
theorem enumO_new {v : Value} {oo : Obj} {Hq : Heap → Prop} (bg : Begins v oo Hq) :
    Meets (Builtin.«enumerate.__new__» ⟨[.type "enumerate", v], []⟩) (fun _ R t => Hq t.heap ∧
      R (.ok (.ret (.ref (t.heap.push oo).objs.size))) { t with heap := (t.heap.push oo).push { cls := .type "enumerate", data := .fields #[.none, .bool false, .ref t.heap.objs.size, rawInt 0, .none, .none] } }) :=
  .of_wp fun pg wo Ar R t hyp => by
    obtain ⟨hh, gg, dd, tt, oq⟩ := t
    obtain ⟨start, goal⟩ := hyp
    have es := PySem.sub_enumerate
    have go1 : ∀ {A2 : Around} {E2 : Value → Shared → Prop} {Q2 : Value → Shared → Prop}, Q2 (.ref hh.objs.size) ⟨hh.push oo, gg, dd, tt, oq⟩ → wpAny (model pg wo) A2 (pyIter v) Q2 E2 ⟨hh, gg, dd, tt, oq⟩ :=
      fun z => bg.iter pg wo _ _ ⟨hh, gg, dd, tt, oq⟩ _ start z
    wp_walk using go1
    refine wpAny_stack_any fun stk => wpAny_pure ?_
    split
    · rename_i cc _ _ _ _ _
      cases (cc == Value.type "enumerate")
      all_goals
        wp_walk using go1
        exact ⟨_, rfl, goal⟩
    · wp_walk using go1
      exact ⟨_, rfl, goal⟩
theorem enum_of {pg : Program} {wo : World} {Ar : Around} {Ex1 : Value → Shared → Prop} {t : Shared} {v : Value} {oo : Obj} {Hq : Heap → Prop} {Qe : Value → Shared → Prop} (bg : Begins v oo Hq) (start : Hq t.heap)
    (goal : ∀ hN, IsEnum hN (t.heap.objs.size + 1) t.heap.objs.size 0 .none → hN.get? t.heap.objs.size = some oo → (∀ c ob, t.heap.get? c = some ob → hN.get? c = some ob) → Qe (.ref (t.heap.objs.size + 1)) { t with heap := hN }) :
    wpAny (model pg wo) Ar (call (.type "enumerate") [v]) Qe Ex1 t := by
  refine callType_new F.called_enumerate (by decide) (F.typeCall_enumerate_1 _) (F.newCall_enumerate_1 _) (fun ob => F.args_object_init_2 ob _) F.entry_enumerate_new (enumO_new bg) ⟨start, ?_⟩
  have size1 : (t.heap.push oo).objs.size = t.heap.objs.size + 1 := Heap.size_push ..
  have isE : IsEnum ((t.heap.push oo).push { cls := .type "enumerate", data := .fields #[.none, .bool false, .ref t.heap.objs.size, rawInt 0, .none, .none] }) (t.heap.objs.size + 1) t.heap.objs.size 0 .none := by
    have at1 := Heap.get?_push_size (t.heap.push oo) (o := { cls := .type "enumerate", data := .fields #[.none, .bool false, .ref t.heap.objs.size, rawInt 0, .none, .none] }) rfl
    rw [size1] at at1
    exact at1
  show _ ∧ _
  rw [size1]
  exact ⟨⟨_, isE, rfl⟩, goal _ isE (Heap.get?_push_of_some _ (Heap.get?_push_size _ bg.free)) fun c ob z => Heap.get?_push_of_some _ (Heap.get?_push_of_some _ z)⟩
/-- what stands at p, each item in a new pair -/
def ItE (K : PySem.W.Frag) (p : Bool × Addr) : It :=
  ⟨fun i H => ∃ (xs : List V) (x : V), SqK K H p xs ∧ xs[i]? = some x, fun i H v H2 => ∃ T x, v = .ref T ∧ H T = none ∧ H2 = upd H T (.tup [.int (i : Nat), x]) ∧ ∀ xs, SqK K H p xs → xs[i]? = some x, fun i H => ∃ xs : List V, SqK K H p xs ∧ xs.length = i⟩
theorem turn_e {P : Program} {w : World} {K : PySem.W.Frag} {elts : List Expr} {kk : Nat} {tpos : Pos} {en it : Addr} {p : Bool × Addr} (n1 : p.2 ≠ it) (n2 : en ≠ it) (n3 : en ≠ p.2) :
    Turn P w K (.Tuple elts kk tpos) (ItE K p) [en, it] en (fun i h => (∃ old, IsEnum h en it ((i : Nat) : Int) old) ∧ SqIt h it p i) where
  mem := by simp
  obj := fun i h st c hc => by
    obtain ⟨⟨old, ie⟩, si⟩ := st
    have e : c = en ∨ c = it := by simpa using hc
    rcases e with q | q
    · rw [q]; exact ⟨_, ie, fun v q => nomatch q⟩
    · rw [q]; exact si.obj
  keep := fun i h h2 st k => by
    obtain ⟨⟨old, ie⟩, si⟩ := st
    exact ⟨⟨old, k en (by simp) _ ie⟩, si.at fun o q => k it (by simp) o q⟩
  item := by
    intro X hP hw hK hc i pins s σ H E I hf st hg
    subst hP hw hK
    obtain ⟨⟨old, ie⟩, si⟩ := st
    obtain ⟨xs, x, hq, hx⟩ := hg
    obtain ⟨its, rv, sq, _⟩ := sq_seq I hq
    obtain ⟨u, hu, ru⟩ := rv.get hx
    have gu : its.toArray[i]? = some u := by simpa using hu
    have lu : i < its.toArray.size := by
      have := (List.getElem?_eq_some_iff.mp hu).1
      simpa using this
    have enl : en < s.heap.objs.size := Heap.lt_size ie
    have itl : it < s.heap.objs.size := by
      obtain ⟨_, q, _⟩ := si.obj
      exact Heap.lt_size q
    refine PySem.wpAny_pyNext_enum_itemD (draws_of (A := X.A.in1) (I.ok.hd hc) it p n1 its) ie ⟨si, sq⟩ lu n2 (by simp [n2, n3]) fun x1 hA tk hx1 out ⟨si2, _⟩ hT hsz hk => ?_
    obtain rfl : u = x1 := Option.some.inj (gu.symm.trans hx1)
    refine ⟨_, rfl, wpAny_letOwnedTupleGo_enum (s := { s with heap := hA, toks := tk + 1 }) out fun hB isB sb => ?_⟩
    replace sb : Heap.SameBut en hA hB := sb
    have hT2 : hB.get? s.heap.objs.size = some { cls := .type "tuple", data := .seq #[.int i tk, u] } := (sb.2 _ (Nat.ne_of_gt enl)).trans hT
    have made : ObjOk X.prog X.w (upd H s.heap.objs.size (.tup [.int (i : Nat), x])) hB s.heap.objs.size (.tup [.int (i : Nat), x]) := ⟨by show 2 ≤ sizeLine; decide, [.int i tk, u], .cons ⟨_, rfl⟩ (.cons ru .nil), ⟨_, hT2, rfl, _, rfl⟩⟩
    have I1 : Inv X pins σ (upd H s.heap.objs.size (.tup [.int (i : Nat), x])) { s with heap := hB, toks := tk + 1 } :=
      I.turnedNew (t' := tk + 1) (ch := [en, it]) (fun c ob hb q => (sb.2 c (fun z => hb (by simp [z]))).trans (hk c ob (fun z => hb (by simp [z])) (fun z => hb (by simp [z])) q)) hf (Nat.le_refl _) made
    refine ⟨.ref s.heap.objs.size, _, I1, rfl, ⟨_, x, rfl, I.hok.fresh (Nat.le_refl _), rfl, fun ys hy => by rw [sq_inj I hy hq]; exact hx⟩, ⟨⟨u, ?_⟩, si2.at fun o q => (sb.2 it n2.symm).trans q⟩, fun c hcm => ?_⟩
    · have next : ((i + 1 : Nat) : Int) = (i : Int) + 1 := by omega
      rw [next]
      exact isB
    · have small : c < s.heap.objs.size := by
        have e : c = en ∨ c = it := by simpa using hcm
        rcases e with q | q
        · rw [q]; exact enl
        · rw [q]; exact itl
      rw [upd_ne (Nat.ne_of_lt small)]
      exact (hf c hcm).1
  done := by
    intro X hP hw hK hc i pins s σ H E I hf st hg
    subst hP hw hK
    obtain ⟨⟨old, ie⟩, si⟩ := st
    obtain ⟨xs, hq, hx⟩ := hg
    obtain ⟨its, rv, sq, _⟩ := sq_seq I hq
    have li : its.toArray.size = i := by
      have := rv.length
      simp
      omega
    have dr := draws_of (prog := X.prog) (w := X.w) (A := X.A.in1) (I.ok.hd hc) it p n1 its
    rw [li] at dr
    exact PySem.wpAny_pyNext_enum_endD dr ie ⟨si, sq⟩ fun hA eb => ⟨rfl, I.turnedL (t' := s.toks) (ch := [en, it]) (fun c ob hb q => eb c ob (fun z => hb (by simp [z])) q) hf⟩
  self := fun A i s Q E st h => let ⟨⟨_, ie⟩, _⟩ := st; wpAny_pyIter_enum ie h
theorem walk_e {K : PySem.W.Frag} {p : Bool × Addr} {xs : List V} : Walk (ItE K p) xs.length (fun H => SqK K H p xs) (YPair (fun i => some (.int (i : Nat))) (fun i => xs[i]?)) :=
  ⟨fun i _ hi q => ⟨xs, xs[i], q, by simp [hi]⟩, fun _ q => ⟨xs, q, rfl⟩, fun i H v H2 _ q y => by
    obtain ⟨T, x, h1, h2, h3, h4⟩ := y
    exact ⟨T, _, x, h1, h2, h3, rfl, h4 xs q⟩⟩
/-- enumerate(e), e a list or a tuple -/
def iE (K : PySem.W.Frag) (ta : TA) : TI := fun σ H R => ta σ H fun vs H1 => ∃ p : Bool × Addr, vs = [.ref p.2] ∧ (∃ xs, SqK K H1 p xs) ∧ R (ItE K p) H1
theorem pi_e {X : Cx} {e : Expr} {ta : TA} {po pos tpos : Pos} {elts : List Expr} {kk : Nat} (hg : Gl X "enumerate") (hm : X.mg "enumerate" = none) (ha : PA X [e] ta) (hs : starEach [e] X.env = [(false, eval e X.env)] := by rfl) :
    PI X (.Tuple elts kk tpos) (.Call (.Name "enumerate" po) [e] [] pos) (iE X.K ta) := by
  refine ⟨fun pins s σ H R I h => ?_⟩
  refine Call_ (ld_blt I hg hm boot_enumerate (PyProof.Rows.callWith_type1 (thn (ha.run pos pins s σ H _ I h) fun us s0 ⟨vs, H1, I1, r1, q1⟩ => ?_) hs rfl))
  obtain ⟨p, ev, ⟨xs, hq⟩, q1⟩ := q1
  subst ev
  cases r1 with
  | cons r rr =>
    cases rr
    cases r
    obtain ⟨its, rv, sq, lt⟩ := sq_seq I1 hq
    refine enum_of (begins_of p its) sq fun hN ie io kk2 => wpAny_pyIter_enum ie ?_
    have I2 : Inv X pins σ H1 { s0 with heap := hN } := I1.kept (t' := s0.toks) kk2
    refine ⟨s0.heap.objs.size + 1, [s0.heap.objs.size + 1, s0.heap.objs.size], _, _, H1, rfl, I2, turn_e (Nat.ne_of_lt lt) (Nat.succ_ne_self _) (Nat.ne_of_gt (Nat.lt_succ_of_lt lt)), ⟨⟨.none, ie⟩, SqIt.begin io⟩, fun c hc => ?_, q1⟩
    have le : s0.heap.objs.size ≤ c := by
      have e : c = s0.heap.objs.size + 1 ∨ c = s0.heap.objs.size := by simpa using hc
      rcases e with z | z
      · rw [z]; exact Nat.le_add_right _ _
      · rw [z]; exact Nat.le_refl _
    exact I1.fpOk le (I1.hok.fresh le)
end CE

namespace CL
open PySem PySem.Spec PyProof.Rows L2
/-! ### set(l) of a list of ints -/
section
variable {pg : Program} {wo : World} {Ar : Around} {Ee : Value → Shared → Prop} {t : Shared}
set_option maxRecDepth 100000 in
set_option maxHeartbeats 3200000 in
theorem set_of_list {l : Addr} {its : Array Value} (ns : List Int) {Qe : Value → Shared → Prop} (calm : Ar.handled = none) (isl : t.heap.IsList l its) (intsA : IntsAre its.toList ns) (few : ns.length + 1 < scanBound)
    (goal : ∀ (hN : Heap) (k c : Nat), SetR wo hN t.heap.objs.size (fun j => decide (j ∈ ns)) c → c ≤ ns.length → (∀ b ob, t.heap.get? b = some ob → hN.get? b = some ob) → Qe (.ref t.heap.objs.size) { t with heap := hN, toks := k }) :
    wpAny (model pg wo) Ar (call (.type "set") [.ref l]) Qe Ee t := by
  have len : its.size = ns.length := by
    have z := IntsAre.length intsA
    rw [Array.length_toList] at z
    exact z
  obtain ⟨cc, tail, mro⟩ := PySem.F.called_set.mro
  have made := PySem.F.called_set.made
  have sub := PySem.F.called_set.sub
  refine wpAny_call (codeAny_of_tree ?_)
  show wpAny _ _ (callAny (.type "set") _) _ _ _
  refine wpAny_pure ⟨Code.quiet_builtin _ (by decide +kernel), codeAny_builtin PySem.F.entry_type_call ?_⟩
  rw [Around.under_plain (weight_type_call_type "set" [.ref l] []) rfl]
  have noType := PySem.F.called_set.notType
  have creates := PySem.F.called_set.canCreate
  have checked := PySem.F.typeCall_set_1 (.ref l)
  repeat (any_goals (first | assumption | wp_step))
  refine codeAny_mono (code_set_led1 (.ref l) (E := Ee) (Q₁ := fun ob t1 => ob = .ref t.heap.objs.size ∧ t1 = { t with heap := t.heap.push { cls := .type "set", dict := none, data := .set #[] 0 (.fresh 0 0 (!wo.params.followText "set-order")) } }) ⟨rfl, rfl⟩) fun r t1 hr => ?_
  cases r with
  | error e => exact hr
  | ok fl =>
    cases fl with
    | ret ob =>
      obtain ⟨rfl, rfl⟩ := hr
      have hS : (t.heap.push { cls := .type "set", dict := none, data := .set #[] 0 (.fresh 0 0 (!wo.params.followText "set-order")) }).get? t.heap.objs.size = some { cls := .type "set", dict := none, data := .set #[] 0 (.fresh 0 0 (!wo.params.followText "set-order")) } := Heap.get?_push_size _ rfl
      have tS : Shared.TypeIs { t with heap := t.heap.push { cls := .type "set", dict := none, data := .set #[] 0 (.fresh 0 0 (!wo.params.followText "set-order")) } } (.ref t.heap.objs.size) "set" := ⟨_, hS, rfl⟩
      have ini := PySem.F.called_set.init.lookup
      have bnd := PySem.F.called_set.init.bind (.ref t.heap.objs.size)
      repeat (any_goals (first | assumption | wp_step))
      refine codeAny_mono (codeAny_call_builtin (R := wants (fun r t2 => r = .none ∧ ∃ hN k c, t2 = { t with heap := hN, toks := k } ∧ SetR wo hN t.heap.objs.size (fun j => decide (j ∈ ns)) c ∧ c ≤ ns.length ∧
          (∀ b ob, t.heap.get? b = some ob → hN.get? b = some ob)) Ee) PySem.F.called_set.init.plain PySem.F.entry_set_init (check_set_init_1 tS ?_)) fun r2 t2 hr2 => ?_
      · obtain ⟨ol, hol, hcl, nl, hdl⟩ := id isl
        obtain ⟨ocls, odict, odata, oslots⟩ := ol
        simp only at hcl hdl
        subst hcl
        subst hdl
        have hol2 : (t.heap.push { cls := .type "set", dict := none, data := .set #[] 0 (.fresh 0 0 (!wo.params.followText "set-order")) }).get? l = some { cls := .type "list", dict := odict, data := .seq its nl, slots := oslots } := Heap.get?_push_of_some _ hol
        have s1 := PySem.F.sub_list_set
        have s2 := PySem.F.sub_list_frozenset
        have nd : (Value.type "list" == Value.type "dict") = false := by decide
        have isl2 : (t.heap.push { cls := .type "set", dict := none, data := .set #[] 0 (.fresh 0 0 (!wo.params.followText "set-order")) }).IsList l its := ⟨_, hol2, rfl, nl, rfl⟩
        unfold Builtin.«set.__init__» noKeywords Builtin.Frozenset.updateFrom
        generalize hPI : pyIter = PIt
        wp_walk
        subst hPI
        refine wpAny_pyIter_list isl2 ?_
        refine wpAny_bind (wpAny_runValue ?_)
        have lS : l < t.heap.objs.size := Heap.lt_size hol
        have calm3 : Ar.in1.in1.in1.handled = none := by simp [calm]
        have neI : l ≠ (t.heap.push { cls := .type "set", dict := none, data := .set #[] 0 (.fresh 0 0 (!wo.params.followText "set-order")) }).objs.size := by
          rw [Heap.size_push]
          exact Nat.ne_of_lt (Nat.lt_succ_of_lt lS)
        have notF : t.heap.objs.size ∉ [(t.heap.push { cls := .type "set", dict := none, data := .set #[] 0 (.fresh 0 0 (!wo.params.followText "set-order")) }).objs.size, l] := by
          rw [Heap.size_push]
          simp only [List.mem_cons, List.not_mem_nil, or_false, not_or]
          exact ⟨Nat.ne_of_lt (Nat.lt_succ_self _), Nat.ne_of_gt lS⟩
        have vals : ∀ (i : Nat) (v : Value), its[i]? = some v → ∃ k u, ns[i]? = some k ∧ v = .int k u := fun i v hv => by
          have hi : i < ns.length := by
            rw [← len]
            exact (Array.getElem?_eq_some_iff.mp hv).1
          obtain ⟨u, e⟩ := PyProof.Rows.IntsAre.int_at intsA i v (by rw [Array.getElem?_toList]; exact hv)
          refine ⟨ns[i], u, List.getElem?_eq_getElem hi, ?_⟩
          rw [e, List.getD_eq_getElem?_getD, List.getElem?_eq_getElem hi] <;> rfl
        refine set_update_ints ((Walks.list calm3 _ l neI its).toS) t.heap.objs.size notF ns len few vals (its.size - 0) 0 _ (by omega) (Nat.zero_le _) ⟨⟨_, Heap.get?_push_size _ rfl, rfl, rfl⟩, (isl2.push _)⟩ ?first ?last
        case first =>
          exact ⟨0, Nat.le_refl 0, setR_new_at (Heap.get?_push_of_some _ hS)⟩
        case last =>
          intro t3 c3 mv hc3 hS3
          obtain ⟨hN, g3, d3, k3, os3⟩ := t3
          obtain rfl : g3 = t.gens := mv.gens
          obtain rfl : d3 = t.drawn := mv.drawn
          obtain rfl : os3 = t.os := mv.os
          show wpAny _ _ _ _ _ _
          refine wpAny_pure ?_
          show wpAny _ _ (ret Value.none) _ _ _
          rw [len] at hc3
          refine wpAny_pure ⟨rfl, hN, k3, c3, rfl, hS3, hc3, fun b ob e => ?_⟩
          have b0 : b < t.heap.objs.size := Heap.lt_size e
          have b2 : b ≠ (t.heap.push { cls := .type "set", dict := none, data := .set #[] 0 (.fresh 0 0 (!wo.params.followText "set-order")) }).objs.size := by
            rw [Heap.size_push]
            exact Nat.ne_of_lt (Nat.lt_succ_of_lt b0)
          exact mv.heap b ob (by simp only [List.mem_cons, List.not_mem_nil, or_false, not_or]; exact ⟨Nat.ne_of_lt b0, b2⟩) (Heap.get?_push_of_some _ (Heap.get?_push_of_some _ e))
      · cases r2 with
        | error e => exact hr2
        | ok fl2 =>
          cases fl2 with
          | ret r =>
            obtain ⟨rfl, hN, k, c2, rfl, hS2, hc2, hk2⟩ := hr2
            repeat (any_goals (first | assumption | wp_step))
            exact goal _ _ _ hS2 hc2 hk2
          | _ => exact hr2.elim
    | _ => exact hr.elim
end
/-- set(l), l a list of ints -/
def rSetI (K : PySem.W.Frag) (w : World) : List V → Hp → VK → Prop := fun vs H Q => ∃ (a : Addr) (ns : List Int), vs = [V.ref a] ∧ SqL K H a (ns.map V.int) ∧ ns.length + 1 < scanBound ∧ ∀ p c, H p = none → c ≤ ns.length → Q (.ref p) (upd H p (SetO w p (fun j => decide (j ∈ ns)) c))
theorem call_setI {X : Cx} (hc : X.calm = true) : CallR X (.type "set") (rSetI X.K X.w) := by
  intro pins s σ H vs us Q I r h
  obtain ⟨a, ns, rfl, hl, few, q⟩ := h
  rw [Vals.ref1 r]
  obtain ⟨its, rv, pl, _⟩ := I.list hl
  refine set_of_list ns (I.ok.hd hc) pl.isList (by rw [List.toList_toArray]; exact intsAre_of rv) few fun hN k c new hcl keep => ?_
  exact ⟨.ref _, upd H s.heap.objs.size (SetO X.w s.heap.objs.size (fun j => decide (j ∈ ns)) c), I.laid (t' := k) keep (Nat.le_refl _) (setO_new new), rfl, q _ c (I.hok.fresh (Nat.le_refl _)) hcl⟩
end CL

namespace CS
open PySem PySem.Spec PyProof.Rows L2
/-! ### more rules beside the layer's -/
section
variable {X : Cx}
/-- o.f as a target -/
def gFld (K : PySem.W.Frag) (to : TE) (f : Str) : TG := fun v σ H Q => to σ H fun x H1 => ∃ a C dx fs, x = .ref a ∧ H1 a = some (.ins C dx fs) ∧ Cls K C ∧ NoAttr K C f ∧ fs.length < 1000 ∧ Q σ (upd H1 a (.ins C dx (putF f v fs)))
theorem pg_fld {o : Expr} {f : Str} {pos : Pos} {to : TE} (ho : PE X o to) : PG X (.Attribute o f pos) (gFld X.K to f) := by
  refine ⟨fun pins s σ H v u Q I r h => ?_⟩
  rw [assign_Attribute]
  refine wpAny_bind (wpAny_holding (thn (ho.run pins s σ H _ I h) fun ov s1 ⟨x, H1, I1, r1, a, C, dx, fs, ex, ea, c, n, l, q⟩ => ?_))
  subst ex
  obtain rfl : ov = Value.ref a := r1
  refine wpAny_bind (wpAny_standAt (wpAny_bind (wpAny_holding (setattr_ok I1 ea c n l r fun s3 I3 => ?_))))
  exact wpAny_release ⟨σ, _, I3, q⟩
theorem pe_fldK {e : Expr} {f : Str} {pos : Pos} {ta : TE} (K : PySem.W.Frag) (hk : X.K = K) (he : PE X e ta) (hb : attributeBase e f X.env (eval e X.env) = eval e X.env) : PE X (.Attribute e f pos) (tFld K ta f) := by
  subst hk
  exact pe_fld he hb
def rLenQ (K : PySem.W.Frag) : List V → Hp → VK → Prop := fun xs H Q => ∃ p ys, xs = [.ref p] ∧ (SqL K H p ys ∨ SqT K H p ys) ∧ Q (.int ys.length) H
def rListQ (K : PySem.W.Frag) : List V → Hp → VK → Prop := fun xs H Q => ∃ p ys, xs = [.ref p] ∧ (SqL K H p ys ∨ SqT K H p ys) ∧ ∀ l, H l = none → Q (.ref l) (upd H l (.lst ys))
def rTupleQ (K : PySem.W.Frag) : List V → Hp → VK → Prop := fun xs H Q => ∃ p ys, xs = [.ref p] ∧ ((SqL K H p ys ∧ ∀ l, H l = none → Q (.ref l) (upd H l (.tup ys))) ∨ (SqT K H p ys ∧ Q (.ref p) H))
/-- // by a divisor of either sign -/
def CDivNW (_ j : Int) : Prop := j ≠ 0 ∧ j.natAbs.log2 < 9000
theorem op_fdivNW : OpR X (binaryOp .FloorDiv) (rI CDivNW fun i j => .int (i.fdiv j)) := opI fun _ _ _ _ _ _ _ hc q => floordiv_int hc.1 q (.inl (PyProof.noPylong_of_log2 hc.2))
theorem wide_divN {i j : Int} {b : Nat} (h : j ≠ 0) (hb : j.natAbs < 2 ^ b) (h0 : 0 < b) (h9 : b ≤ 9000) : CDivNW i j := ⟨h, Nat.lt_of_lt_of_le (PySem.Flt.log2_lt_of h0 hb) h9⟩
theorem kit_self {K : PySem.W.Frag} {C : Addr} : PySem.W.kitOne K (.ref C) (.ref C) = some true := by
  unfold PySem.W.kitOne
  rw [if_pos (by simp)]
theorem pe_revLK {e : Expr} {te : TE} {k : Nat} {p1 p2 p3 pos : Pos} (K : PySem.W.Frag) (hk : X.K = K) (he : PE X e te) : PE X (.Subscript e (.Slice none none (some (.UnaryOp .USub (.Constant (.int 1) k p1) p2)) p3) pos) (tRevL K te) := by
  subst hk
  exact pe_revL he
/-- x in s, a list or a tuple of data -/
def rInQ (K : PySem.W.Frag) : R2 := fun x y H Q => ∃ d ds, Dp K H x d ∧ (Dp K H y (.list ds) ∨ Dp K H y (.tuple ds)) ∧ SeqAt.shaped d = true ∧ SeqAt.shaped (.list ds) = true ∧ Q (.bl (ds.any fun z => PyData.eqv z d)) H
def rNotInQ (K : PySem.W.Frag) : R2 := fun x y H Q => ∃ d ds, Dp K H x d ∧ (Dp K H y (.list ds) ∨ Dp K H y (.tuple ds)) ∧ SeqAt.shaped d = true ∧ SeqAt.shaped (.list ds) = true ∧ Q (.bl (!ds.any fun z => PyData.eqv z d)) H
theorem op_inQ (hu : X.A.units + 65 < cLine) : OpR X (compareOp .In) (rInQ X.K) := by
  intro pins s σ H x y v u Q I rx ry h
  obtain ⟨d, ds, hd, he, sd, se, q⟩ := h
  obtain ⟨as, r1⟩ := Dp.reads I d x v hd rx
  rcases he with he | he
  · obtain ⟨bs, r2⟩ := Dp.reads I (.list ds) y u he ry
    exact SeqAt.in_list_reads r2 r1 (SeqAt.canLay_of_shaped se) (SeqAt.canLay_of_shaped sd) (room_in_shaped sd hu) ⟨.bl _, H, I, rfl, q⟩
  · obtain ⟨bs, r2⟩ := Dp.reads I (.tuple ds) y u he ry
    exact SeqAt.in_tuple_reads r2 r1 (SeqAt.canLay_of_shaped se) (SeqAt.canLay_of_shaped sd) (room_in_shaped sd hu) ⟨.bl _, H, I, rfl, q⟩
theorem op_notInQ (hu : X.A.units + 65 < cLine) : OpR X (compareOp .NotIn) (rNotInQ X.K) := by
  intro pins s σ H x y v u Q I rx ry h
  obtain ⟨d, ds, hd, he, sd, se, q⟩ := h
  obtain ⟨as, r1⟩ := Dp.reads I d x v hd rx
  rcases he with he | he
  · obtain ⟨bs, r2⟩ := Dp.reads I (.list ds) y u he ry
    exact SeqAt.notIn_list_reads r2 r1 (SeqAt.canLay_of_shaped se) (SeqAt.canLay_of_shaped sd) (room_in_shaped sd hu) ⟨.bl _, H, I, rfl, q⟩
  · obtain ⟨bs, r2⟩ := Dp.reads I (.tuple ds) y u he ry
    exact SeqAt.notIn_tuple_reads r2 r1 (SeqAt.canLay_of_shaped se) (SeqAt.canLay_of_shaped sd) (room_in_shaped sd hu) ⟨.bl _, H, I, rfl, q⟩
end
end CS

-- dictcomps
namespace CD
open PySem PySem.Spec PyProof.Rows L2
/-- d[key] = v where the key is a tuple, within a comprehension -/
theorem putT {X : Cx} {pins : List (Addr × Obj)} {σ : L2.St} {H : Hp} {s : Shared} {E : Value → Shared → Prop} {D b : Addr} {kvs : List (List L2.Key × V)} {k : List L2.Key} {v : V} {r : Value} {Q : Unit → Shared → Prop} (hu : X.A.units + 1 < cLine)
    (I : Inv X pins σ H s) (hD : H D = some (.dT kvs)) (hz : kvs.length < sizeLine) (hb : H b = some (.tup (k.map kV))) (rv : RelV v r) (h : ∀ s2, Inv X pins σ (upd H D (.dT (putK kvs k v))) s2 → Q () s2) : wpAny (model X.prog X.w) X.A (dictSet D (.ref b) r) Q E s := by
  obtain ⟨z, hd, xs, rel, dd⟩ := dt_of I.hok hD
  have l1 : xs.length ≤ sizeLine := Paired.length rel ▸ z
  have l2 : (putK kvs k v).length ≤ sizeLine := Nat.le_trans (length_putK kvs k v) hz
  have hroom : (tupleKind (mixKind X.prog X.w)).room X.A := Nat.lt_of_succ_lt hu
  refine wpAny_dictSet_heap (hsz := l1) hroom (key_of I.hok hb) dd fun g dg sb => h _ ?_
  obtain ⟨q, es, ep, hq, c2, c3, c4, _, c5⟩ := dg
  refine d_write I (by rw [hD]; exact True.intro) sb ⟨q, hq⟩ ⟨l2, hd, _, (rel.put k hb rv).keeps (fun c ys ec => ?_), q, es, ep, hq, c2, c3, c4, c5⟩
  rw [upd_ne (ne_of ec hD (fun z => nomatch z))]
  exact ec
section
variable {X : Cx}
/-- {k: v for target in iter if ..} where the keys are tuples -/
def tDcT (wi : TI) (g : TG) (tt : TT) (tk tv : TE) (vs : List Nat) : TE := fun σ H Q => wi σ H fun J H1 => ∀ D, H1 D = none → ∃ W : Nat → Nat → Hp → Prop, (∃ m, W 0 m (upd H1 D (.dT []))) ∧ ∀ i m H, W i m H →
  (J.stop i H ∧ Q (.ref D) H) ∨ (J.go i H ∧ ∃ Nx : Hp → Prop, (∀ H', Nx H' → ∃ m', m' < m ∧ W (i + 1) m' H') ∧ ∀ x H', J.yld i H x H' → g x (wipe σ vs) H' fun σ2 H2 => wipe σ2 vs = wipe σ vs ∧ tt σ2 H2 fun b H3 =>
    if b = true then tk σ2 H3 fun y H4 => tv σ2 H4 fun z H5 => ∃ kvs k b, y = .ref b ∧ H5 b = some (.tup (k.map kV)) ∧ H5 D = some (.dT kvs) ∧ kvs.length < sizeLine ∧ Nx (upd H5 D (.dT (putK kvs k z))) else Nx H3)
theorem dcT_run {pins : List (Addr × Obj)} {s : Shared} {σ : L2.St} {H : Hp} {Q : VK} {kx vx tg iter : Expr} {ifs : List Expr} {scope : Scope} {own : List (Str × Nat)} {pos pos' : Pos} {wi : TI} {g : TG} {tt : TT} {tk tv : TE} {use : Option (Value → Sem Unit)} {Qf : Value → Shared → Prop}
    (hu : X.A.units + 1 < cLine) (calm : X.calm = true) (nod : X.N.Nodup) (I : Inv X pins σ H s) (hi : PI X tg iter wi) (ok : BlkOk X.N X.env.scope scope own)
    (gg : ∀ (s : Shared) (H : Hp) (C : Addr) (cl : List (Str × Addr)) (fp : List Addr), PG (X.blk s H scope (compEnvC scope cl C X.env) fp) tg g)
    (gt : ∀ (s : Shared) (H : Hp) (C : Addr) (cl : List (Str × Addr)) (fp : List Addr), PTs (X.blk s H scope (compEnvC scope cl C X.env) fp) ifs tt)
    (gk : ∀ (s : Shared) (H : Hp) (C : Addr) (cl : List (Str × Addr)) (fp : List Addr), PE (X.blk s H scope (compEnvC scope cl C X.env) fp) kx tk)
    (gv : ∀ (s : Shared) (H : Hp) (C : Addr) (cl : List (Str × Addr)) (fp : List Addr), PE (X.blk s H scope (compEnvC scope cl C X.env) fp) vx tv) (fold : ∀ x, foldedSetIterable iter X.env x = pure x)
    (h : tDcT wi g tt tk tv (own.map (·.2)) σ H Q)
    (post : ∀ D C s' m H', Inv X pins σ H' s' → Q (.ref D) H' → s'.heap.Ns C m → FpOk X pins H' C → compPost (model X.prog X.w) X.A X.xe use Qf (.ref D) C (.ok .next) s') :
    wpAny (model X.prog X.w) X.A (comprehension (.DictComp kx vx [⟨tg, iter, ifs, 0⟩] scope pos) scope X.env pos' newDict false (eval iter X.env) use) Qf X.xe s := by
  have hasC : ∀ y ∈ scope.names, y.2 = .free → ∃ c, X.env.cells.lookup y.1 = some c := fun y hy e => I.ok.has _ (ok.free y hy e)
  refine wpAny_comprehension_free (use := use) rfl fold (closure_ok hasC) ok.kind (fun y hy e => by rw [ok.uniq y hy, e]) (thn (hi.run pins s σ H _ I h) fun xv s1 hx => thn hx fun itv s2 h2 => ?_)
  obtain ⟨it, fp, tn, J, H2, rfl, I2, T, at2, free2, q⟩ := h2
  refine wpAny_newObj_type (newEnv_comp ?_)
  generalize eD : s2.heap.objs.size = D
  have newD : H2 D = none := I2.hok.fresh (Nat.le_of_eq eD)
  obtain ⟨W, ⟨m0, w0⟩, turn⟩ := q D newD
  generalize es3 : ({ s2 with heap := s2.heap.push { cls := .type "dict", data := .dict #[] } } : Shared) = s3
  have hp3 : s3.heap = s2.heap.push { cls := .type "dict", data := .dict #[] } := by rw [← es3]
  generalize eH3 : upd H2 D (.dT []) = H3
  have I3 : Inv X pins σ H3 s3 := by
    subst es3 eH3
    refine I2.laid (t' := s2.toks) (fun b o e => Heap.get?_push_of_some _ e) (Nat.le_of_eq eD) ?_
    subst eD
    exact dt_empty s2.heap I2.big
  have low : ∀ b ∈ fp, b < s2.heap.objs.size := fun b hb => let ⟨_, e, _⟩ := T.obj _ _ at2 b hb; Heap.lt_size e
  have free3 : ∀ b ∈ fp, FpOk X pins H3 b ∧ b < s3.heap.objs.size := fun b hb => by
    have lt := low b hb
    refine ⟨⟨?_, (free2 b hb).2⟩, by rw [hp3, Heap.size_push]; exact Nat.lt_succ_of_lt lt⟩
    rw [← eH3, upd_ne (by rw [← eD]; exact Nat.ne_of_lt lt)]
    exact (free2 b hb).1
  have at3 : tn 0 s3.heap := T.keep _ _ _ at2 fun b _ o e => hp3 ▸ Heap.get?_push_of_some _ e
  have I4 := block_start I3 ok nod free3
  generalize eC : s3.heap.objs.size = C at I4
  generalize ecl : cellsFrom (C + 1) scope.names (cloFrom X.env.cells scope.names []) = cl at I4
  have pg := gg s3 H3 C cl fp
  have pt := gt s3 H3 C cl fp
  have pk := gk s3 H3 C cl fp
  have pv := gv s3 H3 C cl fp
  have none3 : ∀ b ∈ fp, H3 b = none := fun b hb => (free3 b hb).1.1
  subst ecl eC
  generalize ece : compEnvC scope (cellsFrom (s3.heap.objs.size + 1) scope.names (cloFrom X.env.cells scope.names [])) s3.heap.objs.size X.env = ce at I4 pg pt pk pv
  have loc : ce.locals = s3.heap.objs.size := by subst ece; rfl
  generalize es4 : ({ s3 with heap := pushCells (s3.heap.push { cls := .type "dict", data := .dict #[] }) scope.names } : Shared) = s4 at I4
  have at4 : tn 0 s4.heap := T.keep _ _ _ at3 fun b _ o e => es4 ▸ pushCells_keeps _ _ _ _ (Heap.get?_push_of_some _ e)
  have wEq : W 0 m0 H3 := eH3 ▸ w0
  have quiet : ∀ {τ : L2.St} {G : Hp} {t : Shared}, Inv (X.blk s3 H3 scope ce fp) [] τ G t → (∀ b ∈ fp, G b = none) → ∀ b ∈ fp, FpOk (X.blk s3 H3 scope ce fp) [] G b := fun {τ G t} J hn b hb =>
    ⟨hn b hb, (J.ok.exf b hb).1, J.ok.exfs b hb, .inl hb, (J.ok.exf b hb).2, fun p hp => absurd (show p ∈ ([] : List (Addr × Obj)) ++ [] from hp) (by simp)⟩
  have run : codeAny (model X.prog X.w) X.A (.compLoop (.DictComp kx vx [⟨tg, iter, ifs, 0⟩] scope pos) 0 (.ref it) (.ref D) ce) (compPost (model X.prog X.w) X.A X.xe use Qf (.ref D) s3.heap.objs.size) s4 := by
    refine compLoop_anyD (fun n t => ∃ i G, Inv (X.blk s3 H3 scope ce fp) [] (wipe σ (own.map (·.2))) G t ∧ tn i t.heap ∧ (∀ b ∈ fp, G b = none) ∧ W i n G) ?_ m0 ⟨0, H3, I4, at4, none3, wEq⟩
    rintro n t5 ⟨i, G5, I5, at5, n5, w5⟩
    rcases turn i n G5 w5 with ⟨stop, qq⟩ | ⟨go, Nx, hNx, step⟩
    · refine thnF (T.done (X.blk s3 H3 scope ce fp) rfl rfl rfl calm i [] t5 _ G5 (fun _ _ => False) I5 (quiet I5 n5) at5 stop) fun r t6 ⟨er, I6⟩ => ?_
      subst er
      have I7 : Inv X pins σ G5 t6 := I3.call' (ch := fp) I6.os I6.base I6.hok I6.bare fun b hb => let z := (free3 b hb).1.2; ⟨z.2.2.1, z.1, z.2.2.2.1, z.2.2.2.2⟩
      have nC : G5 s3.heap.objs.size = none := loc ▸ (show G5 ce.locals = none from I6.free)
      obtain ⟨m, hn, _⟩ := I6.loc
      replace hn : t6.heap.Ns s3.heap.objs.size m := loc ▸ (show t6.heap.Ns ce.locals m from hn)
      exact post D s3.heap.objs.size t6 m G5 I7 qq hn (I3.fpOk (Nat.le_refl _) nC)
    · refine thnF (T.item (X.blk s3 H3 scope ce fp) rfl rfl rfl calm i [] t5 _ G5 (fun _ _ => False) I5 (quiet I5 n5) at5 go) fun r t6 ⟨u, er, h6⟩ => ?_
      subst er
      refine thnF h6 fun _ t7 ⟨x, G7, I7, r7, y7, at7, n7⟩ => ?_
      refine thnF (pg.run _ t7 _ G7 x u _ (I7.pinned (quiet I7 n7) (T.obj _ _ at7)) r7 (step x G7 y7)) fun _ t8 ⟨σ8, G8, I8, hw, q8⟩ => ?_
      refine thnF (pt.run _ t8 σ8 G8 _ I8 q8) fun b t9 ⟨G9, I9, q9⟩ => ?_
      have fin : ∀ {t : Shared} {G : Hp}, Inv (X.blk s3 H3 scope ce fp) ([] ++ pinsAt fp t7.heap) σ8 G t → Nx G → ∃ m, m < n ∧ ∃ j G2, Inv (X.blk s3 H3 scope ce fp) [] (wipe σ (own.map (·.2))) G2 t ∧ tn j t.heap ∧ (∀ b ∈ fp, G2 b = none) ∧ W j m G2 := fun {t G} IG nx => by
        obtain ⟨m2, lt, w2⟩ := hNx G nx
        have stay : ∀ b ∈ fp, ∀ o, t7.heap.get? b = some o → t.heap.get? b = some o ∧ G b = none := fun b hb o e => ⟨(IG.pin (b, o) (List.mem_append_right _ (List.mem_append_right _ (mem_pinsAt hb e)))).1, (IG.pin (b, o) (List.mem_append_right _ (List.mem_append_right _ (mem_pinsAt hb e)))).2.1⟩
        have len : (wipe σ (own.map (·.2))).length = σ8.length := by rw [← hw, wipe_length]
        refine ⟨m2, lt, i + 1, G, (IG.unpinned (pins := [])).weak len (fun j v e => (wipe_some (hw ▸ e)).1), T.keep _ _ _ at7 fun b hb o e => (stay b hb o e).1, fun b hb => ?_, w2⟩
        obtain ⟨o, e, _⟩ := T.obj _ _ at7 b hb
        exact (stay b hb o e).2
      cases b with
      | false =>
        rw [if_neg Bool.false_ne_true] at q9 ⊢
        exact fin I9 q9
      | true =>
        rw [if_pos rfl] at q9 ⊢
        refine thnF (pk.run _ t9 σ8 G9 _ I9 q9) fun z ta ⟨yk, Ga, Ia, ra, qa⟩ => ?_
        refine thnF (pv.run _ ta σ8 Ga _ Ia qa) fun z2 tb ⟨yv, Gb, Ib, rb, kvs, k, bb, ek, hbb, hDb, hz, nx⟩ => ?_
        subst ek
        cases (show z = Value.ref bb from ra)
        exact putT (X := X.blk s3 H3 scope ce fp) hu Ib hDb hz hbb rb fun tc Ic => fin Ic nx
  subst ece
  exact codeAny_compStart_dict run (T.self X.A 0 _ _ _ at4 run)
theorem pe_dcT {kx vx tg iter : Expr} {ifs : List Expr} {scope : Scope} {own : List (Str × Nat)} {pos : Pos} {wi : TI} {g : TG} {tt : TT} {tk tv : TE} (hu : X.A.units + 1 < cLine) (calm : X.calm = true) (nod : X.N.Nodup) (hi : PI X tg iter wi) (ok : BlkOk X.N X.env.scope scope own)
    (gg : ∀ (s : Shared) (H : Hp) (C : Addr) (cl : List (Str × Addr)) (fp : List Addr), PG (X.blk s H scope (compEnvC scope cl C X.env) fp) tg g)
    (gt : ∀ (s : Shared) (H : Hp) (C : Addr) (cl : List (Str × Addr)) (fp : List Addr), PTs (X.blk s H scope (compEnvC scope cl C X.env) fp) ifs tt)
    (gk : ∀ (s : Shared) (H : Hp) (C : Addr) (cl : List (Str × Addr)) (fp : List Addr), PE (X.blk s H scope (compEnvC scope cl C X.env) fp) kx tk)
    (gv : ∀ (s : Shared) (H : Hp) (C : Addr) (cl : List (Str × Addr)) (fp : List Addr), PE (X.blk s H scope (compEnvC scope cl C X.env) fp) vx tv) (fold : ∀ x, foldedSetIterable iter X.env x = pure x := by intro _; rfl) :
    PE X (.DictComp kx vx [⟨tg, iter, ifs, 0⟩] scope pos) (tDcT wi g tt tk tv (own.map (·.2))) := by
  refine ⟨fun pins s σ H Q I h => ?_⟩
  rw [arm_eval_DictComp]
  refine dcT_run hu calm nod I hi ok gg gt gk gv fold h fun D C t m G IG q hn f => ⟨m, hn, fun g2 sb => ?_⟩
  exact ⟨.ref D, G, IG.turned (t' := t.toks) (fun b o hb e => (sb.2 b hb).trans e) f.1 f.2.1 f.2.2.2.1 f.2.2.2.2.1 f.2.2.2.2.2, rfl, q⟩
end
/-- over anything that is walked: the keys and values are known from the start -/
theorem dcT_it {J : It} {n : Nat} {G : Hp → Prop} {Y : Nat → Hp → V → Hp → Prop} (w : Walk J n G Y) {g : TG} {tt : TT} {tk tv : TE} {vs : List Nat} {σ : L2.St} {H1 : Hp} {D : Addr} {Qd : Hp → Prop} (Pv : Nat → Hp → Prop) (h0 : Pv 0 (upd H1 D (.dT []))) (hl : ∀ i H, i ≤ n → Pv i H → G H)
    (hs : ∀ i x H H2, i < n → Pv i H → Y i H x H2 → g x (wipe σ vs) H2 fun σ2 H3 => wipe σ2 vs = wipe σ vs ∧ tt σ2 H3 fun b H4 =>
      if b = true then tk σ2 H4 fun y H5 => tv σ2 H5 fun z H6 => ∃ kvs k b, y = .ref b ∧ H6 b = some (.tup (k.map kV)) ∧ H6 D = some (.dT kvs) ∧ kvs.length < sizeLine ∧ Pv (i + 1) (upd H6 D (.dT (putK kvs k z))) else Pv (i + 1) H4)
    (hd : ∀ H, Pv n H → Qd H) :
    ∃ W : Nat → Nat → Hp → Prop, (∃ m, W 0 m (upd H1 D (.dT []))) ∧ ∀ i m H, W i m H →
      (J.stop i H ∧ Qd H) ∨ (J.go i H ∧ ∃ Nx : Hp → Prop, (∀ H', Nx H' → ∃ m', m' < m ∧ W (i + 1) m' H') ∧ ∀ x H', J.yld i H x H' → g x (wipe σ vs) H' fun σ2 H2 => wipe σ2 vs = wipe σ vs ∧ tt σ2 H2 fun b H3 =>
        if b = true then tk σ2 H3 fun y H4 => tv σ2 H4 fun z H5 => ∃ kvs k b, y = .ref b ∧ H5 b = some (.tup (k.map kV)) ∧ H5 D = some (.dT kvs) ∧ kvs.length < sizeLine ∧ Nx (upd H5 D (.dT (putK kvs k z))) else Nx H3) := by
  refine ⟨fun i m H => m = n - i ∧ i ≤ n ∧ Pv i H, ⟨n, rfl, Nat.zero_le _, h0⟩, ?_⟩
  rintro i m H ⟨rfl, hi, p⟩
  have q := hl i H hi p
  by_cases c : i < n
  · exact .inr ⟨w.goes i H c q, Pv (i + 1), fun H2 p2 => ⟨n - (i + 1), by omega, rfl, c, p2⟩, fun x H2 y => hs i x H H2 c p (w.yields i H x H2 c q y)⟩
  · obtain rfl : i = n := by omega
    exact .inl ⟨w.stops H q, hd H p⟩
/-- kvs with the pairs of more put in -/
def mergeT (kvs more : List (List L2.Key × V)) : List (List L2.Key × V) := more.foldl (fun acc p => putK acc p.1 p.2) kvs
theorem mergeT_len (kvs : List (List L2.Key × V)) : ∀ more : List (List L2.Key × V), (mergeT kvs more).length ≤ kvs.length + more.length := fun more => by
  induction more generalizing kvs with
  | nil => exact Nat.le_refl _
  | cons p r ih =>
    have a := ih (putK kvs p.1 p.2)
    have b := length_putK kvs p.1 p.2
    simp only [mergeT, List.foldl_cons, List.length_cons] at *
    omega
theorem KT.merge {H : Hp} : ∀ {more : List (List L2.Key × V)} {ys : List (List L2.Key × Addr × Value)} {kvs : List (List L2.Key × V)} {xs : List (List L2.Key × Addr × Value)}, KT H more ys → KT H kvs xs → KT H (mergeT kvs more) (storedAllH xs ys)
  | _, _, _, _, .nil, h => h
  | (k, v) :: _, (k2, b, u) :: _, kvs, xs, .cons ⟨e, hb, rv⟩ t, h => by
    obtain rfl : k = k2 := e
    exact KT.merge (kvs := putK kvs k v) (xs := storedH xs k b u) t (h.put k hb rv)
section
variable {X : Cx}
/-- d.update(e), both keyed by tuples -/
def rUpdT : V → List V → Hp → VK → Prop := fun x xs H Q => ∃ (a b : Addr) (kvs more : List (List L2.Key × V)), x = .ref a ∧ xs = [.ref b] ∧ a ≠ b ∧ H a = some (.dT kvs) ∧ H b = some (.dT more) ∧ (kvs ≠ [] ∨ more = []) ∧ kvs.length + more.length ≤ sizeLine ∧ Q .non (upd H a (.dT (mergeT kvs more)))
theorem mt_updT (hu : X.A.units + 1 < cLine) : MtR X "dict.update" rUpdT := by
  intro pins s σ H x xs v us Q I rx rxs h
  obtain ⟨a, b, kvs, more, rfl, rfl, ne, ha, hb, nn, le, q⟩ := h
  cases rx
  cases rxs with
  | cons r1 r2 =>
    cases r1
    cases r2
    obtain ⟨z, hd, xs1, rel, dd⟩ := dt_of I.hok ha
    obtain ⟨z2, hd2, xs2, rel2, dd2⟩ := dt_of I.hok hb
    have l1 : kvs.length = xs1.length := Paired.length rel
    have l2 : more.length = xs2.length := Paired.length rel2
    refine call_update_dictH (tupleKind_room_in1 hu) ne hd2 dd dd2 (nn.imp (fun nn e => nn (List.length_eq_zero_iff.mp (by rw [l1, e]; rfl))) fun e => (by
      have e2 : xs2 = [] := List.length_eq_zero_iff.mp (by rw [← l2, e]; rfl)
      rw [e2]
      exact ⟨(fun x hx => by cases hx), .nil⟩)) (by omega) fun h' dd' _ hs => ?_
    obtain ⟨o, es, ep, hq, h2, h3, h4, _, h5⟩ := dd'
    refine ⟨.non, _, d_write (ob := .dT (mergeT kvs more)) (t' := s.toks) I (by rw [ha]; exact True.intro) hs ⟨o, hq⟩ ⟨Nat.le_trans (mergeT_len kvs more) le, hd, _, (KT.merge rel2 rel).keeps (fun c ys ec => (by rw [upd_ne (ne_of ec ha (fun z => nomatch z))]; exact ec)), o, es, ep, hq, h2, h3, h4, h5⟩, rfl, q⟩
end
end CD

namespace CD
open PySem PySem.Spec PyProof.Rows L2
/-- the view d.values() -/
def valsO (p d : Addr) : HO := .ext fun h => h.IsValuesView p d
theorem DTpget {α β : Type} {F : α → β → Prop} : ∀ {l₁ : List α} {l₂ : List β} {j : Nat} {x : β}, Paired F l₁ l₂ → l₂[j]? = some x → ∃ y, l₁[j]? = some y ∧ F y x
  | _, _, _, _, .nil, h => by simp at h
  | _, _, 0, _, .cons r _, h => ⟨_, rfl, by obtain rfl := Option.some.inj h; exact r⟩
  | _, _, j + 1, _, .cons _ t, h => DTpget (j := j) t h
section
variable {X : Cx}
def rValuesT : V → List V → Hp → VK → Prop := fun x xs H Q => ∃ (a : Addr) (kvs : List (List L2.Key × V)), x = .ref a ∧ xs = [] ∧ H a = some (.dT kvs) ∧ ∀ p, H p = none → Q (.ref p) (upd H p (valsO p a))
theorem mt_valuesT : MtR X "dict.values" rValuesT := by
  intro pins s σ H x xs v us Q I rx rxs h
  obtain ⟨a, kvs, rfl, rfl, ha, q⟩ := h
  cases rx
  cases rxs
  obtain ⟨z, hd, ys, rel, o, es, ep, ho, hx, hdat, _⟩ := dt_of I.hok ha
  have raw : s.heap.DictRaw a es ep := ⟨o, ho, hx, hdat⟩
  refine call_meetsIn PySem.F.slot_dict_values raw.typeIs PySem.F.entry_dict_values (PySem.F.args_dict_values_1 _) (meets_dict_values_raw a hd) ⟨⟨es, ep, raw⟩, ?_⟩
  have new : ObjOk X.prog X.w (upd H s.heap.objs.size (valsO s.heap.objs.size a)) (s.heap.push { cls := .type "dict_values", data := .fields #[.ref a] }) s.heap.objs.size (valsO s.heap.objs.size a) :=
    ⟨⟨_, Heap.get?_push_size _ rfl, rfl, rfl⟩, ⟨_, Heap.get?_push_size _ rfl⟩, fun h1 h2 y k => let ⟨u, hu, r⟩ := y; ⟨u, k u hu, r⟩⟩
  exact ⟨.ref s.heap.objs.size, _, I.laid (t' := s.toks) (fun b u e => Heap.get?_push_of_some _ e) (Nat.le_refl _) new, rfl, q _ (I.hok.fresh (Nat.le_refl _))⟩
/-- max(d.values()), whole numbers -/
def rMaxT : List V → Hp → VK → Prop := fun xs H Q => ∃ (p a : Addr) (kvs : List (List L2.Key × V)) (is : List Int), xs = [.ref p] ∧ H p = some (valsO p a) ∧ H a = some (.dT kvs) ∧ kvs.map (·.2) = is.map V.int ∧ is ≠ [] ∧ ∀ m, m ∈ is → (∀ j ∈ is, j ≤ m) → Q (.int m) H
theorem cr_maxT (calm : X.calm = true) : CallR X (.builtin "max") rMaxT := by
  intro pins s σ H xs us Q I r h
  obtain ⟨p, a, kvs, is, rfl, hp, ha, hv, hne, q⟩ := h
  rw [Vals.ref1 r]
  obtain ⟨z, hd, ys, rel, o, es, ep, ho, hx, hdat, hes, _⟩ := dt_of I.hok ha
  have raw : s.heap.DictRaw a es ep := ⟨o, ho, hx, hdat⟩
  have view : s.heap.IsValuesView p a := (show ObjOk X.prog X.w H s.heap p (valsO p a) from I.hok p _ hp).1
  have l1 : es.size = ys.length := by rw [← Array.length_toList, hes, List.length_map]
  have l2 : kvs.length = ys.length := Paired.length rel
  have l3 : is.length = kvs.length := by
    have := congrArg List.length hv
    rw [List.length_map, List.length_map] at this
    exact this.symm
  have hval : ∀ (i : Nat) (v : Value), (∃ hi : i < es.size, v = es[i].val) → ∃ t, v = Value.int (is.getD i 0) t := fun i v ⟨hi, e⟩ => by
    subst e
    have iy : i < ys.length := by omega
    have e1 : es[i] = entryOfKey (tupleKind (mixKind X.prog X.w)) ys[i] := by
      have : es.toList[i]? = some es[i] := by rw [Array.getElem?_toList, Array.getElem?_eq_getElem hi]
      rw [hes, List.getElem?_map, List.getElem?_eq_getElem iy] at this
      exact (Option.some.inj this).symm
    obtain ⟨y, hy, f1, f2, f3⟩ := DTpget rel (List.getElem?_eq_getElem iy)
    have e2 : (kvs.map (·.2))[i]? = some y.2 := by rw [List.getElem?_map, hy]; rfl
    rw [hv, List.getElem?_map] at e2
    obtain ⟨j, hj, e3⟩ := Option.map_eq_some_iff.mp e2
    rw [← e3] at f3
    obtain ⟨t, f3⟩ := f3
    refine ⟨t, ?_⟩
    rw [e1, List.getD_eq_getElem?_getD, hj]
    exact f3
  refine call_max_walk (wpAny_pyIter_values_raw view raw ?_)
  generalize hI : s.heap.objs.size = it
  have al : a < s.heap.objs.size := Heap.lt_size ho
  generalize hh : s.heap.push { cls := .type "dict_valueiterator", data := .fields #[.ref a, .int 0 0, .int es.size 0, .int ep 0] } = h2
  have keep : ∀ b u, s.heap.get? b = some u → h2.get? b = some u := fun b u e => hh ▸ Heap.get?_push_of_some _ e
  have raw2 : h2.DictRaw a es ep := ⟨o, keep _ _ ho, hx, hdat⟩
  have at2 : h2.get? it = some { cls := .type "dict_valueiterator", data := .fields #[.ref a, .int 0 0, .int es.size 0, .int ep 0] } := by rw [← hh, ← hI]; exact Heap.get?_push_size _ rfl
  have sz2 : h2.objs.size = it + 1 := by rw [← hh, Heap.size_push, hI]
  have nea : a ≠ it := by rw [← hI]; exact Nat.ne_of_lt al
  refine ⟨it, _, _, _, _, _, _, rfl, Walks.rawValues (A := X.A.in1) (I.ok.hd calm) it a nea es ep, ⟨⟨_, at2, rfl, rfl⟩, raw2⟩, fun b hb => ?_, by have := List.length_pos_iff.mpr hne; omega, CmpOf.ints_gt (fun i => is.getD i 0) hval, fun v h3 tk hP hk => ?_⟩
  · show b < h2.objs.size
    rw [sz2]
    rcases List.mem_cons.mp hb with e | hb
    · rw [e]
      exact Nat.lt_succ_self _
    · rw [List.mem_singleton.mp hb, ← hI]
      exact Nat.lt_succ_of_lt al
  · obtain ⟨t, rfl⟩ := hval _ v hP
    obtain ⟨b1, b2⟩ := argBest_gt (fun i => is.getD i 0) (es.size - 1)
    have inb : argBest (fun i j => decide (is.getD i 0 > is.getD j 0)) (es.size - 1) < is.length := by
      have := List.length_pos_iff.mpr hne
      omega
    refine ⟨.int _, H, I.kept (t' := tk) fun b u e => hk b u (fun hm => ?_) (keep b u e), ⟨t, rfl⟩, q _ ?_ fun j hj => ?_⟩
    · have e1 : b = it := List.mem_singleton.mp hm
      have e2 := Heap.lt_size e
      rw [e1, hI] at e2
      exact absurd e2 (Nat.lt_irrefl _)
    · rw [List.getD_eq_getElem?_getD, List.getElem?_eq_getElem inb]
      exact List.getElem_mem inb
    · obtain ⟨i, hi⟩ := List.mem_iff_getElem?.mp hj
      have il := (List.getElem?_eq_some_iff.mp hi).1
      have := b2 i (by omega)
      rw [List.getD_eq_getElem?_getD, hi] at this
      exact this
end
end CD

namespace CD
open PySem PySem.Spec PyProof.Rows L2
/-- a slice's part that may be None -/
def tPartO (t : TE) : TO := fun σ H Q => t σ H fun x H1 => (x = .non ∧ Q none H1) ∨ ∃ i, x = .int i ∧ Q (some i) H1
theorem po_opt {X : Cx} {e : Expr} {te : TE} (h : PE X e te) : PO X (some e) (tPartO te) := by
  refine ⟨fun pins s σ H Q I hw => ?_⟩
  rw [evalPart_some]
  refine thn (h.run pins s σ H _ I hw) fun u s1 ⟨x, H1, I1, r1, q1⟩ => ?_
  rcases q1 with ⟨rfl, q⟩ | ⟨i, rfl, q⟩
  · obtain rfl : u = Value.none := r1
    exact ⟨none, H1, I1, .none, q⟩
  · obtain ⟨t, rfl⟩ := r1
    exact ⟨some i, H1, I1, .int i t, q⟩
end CD

namespace CD
open PySem PySem.Spec PyProof.Rows L2
/-! ### dict(xs) of a list of pairs whose keys are tuples -/
def PrT (H : Hp) (x : V) (kv : List L2.Key × V) : Prop := ∃ p b, x = V.ref p ∧ H p = some (.tup [.ref b, kv.2]) ∧ H b = some (.tup (kv.1.map kV))
section
variable {X : Cx}
def rDictT (K : PySem.W.Frag) : List V → Hp → VK → Prop := fun xs H Q => ∃ (a : Addr) (ps : List V) (kvs : List (List L2.Key × V)), xs = [.ref a] ∧ SqL K H a ps ∧ Paired (PrT H) ps kvs ∧ ∀ d, H d = none → Q (.ref d) (upd H d (.dT (mergeT [] kvs)))
theorem pairs_ofT {pins : List (Addr × Obj)} {σ : L2.St} {H : Hp} {s : Shared} (I : Inv X pins σ H s) : ∀ {ps : List V} {us : List Value} {kvs : List (List L2.Key × V)}, Paired (PrT H) ps kvs → Vals ps us →
    ∃ ys : List (List L2.Key × Addr × Value), KT H kvs ys ∧ ys.length = us.length ∧ ∀ (j : Nat) (y : List L2.Key × Addr × Value), ys[j]? = some y → ∃ p, us[j]? = some (Value.ref p) ∧ s.heap.IsTuple p #[.ref y.2.1, y.2.2]
  | _, _, _, .nil, r => by
    cases r
    exact ⟨[], .nil, rfl, fun j q e => by simp at e⟩
  | _, _, _, .cons (a := x) (b := kv) h t, r => by
    obtain ⟨p, b, rfl, hp, hb⟩ := h
    cases r with
    | cons r1 r2 =>
      cases r1
      obtain ⟨ys, rk, hl, hh⟩ := pairs_ofT I t r2
      obtain ⟨its, rv, ht, _⟩ := I.tuple (SqT.of hp)
      obtain ⟨u, y, ei, ru, ry⟩ := vals2 rv
      subst ei
      cases ru
      refine ⟨(kv.1, b, y) :: ys, .cons ⟨rfl, hb, ry⟩ rk, by rw [List.length_cons, List.length_cons, hl], fun j q e => ?_⟩
      cases j with
      | zero =>
        obtain rfl := Option.some.inj e
        obtain ⟨o, ho, hc, n, hd⟩ := ht
        exact ⟨p, rfl, o, ho, hc, n, hd⟩
      | succ j =>
        obtain ⟨p2, e1, e2⟩ := hh j q (by simpa using e)
        exact ⟨p2, by simpa using e1, e2⟩
theorem call_dictT (hcalm : X.calm = true) (hu : X.A.units + 65 < cLine) : CallR X (.type "dict") (rDictT X.K) := by
  intro pins s σ H xs us Q I r q
  obtain ⟨a, ps, kvs, rfl, hq, hp, q⟩ := q
  obtain ⟨u, rfl, rx⟩ := vals1 r
  cases rx
  obtain ⟨its, rv, pl, hz⟩ := I.list hq
  obtain ⟨ys, rk, hl, hpr⟩ := pairs_ofT I hp rv
  obtain ⟨o, n, ho, hc, hd, hdat⟩ := pl
  let Ts : Nat → Addr := fun j => match its[j]? with
    | some (.ref p) => p
    | _ => 0
  let prs : List (Value × Value) := ys.map fun y => (Value.ref y.2.1, y.2.2)
  have lp : prs.length = its.length := by simp [prs, hl]
  have hTs : ∀ {j : Nat} {p : Addr}, its[j]? = some (.ref p) → Ts j = p := fun {j p} e => by
    show (match its[j]? with | some (.ref p) => p | _ => 0) = p
    rw [e]
  have P := PairArg.list (prog := X.prog) (w := X.w) a its.toArray Ts prs
  have ok : PlainSeq "list" s.heap a its.toArray ∧ PairItems s.heap its.toArray Ts prs := by
    refine ⟨⟨o, n, ho, hc, hd, hdat⟩, by rw [List.size_toArray, lp], fun j k v e => ?_⟩
    have e2 : (ys.map fun y => (Value.ref y.2.1, y.2.2))[j]? = some (k, v) := e
    rw [List.getElem?_map] at e2
    obtain ⟨y, hy, ey⟩ := Option.map_eq_some_iff.mp e2
    obtain ⟨p, h1, h2⟩ := hpr j y hy
    obtain ⟨rfl, rfl⟩ := Prod.mk.inj ey
    rw [hTs h1]
    exact ⟨by simpa using h1, .inl h2⟩
  have hroom : (tupleKind (mixKind X.prog X.w)).room X.A.in1.in1 := by
    show X.A.units + 1 + 1 < cLine
    omega
  have keyed : ∀ x ∈ ys, (tupleKind (mixKind X.prog X.w)).is s.heap x.1 x.2.1 := by
    clear hpr P ok hl lp q hp
    intro x hx
    obtain ⟨i, hi⟩ := List.mem_iff_getElem?.mp hx
    induction rk generalizing i with
    | nil => cases hx
    | cons h t ih =>
      rcases List.mem_cons.mp hx with rfl | hx2
      · obtain ⟨h1, h2, _⟩ := h
        exact key_of I.hok (by rw [← h1]; exact h2)
      · obtain ⟨i2, hi2⟩ := List.mem_iff_getElem?.mp hx2
        exact ih hx2 i2 hi2
  refine call_dict_pairsH (knd := tupleKind (mixKind X.prog X.w)) (ps := ys) P (I.ok.hd hcalm) hroom ok ⟨by simp [prs], fun i key v e => ?_⟩ (fun h' hk x hx => ?_) (by rw [lp, ← rv.length]; exact hz) fun h' tk dd k => ?_
  · have e2 : (ys.map fun y => (Value.ref y.2.1, y.2.2))[i]? = some (key, v) := e
    rw [List.getElem?_map] at e2
    obtain ⟨⟨y1, y2, y3⟩, hy, ey⟩ := Option.map_eq_some_iff.mp e2
    obtain ⟨rfl, rfl⟩ := Prod.mk.inj ey
    exact ⟨y1, y2, hy, rfl⟩
  · exact tupleKind_stays.stays (fun b o vs n e _ => hk b o (Nat.ne_of_lt (Heap.lt_size e)) (by simp) e) (keyed x hx)
  · have hm : (s.heap.objs.size == sysModules) = false := beq_eq_false_iff_ne.mpr (Nat.ne_of_gt I.big)
    have fr : H s.heap.objs.size = none := I.hok.fresh (Nat.le_refl _)
    have hlen : (mergeT [] kvs).length ≤ sizeLine := by
      have h1 := mergeT_len [] kvs
      have h2 : kvs.length = ys.length := Paired.length rk
      rw [List.length_nil, h2, hl] at h1
      have : its.length ≤ sizeLine := by rw [← rv.length]; exact hz
      omega
    obtain ⟨o2, es, ep, hq2, h2, h3, h4, _, h5⟩ := dd
    refine ⟨.ref s.heap.objs.size, upd H s.heap.objs.size (.dT (mergeT [] kvs)), I.laid (t' := tk) (fun b o e => k b o (by simp) e) (Nat.le_refl _) (show ObjOk X.prog X.w _ _ _ (.dT (mergeT [] kvs)) from ⟨hlen, hm, storedAllH [] ys, (KT.merge rk .nil).keeps (fun c zs ec => by rw [upd_ne (ne_of_none ec fr)]; exact ec), o2, es, ep, hq2, h2, h3, h4, h5⟩), rfl, q _ fr⟩
end
end CD

-- dictcomps
namespace CD
open PySem PySem.Spec PyProof.Rows L2
/-! ### d != {} -/
section
variable {prog : Program} {w : World} {A : Around} {E : Value → Shared → Prop} {s : Shared}
theorem same_empty {nm : String} {a b : Addr} {es es2 : Array DictEntry} {ep ep2 : Nat} {Q : Bool → Shared → Prop} (ha : (a == sysModules) = false) (hb : (b == sysModules) = false)
    (da : s.heap.DictRaw a es ep) (db : s.heap.DictRaw b es2 ep2) (h0 : es2.size = 0) (h : Q (es.size == 0) s) : wpAny (model prog w) A (Builtin.Dict.samePairs nm a b) Q E s := by
  obtain ⟨oa, hoa, _, hda⟩ := da
  obtain ⟨ob, hob, _, hdb⟩ := db
  unfold Builtin.Dict.samePairs Builtin.Dict.showsAll
  rw [if_neg (show ¬ (a == sysModules) = true by rw [ha]; exact Bool.false_ne_true), if_neg (show ¬ (b == sysModules) = true by rw [hb]; exact Bool.false_ne_true)]
  refine wpAny_bind (wpAny_pure (wpAny_bind (wpAny_pure ?_)))
  refine wpAny_bind (wpAny_dictEntries hoa hda ?_)
  dsimp only
  refine wpAny_bind (wpAny_dictEntries hob hdb ?_)
  by_cases hsz : es.size = 0
  case neg =>
    rw [if_pos (by simpa [h0] using hsz)]
    have hbf : (es.size == 0) = false := by simpa using hsz
    rw [hbf] at h
    exact wpAny_bind (wpAny_rule (wpAny_pure h))
  case pos =>
    rw [hsz] at h
    rw [if_neg (by rw [hsz, h0]; simp)]
    refine wpAny_bind (wpAny_dictEpoch hoa hda ?_)
    refine wpAny_bind ?_
    rw [Std.Legacy.Range.forIn_eq_forIn_range']
    simp only [Std.Legacy.Range.size, Nat.sub_zero, Nat.add_sub_cancel, Nat.div_one]
    refine wpAny_forIn_list _ (fun rest q s' => s' = s ∧ q = (none, ()) ∧ rest = []) _ ?_ ?_ _ _ ⟨rfl, rfl, by rw [hsz]; rfl⟩
    · rintro x rest q s' ⟨_, _, hr⟩
      cases hr
    · rintro q s' ⟨rfl, rfl, _⟩
      exact wpAny_pure h
end
section
variable {X : Cx}
def rNeE : R2 := fun x y H Q => ∃ (a b : Addr) (kvs : List (List L2.Key × V)), x = .ref a ∧ y = .ref b ∧ H a = some (.dT kvs) ∧ H b = some (.dK []) ∧ Q (.bl (!decide (kvs = []))) H
theorem op_neE (hu : X.A.units + 65 < cLine) : OpR X (compareOp .NotEq) rNeE := by
  intro pins s σ H x y v u Q I rx ry h
  obtain ⟨a, b, kvs, rfl, rfl, ea, eb, q⟩ := h
  obtain rfl : v = Value.ref a := rx
  obtain rfl : u = Value.ref b := ry
  obtain ⟨z, hd, xs, rel, o, es, ep, ho, hx, hdat, hes, hxs, hnod⟩ := dt_of I.hok ea
  have raw : s.heap.DictRaw a es ep := ⟨o, ho, hx, hdat⟩
  obtain ⟨_, yb, vb, rb, db⟩ := (show ObjOk X.prog X.w H s.heap b (.dK []) from I.hok b _ eb)
  have lb : vb = [] := by
    have := rb.length
    cases vb with
    | nil => rfl
    | cons _ _ => cases this
  subst lb
  obtain ⟨ob, es2, ep2, hob, hcb, hdb, hkb, hpb, _⟩ := id db
  have raw2 : s.heap.DictRaw b es2 ep2 := ⟨ob, hob, hcb, hdb⟩
  have h0 : es2.size = 0 := by
    have := hpb.length
    rw [List.length_nil] at this
    rw [← Array.length_toList]
    exact this
  have l1 : es.size = xs.length := by rw [← Array.length_toList, hes, List.length_map]
  have l2 : kvs.length = xs.length := Paired.length rel
  refine wpAny_richCompare_same_room (op := .NotEq) raw.typeIs raw2.typeIs PySem.F.slot_dict_ne (wpAny_call_entry PySem.F.slot_dict_ne raw.typeIs PySem.F.entry_dict_ne ?_ (PySem.F.args_dict_ne_2 _ _)) (by omega)
  show wpAny _ _ (Builtin.Dict.dictSlotArgs "__ne__" ⟨[.ref a, .ref b], []⟩ >>= _) _ _ s
  refine wpAny_bind ?_
  unfold Builtin.Dict.dictSlotArgs
  refine wpAny_bind (wpAny_notOrdered_dict raw.typeIs ?_)
  show wpAny _ _ (pure (Value.ref a, Value.ref b)) _ _ s
  refine wpAny_pure ?_
  refine wpAny_bind (wpAny_isInstance (T := "dict") raw2.typeIs PySem.F.sub_dict_dict ?_)
  simp only [Bool.not_true, Bool.false_eq_true, if_false]
  refine wpAny_bind (wpAny_pure (wpAny_bind (wpAny_pure ?_)))
  refine wpAny_bind (same_empty hd yb raw raw2 h0 ?_)
  refine wpAny_pure ⟨_, rfl, ?_, ?_⟩
  · exact fun x => nomatch x
  · have e : (es.size == 0) = decide (kvs = []) := by
      rw [l1, ← l2]
      cases kvs <;> simp
    rw [e]
    exact fin_bl I q (by simp)
end
end CD

-- dictcomps
namespace CD
open PySem PySem.Spec PyProof.Rows L2
/-! ### for k, v in d.items(): d with tuples for keys -/
section
variable {X : Cx} {pins : List (Addr × Obj)} {σ : L2.St} {H : Hp} {s : Shared} {d : Addr} {o : Obj}
theorem frzT2 {kvs : List (List L2.Key × V)} (I : Inv X pins σ H s) (h : H d = some (.frz o (.dT kvs))) :
    (d == sysModules) = false ∧ s.heap.get? d = some o ∧ o.ExactDict ∧ ∃ (es : Array DictEntry) (ep : Nat), o.data = .dict es ep ∧ es.size = kvs.length ∧
      ∀ (i : Nat) (k : List L2.Key) (v : V), kvs[i]? = some (k, v) → ∃ (en : DictEntry) (q : Addr), es[i]? = some en ∧ en.key = .ref q ∧ H q = some (.tup (k.map kV)) ∧ RelV v en.val := by
  obtain ⟨hd, z, hs, xs, pr, o', es, ep, ho, hx, hdt, he, _⟩ := I.hok d _ h
  rw [hd] at ho
  cases ho
  refine ⟨hs, hd, hx, es, ep, hdt, ?_, fun i k v e => ?_⟩
  · have l1 : es.size = xs.length := size_of_entries he
    have l2 : kvs.length = xs.length := Paired.length pr
    omega
  · obtain ⟨b, hb, e1, e2, e3⟩ := paired_get pr e
    have q := entry_at he i
    rw [hb] at q
    exact ⟨_, b.2.1, q, rfl, e2, e3⟩
end
def Itit (d : Addr) (o : Obj) (kvs : List (List L2.Key × V)) : It :=
  ⟨fun i H => H d = some (.frz o (.dT kvs)) ∧ i < kvs.length, fun i H x H' => ∃ (T q : Addr) (k : List L2.Key) (v : V), kvs[i]? = some (k, v) ∧ x = .ref T ∧ H T = none ∧ H q = some (.tup (k.map kV)) ∧ H' = upd H T (.tup [.ref q, v]), fun i H => H d = some (.frz o (.dT kvs)) ∧ kvs.length ≤ i⟩
theorem walk_itemsT {d : Addr} {o : Obj} {kvs : List (List L2.Key × V)} : Walk (Itit d o kvs) kvs.length (fun H => H d = some (.frz o (.dT kvs)))
    (fun i H x H' => ∃ (T q : Addr) (k : List L2.Key) (v : V), kvs[i]? = some (k, v) ∧ x = .ref T ∧ H T = none ∧ H q = some (.tup (k.map kV)) ∧ H' = upd H T (.tup [.ref q, v])) :=
  ⟨fun _ _ hi q => ⟨q, hi⟩, fun _ q => ⟨q, Nat.le_refl _⟩, fun _ _ _ _ _ _ y => y⟩
theorem turn_itemsT {P : Program} {w : World} {K : PySem.W.Frag} {d : Addr} {o : Obj} {es : Array DictEntry} {ep : Nat} {kvs : List (List L2.Key × V)} {elts : List Expr} {kk : Nat} {tpos : Pos} (it : Addr) (hod : o.data = .dict es ep) :
    Turn P w K (.Tuple elts kk tpos) (Itit d o kvs) [it] it (fun i h => ∃ ok ov, IsItemIter h it d i kvs.length ep ok ov) where
  mem := by simp
  obj := fun i h st b hb => by
    have e : b = it := by simpa using hb
    subst e
    obtain ⟨ok, ov, e⟩ := st
    exact ⟨_, e, fun v z => nomatch z⟩
  keep := fun i h h' st k => let ⟨ok, ov, e⟩ := st; ⟨ok, ov, k it (by simp) _ e⟩
  item := by
    intro X hP hw hK hc i pins s σ H E I hf st hg
    subst hP hw hK
    obtain ⟨hd, hi⟩ := hg
    obtain ⟨hs, hgd, hx, es', ep', hdt, hsz, ent⟩ := frzT2 I hd
    obtain ⟨rfl, rfl⟩ := dict_ep hdt hod
    obtain ⟨⟨k, v⟩, hkv⟩ : ∃ p, kvs[i]? = some p := ⟨kvs[i], List.getElem?_eq_getElem hi⟩
    obtain ⟨en, q, hen, hkey, hq, rv⟩ := ent i k v hkv
    obtain ⟨ok, ov, he⟩ := st
    rw [← hsz] at he
    have hlt : it < s.heap.objs.size := Heap.lt_size he
    have raw : s.heap.DictRaw d es ep := ⟨o, hgd, hx, hod⟩
    have hi2 : i < es.size := by omega
    have een : es[i] = en := Option.some.inj ((Array.getElem?_eq_getElem hi2).symm.trans hen)
    refine wpAny_pyNext_items_item_raw he raw hi2 fun h' ho hT hz hk => ?_
    rw [een, hkey] at ho hT
    refine ⟨_, rfl, wpAny_letOwnedTupleGo_items (s := { s with heap := h' }) ho fun h'' he' sb => ?_⟩
    have hT2 : h''.get? s.heap.objs.size = some { cls := .type "tuple", data := .seq #[.ref q, en.val] } := (sb.2 _ (Nat.ne_of_gt hlt)).trans hT
    have new : ObjOk X.prog X.w (upd H s.heap.objs.size (.tup [.ref q, v])) h'' s.heap.objs.size (.tup [.ref q, v]) :=
      ⟨by show 2 ≤ sizeLine; decide, [.ref q, en.val], .cons rfl (.cons rv .nil), ⟨_, hT2, rfl, _, rfl⟩⟩
    have I1 : Inv X pins σ (upd H s.heap.objs.size (.tup [.ref q, v])) { s with heap := h'' } :=
      I.turnedNew (t' := s.toks) (ch := [it]) (fun b ob hb e => (sb.2 b (by simpa using hb)).trans (hk b ob (by simpa using hb) e)) hf (Nat.le_refl _) new
    refine ⟨.ref s.heap.objs.size, _, I1, rfl, ⟨_, q, k, v, hkv, rfl, I.hok.fresh (Nat.le_refl _), hq, rfl⟩, ⟨.ref q, en.val, ?_⟩, fun b hb => ?_⟩
    · rw [← hsz]; exact he'
    · have e : b = it := by simpa using hb
      rw [e, upd_ne (Nat.ne_of_lt hlt)]
      exact (hf it (by simp)).1
  done := by
    intro X hP hw hK hc i pins s σ H E I hf st hg
    subst hP hw hK
    obtain ⟨hd, hi⟩ := hg
    obtain ⟨f0, f1, f2, f3, f4, f5⟩ := hf it (by simp)
    obtain ⟨hs, hgd, hx, es', ep', hdt, hsz, ent⟩ := frzT2 I hd
    obtain ⟨rfl, rfl⟩ := dict_ep hdt hod
    obtain ⟨ok, ov, he⟩ := st
    rw [← hsz] at he
    have raw : s.heap.DictRaw d es ep := ⟨o, hgd, hx, hod⟩
    exact wpAny_pyNext_items_end_raw (I.ok.hd hc) he raw (by omega) fun h' eb => ⟨rfl, I.turned (t' := s.toks) (fun b ob hb e => eb b ob hb e) f0 f1 f3 f4 f5⟩
  self := fun A i s Q E st h => let ⟨_, _, e⟩ := st; PySem.W.kcp_self e h
def iItemsT (td : TE) : TI := fun σ H R => td σ H fun x H1 => ∃ d o kvs, x = .ref d ∧ H1 d = some (.frz o (.dT kvs)) ∧ R (Itit d o kvs) H1
theorem pi_itemsT {X : Cx} {e : Expr} {td : TE} {apos cpos tpos : Pos} {elts : List Expr} {kk : Nat} (he : PE X e td) (hbase : attributeBase e "items" X.env (eval e X.env) = eval e X.env := by rfl) (hline : (apos.endLine == cpos.line) = true := by rfl) :
    PI X (.Tuple elts kk tpos) (.Call (.Attribute e "items" apos) [] [] cpos) (iItemsT td) := by
  refine ⟨fun pins s σ H R I h => ?_⟩
  refine wpAny_Call_method (T := "dict") (id := "dict.items") hbase rfl hline F.plainAttrs_dict F.slot_dict_items F.type_dict_items (thn (he.run pins s σ H _ I h) fun u s1 ⟨x, H1, I1, rx, d, o, kvs, ex, hd, q⟩ => ?_)
  subst ex
  obtain rfl : u = Value.ref d := rx
  obtain ⟨hs, hgd, hx, es, ep, hdt, hsz, ent⟩ := frzT2 I1 hd
  have raw : s1.heap.DictRaw d es ep := ⟨o, hgd, hx, hdt⟩
  refine ⟨raw.typeIs, ?_, ?_⟩
  · intro a ea
    cases ea
    exact ⟨o, hgd, hx.2.1⟩
  have I2 : Inv X pins σ H1 { s1 with heap := s1.heap.push { cls := .type "dict_items", data := .fields #[.ref d] } } := I1.kept (t' := s1.toks) fun b ob q => Heap.get?_push_of_some _ q
  have fin : wpAny (model X.prog X.w) X.A (pyIter (.ref s1.heap.objs.size)) (PIE X pins σ (.Tuple elts kk tpos) R) X.xe { s1 with heap := s1.heap.push { cls := .type "dict_items", data := .fields #[.ref d] } } := by
    refine wpAny_pyIter_items_raw (d := d) ⟨_, Heap.get?_push_size _ rfl, rfl, rfl⟩ ⟨o, Heap.get?_push_of_some _ hgd, hx, hdt⟩ (pi_one (tk := s1.toks) I2 _ (turn_itemsT _ hdt) ⟨.none, .none, ?_⟩ q)
    rw [← hsz]
    exact Heap.get?_push_size _ rfl
  show wpAny _ _ (callWith cpos (.builtin "dict.items") [.ref d] [] []) _ X.xe s1
  exact method_meetsIn F.slot_dict_items F.entry_dict_items rfl (PySem.evalArgs_none ⟨rfl, raw.typeIs, F.args_dict_items_1 _, _, meets_dict_items_raw d hs, ⟨es, ep, raw⟩, fin⟩)
end CD

/-! ### promises for callers that print nothing yet, and repr -/
namespace CG
open PySem PySem.Spec PyProof.Rows L2
/-- a promise that is kept where nothing is being printed -/
structure FnOkG (P : Program) (w : World) (K : PySem.W.Frag) (mg : Str → Option Value) (base : Heap) (k : Nat) (f : Addr) (fd : FuncData) (ps : List Str) (sp : Sp) : Prop where
  size : ∀ vs H Q E, sp vs H Q E → vs.length = ps.length
  go : ∀ (A : Around) (fr : List Env) (s : Shared) (H : Hp) (as : Args) (us : List Value) (vs : List V) (Q : VK) (E : XK), A.guards = some [] → Room k A → Env0 P w K mg base A fr s H → BindsTo s fd as (ps.zip us) → Vals vs us → sp vs H Q E →
    codeAny (model P w) A (.call (.ref f) as) (CR CX0 fr P w H s Q E) s
theorem FnOkG.of {P : Program} {w : World} {K : PySem.W.Frag} {mg : Str → Option Value} {base : Heap} {k : Nat} {f : Addr} {fd : FuncData} {ps : List Str} {sp : Sp} (F : FnOk P w K mg base CX0 k f fd ps sp) : FnOkG P w K mg base k f fd ps sp :=
  ⟨F.len, fun A fr s H as us vs Q E _ => F.run A fr s H as us vs Q E⟩
section
variable {P : Program} {w : World} {K : PySem.W.Frag} {mg : Str → Option Value} {base : Heap}
/-- a def by its body, where nothing is being printed -/
theorem okG {x qual : Str} {st : Stmt} {f : Addr} {fd : FuncData} {N ps : List Str} {k : Nat} {sp : Sp} (F : Fun K x qual st f fd) (S : FnScope N ps (defScope st)) (len : ∀ vs H Q E, sp vs H Q E → vs.length = ps.length)
    (body : ∀ (cdv : Value) (A : Around) (fr : List Env) (s : Shared) (H : Hp) (vs : List V) (Q : VK) (E : XK), A.guards = some [] → Room k (A.deeper (envOfC qual (defScope st) s.heap.objs.size f cdv)) → sp vs H Q E →
      ∃ t, PSs (cxOf CX0 P w K mg base N qual (defScope st) f cdv A fr s H E).nox (defBody st) t ∧ t { nx := fun _ H' => Q .non H', rt := Q } (start N vs) H) : FnOkG P w K mg base (k + 1) f fd ps sp := by
  obtain ⟨o1, o2, d1, d2, d3, o3, cd, ct, o4, rfl, look, code⟩ := F.ex
  refine ⟨len, fun A fr s H as us vs Q E gd room en bind rel want => ?_⟩
  have kin : K.In s.heap := en.mod.kin.keeps fun b o e => (en.bs b o e).1
  have nolim : s.heap.NoLimit := en.mod.nolimit.keeps fun b o e => (en.bs b o e).1
  have kinds : ∀ y ∈ ps.zip us, (defScope st).names.lookup y.1 = some .local ∨ ((defScope st).names.lookup y.1 = some .cell ∧ ((cellsFrom (s.heap.objs.size + 1) (defScope st).names []).lookup y.1).isSome = true) := fun ⟨n, v⟩ hy =>
    (S.par n (List.of_mem_zip hy).1).imp id fun q => ⟨q, PySem.W.cellsFrom_some _ _ _ (.inl q)⟩
  refine codeAny_call_function room.depth (kin _ _ look) rfl S.co S.gen rfl (PySem.W.codeRec_of kin code) (bind _ _ _ _ ?_)
  refine wpAny_newFunctionEnv_cells S.kind kinds fun env isEnv s1 entry => ?_
  subst isEnv
  refine ⟨nolim.keeps entry.toInCall.keep, codeAny_func ?_⟩
  obtain ⟨t, rule, reading⟩ := body cd A fr s H vs Q E gd (room.deeper _) want
  have start1 : Inv (cxOf CX0 P w K mg base N qual (defScope st) f cd A fr s H E) [] (start N vs) H s1 := inv_start S room.hd en (len _ _ _ _ want) rel entry
  refine wpAny_mono (rule.nox.run [] s1 (start N vs) H _ start1 reading) (fun fl s' out => ?_) fun e s' out => out
  have close : ∀ {τ : L2.St} {H' : Hp} {v : V} {u : Value}, Inv (cxOf CX0 P w K mg base N qual (defScope st) f cd A fr s H E) [] τ H' s' → RelV v u → Q v H' → CE fr P w H s Q u s' :=
    fun {τ H' v u} J rv q => ⟨v, H', J.os, J.bare, J.base, J.hok, rv, q⟩
  match fl, out with
  | .ret u, ⟨_, _, _, J, rv, q⟩ => exact close J rv q
  | .next, ⟨_, _, J, q⟩ => exact close (v := V.non) (u := Value.none) J rfl q
  | .brk, ⟨_, _, _, q⟩ => exact q.elim
  | .cont, ⟨_, _, _, q⟩ => exact q.elim
end
section
variable {X : Cx} {k : Nat} {f : Addr} {fd : FuncData} {ps : List Str} {sp : Sp} {dvs : List V} {ds : List Value} {E : XK} {x : Str} {p pos : Pos} {e : Expr} {es : List Expr} {t : TA}
theorem goG {pins : List (Addr × Obj)} {σ : L2.St} {H : Hp} {s : Shared} {Q : VK} {us : List Value} {vs : List V} (F : FnOkG X.prog X.w X.K X.mg X.base k f fd ps sp) (gd : X.A.guards = some []) (room : Room k X.A) (bind : Binds X.K fd ps ds) (hd : Vals dvs ds) (pass : Passes CX0 X E)
    (I : Inv X pins σ H s) (rel : Vals vs us) (want : sp (vs ++ dvs) H Q E) : wpAny (model X.prog X.w) X.A (call (.ref f) us) (EP X pins σ Q) X.xe s := by
  have both : Vals (vs ++ dvs) (us ++ ds) := rel.append hd
  have size : (us ++ ds).length = ps.length := both.length.symm.trans (F.size _ _ _ _ want)
  refine wpAny_call (codeAny_mono (F.go X.A X.stack s H ⟨us, []⟩ (us ++ ds) (vs ++ dvs) Q E gd room I.env0 (bind s us I.kIn size) both want) fun out s' q => ?_)
  match out, q with
  | .error err, q => exact pass pins σ H s err s' I q
  | .ok (.ret u), q => exact I.after q
/-- the call of a def that wants nothing to be printed -/
theorem pe_callG (F : FnOkG X.prog X.w X.K X.mg X.base k f fd ps sp) (gd : X.A.guards = some []) (room : Room k X.A) (hg : Gl X x) (hm : X.mg x = some (.ref f)) (hk : PySem.W.keepIn X.K (.ref f) = true) (bind : Binds X.K fd ps ds) (hd : Vals dvs ds) (pass : Passes CX0 X E)
    (args : PA X (e :: es) t) (hdb : (x == ("__debug__" : Str)) = false := by decide) (he : starEach (e :: es) X.env = (false, eval e X.env) :: starEach es X.env := by rfl) (hpl : (backTo pos (starEach es X.env)).any (·.1) = false := by rfl) :
    PE X (.Call (.Name x p) (e :: es) [] pos) (tCall sp dvs E t) :=
  ⟨fun pins s σ H Q I h => wpAny_Call_Name_kw (ld_glob I hg hm (PySem.W.callWith_K (h₀ := X.base) I.ok.mod.kin hk (thn (args.run pos pins s σ H _ I h) fun us s1 ⟨vs, H1, I1, r, q⟩ => ⟨I1.kIn, goG F gd room bind hd pass I1 r q⟩) he hpl) hdb)⟩
/-- repr(x) of data that are known -/
def rRepr (K : PySem.W.Frag) : List V → Hp → VK → Prop := fun vs H Q => ∃ (a : Addr) (d : PyData), vs = [V.ref a] ∧ Dp K H (.ref a) d ∧ d.showable = true ∧ d.hasDict = false ∧ d.shown.length ≤ sizeLine ∧ d.depth ≤ 60 ∧ Q (.str d.shown) H
theorem cr_repr (gd : X.A.guards = some []) (hu : X.A.units + 65 < cLine) : CallR X (.builtin "repr") (rRepr X.K) := by
  intro pins s σ H vs us Q I r h
  obtain ⟨a, d, rfl, hd, sh, nd, lz, dp, q⟩ := h
  rw [Vals.ref1 r]
  obtain ⟨as, rd⟩ := Dp.reads I _ (.ref a) _ hd rfl
  refine repr_of_reads' rd sh (fun z => absurd (nd.symm.trans z) (by decide)) gd (by omega) (fun _ _ e => e) (fun h' u tk hk => ?_) lz
  exact ⟨.str d.shown, H, I.kept (t' := tk) hk, ⟨_, rfl⟩, q⟩
end
/-- the law at its script, from a promise of that kind -/
theorem law_callG {P : Program} {w : World} {K : PySem.W.Frag} {mg mb : Str → Option Value} {k : Nat} {fa a : Addr} {fd : FuncData} {x : Str} {sp : Sp} {s₁ : Shared} {us : List Value} {ms : List Int}
    (inK : K.In s₁.heap) (g1 : s₁.heap.Ns mainGlobals mg) (g2 : s₁.heap.Ns builtinsNs mb) (g3 : ∀ x : Str, x ≠ "__name__" → mb x = bootBuiltins x) (g4 : s₁.heap.NoLimit) (g5 : s₁.gens = #[])
    (at_a : s₁.heap.get? a = some { cls := .type "list", data := .seq us.toArray }) (are : IntsAre us ms) (short : ms.length ≤ sizeLine) (room : Room k callerA)
    (F : ∀ base : Heap, K.In base → base.Ns mainGlobals mg → FnOkG P w K mg base k fa fd [x] sp) (bind : ∀ (s : Shared) (u : Value), BindsTo s fd ⟨[u], []⟩ [(x, u)])
    (want : ∀ H : Hp, Only H → SqL K H a (ms.map V.int) → sp [.ref a] H (fun v _ => v = .bl true) fun _ _ _ => False) :
    codeAny (model P w) callerA (.call (.ref fa) ⟨[.ref a], []⟩) (fun r s' => r = .ok (.ret (.bool true)) ∧ OldK s₁.heap s'.heap ∧ s'.os = s₁.os ∧ AllBare s'.gens) s₁ := by
  have vals := vals_ints are
  have many := are.length
  have main : ∀ H : Hp, Only H → SqL K H a (ms.map V.int) → HOk P w H s₁.heap → (∀ b, H b ≠ none → b = a) → (H a ≠ none → K.lookup a = none) →
      codeAny (model P w) callerA (.call (.ref fa) ⟨[.ref a], []⟩) (fun r s' => r = .ok (.ret (.bool true)) ∧ OldK s₁.heap s'.heap ∧ s'.os = s₁.os ∧ AllBare s'.gens) s₁ := by
    intro H only seq hok just out
    have hid : ∀ {b : Addr} {o : Obj} {es : Array DictEntry} {n : Nat}, s₁.heap.get? b = some o → o.data = .dict es n → H b = none := fun {b o es n} e d => Classical.byContradiction fun z => by
      rw [just b z, at_a] at e
      obtain rfl := Option.some.inj e
      exact absurd (show Data.seq us.toArray _ = Data.dict es n from d) (fun z => nomatch z)
    have names : ∀ {b : Addr} {m : Str → Option Value}, s₁.heap.Ns b m → (hidT s₁.heap H).Ns b m := fun {b m} ⟨o, es, n, e, d, r⟩ => ⟨o, es, n, hidT_get e (hid e d), d, r⟩
    have inB : K.In (hidT s₁.heap H) := fun b o e => hidT_get (inK b o e) (Classical.byContradiction fun z => by
      have ba := just b z
      rw [ba] at z e
      rw [out z] at e
      exact absurd e (fun z => nomatch z))
    have known : Mod K mg (hidT s₁.heap H) := ⟨inB, names g1, ⟨mb, names g2, g3⟩, g4.elim fun mc z => ⟨mc, names z.1, z.2⟩⟩
    have entry : Env0 P w K mg (hidT s₁.heap H) callerA [] s₁ H := ⟨rfl, known, fun b o e => of_hidT e, Nat.le_of_eq (hidT_size _ _), trivial, fun b z => (List.not_mem_nil z).elim, hok, .of_eq g5⟩
    refine codeAny_mono ((F _ inB (names g1)).go callerA [] s₁ H ⟨[.ref a], []⟩ [.ref a] [.ref a] _ _ rfl room entry (bind s₁ (.ref a)) (.cons rfl .nil) (want H only seq)) fun r s' h => ?_
    match r, h with
    | .ok (.ret u), ⟨v, H', os, bare, un, hok', rel, (q : v = .bl true)⟩ =>
      subst q
      obtain rfl : u = Value.bool true := rel
      refine ⟨rfl, OldK.of_keep fun b o e => ?_, os, bare⟩
      rcases only b with z | ⟨ob, xs, z⟩
      · exact un.keep b o e z (fun m => (List.not_mem_nil m).elim) (by simp)
      · have e1 := (hok b _ z).1
        have e2 := (hok' b _ (un.frzs b ob _ z)).1
        rw [e] at e1
        rw [Option.some.inj e1]
        exact e2
  cases look : K.lookup a with
  | some o =>
    obtain rfl := Option.some.inj (at_a.symm.trans (inK a o look))
    exact main (fun _ => none) (fun _ => .inl rfl) (.inr ⟨_, us.toArray, _, look, rfl, rfl, rfl, by simpa [many] using short, by simpa using vals⟩) (fun b u z => (nomatch (show (none : Option HO) = some u from z))) (fun b z => (z rfl).elim) fun z => (z rfl).elim
  | none =>
    let O : Obj := { cls := .type "list", data := .seq us.toArray }
    let G : Hp := fun b => if b = a then some (.frz O (.lst (ms.map V.int))) else none
    have gA : G a = some (.frz O (.lst (ms.map V.int))) := if_pos rfl
    have gN : ∀ b, b ≠ a → G b = none := fun b n => if_neg n
    refine main G (fun b => ?_) (.inl (.inr ⟨O, gA⟩)) (fun b u z => ?_) (fun b z => Classical.byContradiction fun n => z (gN b n)) fun _ => look
    · rcases Decidable.em (b = a) with rfl | n
      · exact .inr ⟨_, _, gA⟩
      · exact .inl (gN b n)
    · rcases Decidable.em (b = a) with rfl | n
      · obtain rfl := Option.some.inj (gA.symm.trans z)
        exact ⟨at_a, by rw [List.length_map]; exact short, us, _, vals, at_a⟩
      · exact absurd (gN b n) (by rw [z]; exact fun e => nomatch e)
/-- a law's end, from a promise of that kind -/
theorem walk_ofG {l : PySem.W.OpenLaw} {n k : Nat} {q : Program} {loose : List Str} {XP : (Str → Option Value) → Heap → Prop} {YP : World → Heap → Prop} {d : DefRec} {x : Str}
    (most : l.most = some n) (small : n ≤ sizeLine) (plain : d.params.defaults = []) (room : Room k callerA)
    (F : ∀ (w : World) (mg : Str → Option Value) (fa : Addr) (h : Heap), YP w h → h.Ns mainGlobals mg → mg d.name = some (.ref fa) →
      ∃ (K : PySem.W.Frag) (fd : FuncData) (sp : Sp), K.In h ∧ (∀ (s : Shared) (u : Value), BindsTo s fd ⟨[u], []⟩ [(x, u)]) ∧
        (∀ (H : Hp) (a : Addr) (ms : List Int), ms.length ≤ n → Only H → SqL K H a (ms.map V.int) → sp [.ref a] H (fun v _ => v = .bl true) fun _ _ _ => False) ∧
        ∀ base : Heap, K.In base → base.Ns mainGlobals mg → FnOkG l.prog w K mg base k fa fd [x] sp) :
    PySem.W.WalkO q loose XP YP l.row.toRowW d [] (fun f vs => PySem.call f vs) :=
  Att.attach_call most plain fun w s₀ s₁ mg mb fa o pm cd doc a us ms G Y ho hd hcd named at_a are len gens => by
    obtain ⟨K, fd, sp, inK, bind, want, prom⟩ := F w mg fa _ Y G.T.g named
    exact law_callG inK G.T.g G.T.b G.T.builtins G.T.nolimit gens at_a are (Nat.le_trans len small) room prom bind fun H only seq => want H a ms len only seq
end CG

namespace CS
open PySem PySem.Spec PyProof.Rows L2
def top (i : Nat) : Stmt := PySem.Challenge.pw_calledseats_k64_tours_played.main.body.getD i (.Pass ⟨0, 0, 0, 0⟩)
abbrev s_wall : Stmt := top 0
abbrev N_wall : List Str := ["k"]
theorem sc_wall : FnScope N_wall ["k"] (defScope s_wall) := ⟨rfl, rfl, rfl, by decide +kernel, rfl, by decide +kernel, by decide +kernel⟩
abbrev s_is_integer : Stmt := top 13
abbrev N_is_integer : List Str := ["value"]
theorem sc_is_integer : FnScope N_is_integer ["value"] (defScope s_is_integer) := ⟨rfl, rfl, rfl, by decide +kernel, rfl, by decide +kernel, by decide +kernel⟩
abbrev s_is_at_least : Stmt := top 14
abbrev N_is_at_least : List Str := ["value", "low"]
theorem sc_is_at_least : FnScope N_is_at_least ["value", "low"] (defScope s_is_at_least) := ⟨rfl, rfl, rfl, by decide +kernel, rfl, by decide +kernel, by decide +kernel⟩
abbrev s_is_between : Stmt := top 15
abbrev N_is_between : List Str := ["value", "low", "high"]
theorem sc_is_between : FnScope N_is_between ["value", "low", "high"] (defScope s_is_between) := ⟨rfl, rfl, rfl, by decide +kernel, rfl, by decide +kernel, by decide +kernel⟩
abbrev s_require_at_least : Stmt := top 16
abbrev N_require_at_least : List Str := ["value", "low", "name"]
theorem sc_require_at_least : FnScope N_require_at_least ["value", "low", "name"] (defScope s_require_at_least) := ⟨rfl, rfl, rfl, by decide +kernel, rfl, by decide +kernel, by decide +kernel⟩
abbrev s_greatest_common_divisor : Stmt := top 17
abbrev N_greatest_common_divisor : List Str := ["first", "second"]
theorem sc_greatest_common_divisor : FnScope N_greatest_common_divisor ["first", "second"] (defScope s_greatest_common_divisor) := ⟨rfl, rfl, rfl, by decide +kernel, rfl, by decide +kernel, by decide +kernel⟩
abbrev s_odd_part : Stmt := top 18
abbrev N_odd_part : List Str := ["number"]
theorem sc_odd_part : FnScope N_odd_part ["number"] (defScope s_odd_part) := ⟨rfl, rfl, rfl, by decide +kernel, rfl, by decide +kernel, by decide +kernel⟩
abbrev s_Table_init : Stmt := inClass (top 22) 0
abbrev N_Table_init : List Str := ["self", "rings", "size"]
theorem sc_Table_init : FnScope N_Table_init ["self", "rings"] (defScope s_Table_init) := ⟨rfl, rfl, rfl, by decide +kernel, rfl, by decide +kernel, by decide +kernel⟩
abbrev s_Table_sizes : Stmt := inClass (top 22) 1
abbrev N_Table_sizes : List Str := ["self"]
theorem sc_Table_sizes : FnScope N_Table_sizes ["self"] (defScope s_Table_sizes) := ⟨rfl, rfl, rfl, by decide +kernel, rfl, by decide +kernel, by decide +kernel⟩
abbrev s_Table_count : Stmt := inClass (top 22) 2
abbrev N_Table_count : List Str := ["self", "product", "size"]
theorem sc_Table_count : FnScope N_Table_count ["self"] (defScope s_Table_count) := ⟨rfl, rfl, rfl, by decide +kernel, rfl, by decide +kernel, by decide +kernel⟩
abbrev s_Table_is_seat : Stmt := inClass (top 22) 3
abbrev N_Table_is_seat : List Str := ["self", "value", "place", "size"]
theorem sc_Table_is_seat : FnScope N_Table_is_seat ["self", "value"] (defScope s_Table_is_seat) := ⟨rfl, rfl, rfl, by decide +kernel, rfl, by decide +kernel, by decide +kernel⟩
abbrev s_Table_is_call : Stmt := inClass (top 22) 4
abbrev N_Table_is_call : List Str := ["self", "value", "one"]
theorem sc_Table_is_call : FnScope N_Table_is_call ["self", "value"] (defScope s_Table_is_call) := ⟨rfl, rfl, rfl, by decide +kernel, rfl, by decide +kernel, by decide +kernel⟩
abbrev s_Table_shifted : Stmt := inClass (top 22) 5
abbrev N_Table_shifted : List Str := ["self", "seat", "call", "factor", "place", "one", "size"]
theorem sc_Table_shifted : FnScope N_Table_shifted ["self", "seat", "call", "factor"] (defScope s_Table_shifted) := ⟨rfl, rfl, rfl, by decide +kernel, rfl, by decide +kernel, by decide +kernel⟩
abbrev s_Table_moves : Stmt := inClass (top 22) 6
abbrev N_Table_moves : List Str := ["self", "seat", "call"]
theorem sc_Table_moves : FnScope N_Table_moves ["self", "seat", "call"] (defScope s_Table_moves) := ⟨rfl, rfl, rfl, by decide +kernel, rfl, by decide +kernel, by decide +kernel⟩
abbrev s_Table_step : Stmt := inClass (top 22) 7
abbrev N_Table_step : List Str := ["self", "seat", "call", "direction", "both_seats"]
theorem sc_Table_step : FnScope N_Table_step ["self", "seat", "call", "direction"] (defScope s_Table_step) := ⟨rfl, rfl, rfl, by decide +kernel, rfl, by decide +kernel, by decide +kernel⟩
abbrev s_Table_order : Stmt := inClass (top 22) 8
abbrev N_Table_order : List Str := ["self", "seat", "least", "place", "size", "period"]
theorem sc_Table_order : FnScope N_Table_order ["self", "seat"] (defScope s_Table_order) := ⟨rfl, rfl, rfl, by decide +kernel, rfl, by decide +kernel, by decide +kernel⟩
abbrev s_Table_halves : Stmt := inClass (top 22) 9
abbrev N_Table_halves : List Str := ["self", "seat"]
theorem sc_Table_halves : FnScope N_Table_halves ["self", "seat"] (defScope s_Table_halves) := ⟨rfl, rfl, rfl, by decide +kernel, rfl, by decide +kernel, by decide +kernel⟩
abbrev s_is_direction : Stmt := top 23
abbrev N_is_direction : List Str := ["value"]
theorem sc_is_direction : FnScope N_is_direction ["value"] (defScope s_is_direction) := ⟨rfl, rfl, rfl, by decide +kernel, rfl, by decide +kernel, by decide +kernel⟩
abbrev s_require_table : Stmt := top 24
abbrev N_require_table : List Str := ["table"]
theorem sc_require_table : FnScope N_require_table ["table"] (defScope s_require_table) := ⟨rfl, rfl, rfl, by decide +kernel, rfl, by decide +kernel, by decide +kernel⟩
abbrev s_require_seat : Stmt := top 25
abbrev N_require_seat : List Str := ["table", "seat"]
theorem sc_require_seat : FnScope N_require_seat ["table", "seat"] (defScope s_require_seat) := ⟨rfl, rfl, rfl, by decide +kernel, rfl, by decide +kernel, by decide +kernel⟩
abbrev s_require_call : Stmt := top 26
abbrev N_require_call : List Str := ["table", "call"]
theorem sc_require_call : FnScope N_require_call ["table", "call"] (defScope s_require_call) := ⟨rfl, rfl, rfl, by decide +kernel, rfl, by decide +kernel, by decide +kernel⟩
abbrev s_require_targets : Stmt := top 27
abbrev N_require_targets : List Str := ["table", "targets", "seen", "index", "seat"]
theorem sc_require_targets : FnScope N_require_targets ["table", "targets"] (defScope s_require_targets) := ⟨rfl, rfl, rfl, by decide +kernel, rfl, by decide +kernel, by decide +kernel⟩
abbrev s_require_small : Stmt := top 28
abbrev N_require_small : List Str := ["table"]
theorem sc_require_small : FnScope N_require_small ["table"] (defScope s_require_small) := ⟨rfl, rfl, rfl, by decide +kernel, rfl, by decide +kernel, by decide +kernel⟩
abbrev s_all_seats : Stmt := top 29
abbrev N_all_seats : List Str := ["table", "found", "size", "start", "place"]
theorem sc_all_seats : FnScope N_all_seats ["table"] (defScope s_all_seats) := ⟨rfl, rfl, rfl, by decide +kernel, rfl, by decide +kernel, by decide +kernel⟩
abbrev s_mirror_seat : Stmt := top 31
abbrev N_mirror_seat : List Str := ["table", "seat", "other", "place", "one", "size"]
theorem sc_mirror_seat : FnScope N_mirror_seat ["table", "seat", "other"] (defScope s_mirror_seat) := ⟨rfl, rfl, rfl, by decide +kernel, rfl, by decide +kernel, by decide +kernel⟩
abbrev s_call_to : Stmt := top 32
abbrev N_call_to : List Str := ["table", "seat", "other", "place", "one", "size"]
theorem sc_call_to : FnScope N_call_to ["table", "seat", "other"] (defScope s_call_to) := ⟨rfl, rfl, rfl, by decide +kernel, rfl, by decide +kernel, by decide +kernel⟩
abbrev s_call_counts : Stmt := top 33
abbrev N_call_counts : List Str := ["table", "targets", "found", "missing", "newest", "depth", "target", "seat", "one"]
theorem sc_call_counts : FnScope N_call_counts ["table", "targets"] (defScope s_call_counts) := ⟨rfl, rfl, rfl, by decide +kernel, rfl, by decide +kernel, by decide +kernel⟩
abbrev s_call_from : Stmt := top 34
abbrev N_call_from : List Str := ["table", "counts", "seat", "depth", "closer", "one"]
theorem sc_call_from : FnScope N_call_from ["table", "counts", "seat"] (defScope s_call_from) := ⟨rfl, rfl, rfl, by decide +kernel, rfl, by decide +kernel, by decide +kernel⟩
abbrev s_combined : Stmt := top 36
abbrev N_combined : List Str := ["first", "second", "column", "factor", "one", "other"]
theorem sc_combined : FnScope N_combined ["first", "second", "column"] (defScope s_combined) := ⟨rfl, rfl, rfl, by decide +kernel, rfl, by decide +kernel, by decide +kernel⟩
abbrev s_reduced : Stmt := top 37
abbrev N_reduced : List Str := ["row", "column", "odds", "one", "odd"]
theorem sc_reduced : FnScope N_reduced ["row", "column", "odds"] (defScope s_reduced) := ⟨rfl, rfl, rfl, by decide +kernel, rfl, by decide +kernel, by decide +kernel⟩
abbrev s_shift_basis : Stmt := top 38
abbrev N_shift_basis : List Str := ["sizes", "targets", "odds", "rows", "basis", "column", "odd", "pivot", "others", "row", "rest", "size", "seat", "one", "other", "index"]
theorem sc_shift_basis : FnScope N_shift_basis ["sizes", "targets"] (defScope s_shift_basis) := ⟨rfl, rfl, rfl, by decide +kernel, rfl, by decide +kernel, by decide +kernel⟩
abbrev s_diagonal_product : Stmt := top 39
abbrev N_diagonal_product : List Str := ["basis", "product", "index", "row"]
theorem sc_diagonal_product : FnScope N_diagonal_product ["basis"] (defScope s_diagonal_product) := ⟨rfl, rfl, rfl, by decide +kernel, rfl, by decide +kernel, by decide +kernel⟩
abbrev s_coordinates : Stmt := top 40
abbrev N_coordinates : List Str := ["basis", "vector", "found", "index", "row", "factor", "one", "other"]
theorem sc_coordinates : FnScope N_coordinates ["basis", "vector"] (defScope s_coordinates) := ⟨rfl, rfl, rfl, by decide +kernel, rfl, by decide +kernel, by decide +kernel⟩
abbrev s_is_free : Stmt := top 41
abbrev N_is_free : List Str := ["basis", "vector", "index", "row", "factor", "one", "other"]
theorem sc_is_free : FnScope N_is_free ["basis", "vector"] (defScope s_is_free) := ⟨rfl, rfl, rfl, by decide +kernel, rfl, by decide +kernel, by decide +kernel⟩
abbrev s_separating_witness : Stmt := top 42
abbrev N_separating_witness : List Str := ["sizes", "targets", "basis", "difference", "total", "units", "columns", "index", "weights", "shared", "weight", "modulus", "column", "unit", "one"]
theorem sc_separating_witness : FnScope N_separating_witness ["sizes", "targets", "basis", "difference"] (defScope s_separating_witness) := ⟨rfl, rfl, rfl, by decide +kernel, rfl, by decide +kernel, by decide +kernel⟩
abbrev s_reach : Stmt := top 43
abbrev N_reach : List Str := ["table", "targets", "seat", "basis", "difference", "one", "other"]
theorem sc_reach : FnScope N_reach ["table", "targets", "seat"] (defScope s_reach) := ⟨rfl, rfl, rfl, by decide +kernel, rfl, by decide +kernel, by decide +kernel⟩
abbrev s_weighted : Stmt := top 44
abbrev N_weighted : List Str := ["modulus", "weights", "seat", "weight", "place"]
theorem sc_weighted : FnScope N_weighted ["modulus", "weights", "seat"] (defScope s_weighted) := ⟨rfl, rfl, rfl, by decide +kernel, rfl, by decide +kernel, by decide +kernel⟩
abbrev s_is_witness : Stmt := top 45
abbrev N_is_witness : List Str := ["table", "witness", "modulus", "weights", "residue", "weight", "size"]
theorem sc_is_witness : FnScope N_is_witness ["table", "witness"] (defScope s_is_witness) := ⟨rfl, rfl, rfl, by decide +kernel, rfl, by decide +kernel, by decide +kernel⟩
abbrev s_unvisited_seats : Stmt := top 47
abbrev N_unvisited_seats : List Str := ["table", "visited", "seat", "known", "one"]
theorem sc_unvisited_seats : FnScope N_unvisited_seats ["table", "visited", "seat"] (defScope s_unvisited_seats) := ⟨rfl, rfl, rfl, by decide +kernel, rfl, by decide +kernel, by decide +kernel⟩
abbrev s_next_action : Stmt := top 48
abbrev N_next_action : List Str := ["table", "open_seats", "seat", "counts"]
theorem sc_next_action : FnScope N_next_action ["table", "open_seats", "seat"] (defScope s_next_action) := ⟨rfl, rfl, rfl, by decide +kernel, rfl, by decide +kernel, by decide +kernel⟩
abbrev s_is_responder : Stmt := top 49
abbrev N_is_responder : List Str := ["table", "responder", "seat", "one"]
theorem sc_is_responder : FnScope N_is_responder ["table", "responder", "seat"] (defScope s_is_responder) := ⟨rfl, rfl, rfl, by decide +kernel, rfl, by decide +kernel, by decide +kernel⟩
abbrev s_answer_of : Stmt := top 50
abbrev N_answer_of : List Str := ["table", "responder", "seat", "call", "done", "modulus", "weights", "residue", "ahead"]
theorem sc_answer_of : FnScope N_answer_of ["table", "responder", "seat", "call", "done"] (defScope s_answer_of) := ⟨rfl, rfl, rfl, by decide +kernel, rfl, by decide +kernel, by decide +kernel⟩
abbrev s_run_tour : Stmt := top 51
abbrev N_run_tour : List Str := ["table", "seat", "responder", "limit", "moves", "seats", "open_seats", "action", "direction"]
theorem sc_run_tour : FnScope N_run_tour ["table", "seat", "responder", "limit"] (defScope s_run_tour) := ⟨rfl, rfl, rfl, by decide +kernel, rfl, by decide +kernel, by decide +kernel⟩
abbrev s_is_move : Stmt := top 53
abbrev N_is_move : List Str := ["table", "value"]
theorem sc_is_move : FnScope N_is_move ["table", "value"] (defScope s_is_move) := ⟨rfl, rfl, rfl, by decide +kernel, rfl, by decide +kernel, by decide +kernel⟩
abbrev s_require_moves : Stmt := top 54
abbrev N_require_moves : List Str := ["table", "moves", "index", "move"]
theorem sc_require_moves : FnScope N_require_moves ["table", "moves"] (defScope s_require_moves) := ⟨rfl, rfl, rfl, by decide +kernel, rfl, by decide +kernel, by decide +kernel⟩
abbrev s_visited_seats : Stmt := top 55
abbrev N_visited_seats : List Str := ["table", "seat", "moves", "found", "call", "direction"]
theorem sc_visited_seats : FnScope N_visited_seats ["table", "seat", "moves"] (defScope s_visited_seats) := ⟨rfl, rfl, rfl, by decide +kernel, rfl, by decide +kernel, by decide +kernel⟩
abbrev s_Record_init : Stmt := inClass (top 56) 0
abbrev N_Record_init : List Str := ["self", "table", "targets", "seat", "moves"]
theorem sc_Record_init : FnScope N_Record_init ["self", "table", "targets", "seat", "moves"] (defScope s_Record_init) := ⟨rfl, rfl, rfl, by decide +kernel, rfl, by decide +kernel, by decide +kernel⟩
abbrev s_Record_seats : Stmt := inClass (top 56) 1
abbrev N_Record_seats : List Str := ["self"]
theorem sc_Record_seats : FnScope N_Record_seats ["self"] (defScope s_Record_seats) := ⟨rfl, rfl, rfl, by decide +kernel, rfl, by decide +kernel, by decide +kernel⟩
abbrev s_Record_calls_to_target : Stmt := inClass (top 56) 2
abbrev N_Record_calls_to_target : List Str := ["self"]
theorem sc_Record_calls_to_target : FnScope N_Record_calls_to_target ["self"] (defScope s_Record_calls_to_target) := ⟨rfl, rfl, rfl, by decide +kernel, rfl, by decide +kernel, by decide +kernel⟩
abbrev s_Record_losses : Stmt := inClass (top 56) 3
abbrev N_Record_losses : List Str := ["self"]
theorem sc_Record_losses : FnScope N_Record_losses ["self"] (defScope s_Record_losses) := ⟨rfl, rfl, rfl, by decide +kernel, rfl, by decide +kernel, by decide +kernel⟩
abbrev s_Record_first_mistake : Stmt := inClass (top 56) 4
abbrev N_Record_first_mistake : List Str := ["self"]
theorem sc_Record_first_mistake : FnScope N_Record_first_mistake ["self"] (defScope s_Record_first_mistake) := ⟨rfl, rfl, rfl, by decide +kernel, rfl, by decide +kernel, by decide +kernel⟩
abbrev s_law_mix : Stmt := top 58
abbrev N_law_mix : List Str := ["_law_cell", "_law_step", "_law_number_here"]
theorem sc_law_mix : FnScope N_law_mix ["_law_cell", "_law_step"] (defScope s_law_mix) := ⟨rfl, rfl, rfl, by decide +kernel, rfl, by decide +kernel, by decide +kernel⟩
abbrev s_law_source : Stmt := top 59
abbrev N_law_source : List Str := ["_law_cell"]
theorem sc_law_source : FnScope N_law_source ["_law_cell"] (defScope s_law_source) := ⟨rfl, rfl, rfl, by decide +kernel, rfl, by decide +kernel, by decide +kernel⟩
abbrev s_law_draw : Stmt := top 60
abbrev N_law_draw : List Str := ["_law_source_here", "_law_bound", "_law_drawn"]
theorem sc_law_draw : FnScope N_law_draw ["_law_source_here", "_law_bound"] (defScope s_law_draw) := ⟨rfl, rfl, rfl, by decide +kernel, rfl, by decide +kernel, by decide +kernel⟩
abbrev s_law_choice : Stmt := top 61
abbrev N_law_choice : List Str := ["_law_source_here", "_law_options"]
theorem sc_law_choice : FnScope N_law_choice ["_law_source_here", "_law_options"] (defScope s_law_choice) := ⟨rfl, rfl, rfl, by decide +kernel, rfl, by decide +kernel, by decide +kernel⟩
abbrev s_law_shuffle : Stmt := top 62
abbrev N_law_shuffle : List Str := ["_law_source_here", "_law_options", "_law_pool", "_law_shuffled"]
theorem sc_law_shuffle : FnScope N_law_shuffle ["_law_source_here", "_law_options"] (defScope s_law_shuffle) := ⟨rfl, rfl, rfl, by decide +kernel, rfl, by decide +kernel, by decide +kernel⟩
abbrev s_law_dims : Stmt := top 63
abbrev N_law_dims : List Str := ["_law_source_here", "_law_bound", "_law_some", "_law_dims_here"]
theorem sc_law_dims : FnScope N_law_dims ["_law_source_here", "_law_bound"] (defScope s_law_dims) := ⟨rfl, rfl, rfl, by decide +kernel, rfl, by decide +kernel, by decide +kernel⟩
abbrev s_law_total : Stmt := top 64
abbrev N_law_total : List Str := ["_law_dims_here", "_law_total_here", "_law_size"]
theorem sc_law_total : FnScope N_law_total ["_law_dims_here"] (defScope s_law_total) := ⟨rfl, rfl, rfl, by decide +kernel, rfl, by decide +kernel, by decide +kernel⟩
abbrev s_law_spots : Stmt := top 65
abbrev N_law_spots : List Str := ["_law_dims_here", "_law_spots_here", "_law_size", "_law_longer", "_law_spot", "_law_place"]
theorem sc_law_spots : FnScope N_law_spots ["_law_dims_here"] (defScope s_law_spots) := ⟨rfl, rfl, rfl, by decide +kernel, rfl, by decide +kernel, by decide +kernel⟩
abbrev s_law_moved : Stmt := top 66
abbrev N_law_moved : List Str := ["_law_dims_here", "_law_spot", "_law_hop", "_law_factor", "_law_place", "_law_one", "_law_size"]
theorem sc_law_moved : FnScope N_law_moved ["_law_dims_here", "_law_spot", "_law_hop", "_law_factor"] (defScope s_law_moved) := ⟨rfl, rfl, rfl, by decide +kernel, rfl, by decide +kernel, by decide +kernel⟩
abbrev s_law_depths : Stmt := top 67
abbrev N_law_depths : List Str := ["_law_dims_here", "_law_goals", "_law_depths_here", "_law_goal", "_law_every", "_law_depth", "_law_grown", "_law_joining", "_law_spot"]
theorem sc_law_depths : FnScope N_law_depths ["_law_dims_here", "_law_goals"] (defScope s_law_depths) := ⟨rfl, rfl, rfl, by decide +kernel, rfl, by decide +kernel, by decide +kernel⟩
abbrev s_law_has_hop : Stmt := top 68
abbrev N_law_has_hop : List Str := ["_law_dims_here", "_law_every", "_law_spot", "_law_known", "_law_hop"]
theorem sc_law_has_hop : FnScope N_law_has_hop ["_law_dims_here", "_law_every", "_law_spot", "_law_known"] (defScope s_law_has_hop) := ⟨rfl, rfl, rfl, by decide +kernel, rfl, by decide +kernel, by decide +kernel⟩
abbrev s_law_residue : Stmt := top 69
abbrev N_law_residue : List Str := ["_law_weights", "_law_modulus", "_law_spot", "_law_weight", "_law_place"]
theorem sc_law_residue : FnScope N_law_residue ["_law_weights", "_law_modulus", "_law_spot"] (defScope s_law_residue) := ⟨rfl, rfl, rfl, by decide +kernel, rfl, by decide +kernel, by decide +kernel⟩
abbrev s_law_number : Stmt := top 70
abbrev N_law_number : List Str := ["_law_thing", "_law_low", "_law_high"]
theorem sc_law_number : FnScope N_law_number ["_law_thing", "_law_low", "_law_high"] (defScope s_law_number) := ⟨rfl, rfl, rfl, by decide +kernel, rfl, by decide +kernel, by decide +kernel⟩
abbrev s_law_draw_responder : Stmt := top 73
abbrev N_law_draw_responder : List Str := ["_law_source_here", "_law_dims_here", "_law_spot", "_law_odd", "_law_modulus", "_law_weights", "_law_size", "_law_rest", "_law_one", "_law_k"]
theorem sc_law_draw_responder : FnScope N_law_draw_responder ["_law_source_here", "_law_dims_here", "_law_spot"] (defScope s_law_draw_responder) := ⟨rfl, rfl, rfl, by decide +kernel, rfl, by decide +kernel, by decide +kernel⟩
abbrev s_law_answer : Stmt := top 74
abbrev N_law_answer : List Str := ["_law_dims_here", "_law_responder", "_law_spot", "_law_hop", "_law_done", "_law_ahead"]
theorem sc_law_answer : FnScope N_law_answer ["_law_dims_here", "_law_responder", "_law_spot", "_law_hop", "_law_done"] (defScope s_law_answer) := ⟨rfl, rfl, rfl, by decide +kernel, rfl, by decide +kernel, by decide +kernel⟩
abbrev s_law_replayed : Stmt := top 75
abbrev N_law_replayed : List Str := ["_law_dims_here", "_law_spot", "_law_responder", "_law_hops", "_law_every", "_law_been", "_law_depths_here", "_law_done", "_law_hop", "_law_word", "_law_both", "_law_one", "_law_factor", "_law_size"]
theorem sc_law_replayed : FnScope N_law_replayed ["_law_dims_here", "_law_spot", "_law_responder", "_law_hops"] (defScope s_law_replayed) := ⟨rfl, rfl, rfl, by decide +kernel, rfl, by decide +kernel, by decide +kernel⟩
abbrev s_law_are_moves : Stmt := top 76
abbrev N_law_are_moves : List Str := ["_law_dims_here", "_law_hops", "_law_entry", "_law_one"]
theorem sc_law_are_moves : FnScope N_law_are_moves ["_law_dims_here", "_law_hops"] (defScope s_law_are_moves) := ⟨rfl, rfl, rfl, by decide +kernel, rfl, by decide +kernel, by decide +kernel⟩
abbrev s_law_recorded : Stmt := top 77
abbrev N_law_recorded : List Str := ["_law_source_here", "_law_dims_here", "_law_spot", "_law_found", "_law_goals", "_law_walk", "_law_firsts", "_law_hop", "_law_word", "_law_record"]
theorem sc_law_recorded : FnScope N_law_recorded ["_law_source_here", "_law_dims_here", "_law_spot", "_law_found"] (defScope s_law_recorded) := ⟨rfl, rfl, rfl, by decide +kernel, rfl, by decide +kernel, by decide +kernel⟩
abbrev s_law_right : Stmt := top 78
abbrev N_law_right : List Str := ["_law_dims_here", "_law_spot", "_law_responder", "_law_bound", "_law_found", "_law_replayed_here"]
theorem sc_law_right : FnScope N_law_right ["_law_dims_here", "_law_spot", "_law_responder", "_law_bound", "_law_found"] (defScope s_law_right) := ⟨rfl, rfl, rfl, by decide +kernel, rfl, by decide +kernel, by decide +kernel⟩
abbrev s_law_large_right : Stmt := top 79
abbrev N_law_large_right : List Str := ["_law_source_here", "_law_dims_here", "_law_spot", "_law_responder", "_law_bound"]
theorem sc_law_large_right : FnScope N_law_large_right ["_law_source_here"] (defScope s_law_large_right) := ⟨rfl, rfl, rfl, by decide +kernel, rfl, by decide +kernel, by decide +kernel⟩
abbrev s_law : Stmt := top 80
abbrev N_law : List Str := ["_law_script", "_law_cell", "_law_source_here", "_law_dims_here", "_law_spot", "_law_responder", "_law_shown", "_law_bound", "_law_texts", "_law_turn", "_law_found"]
theorem sc_law : FnScope N_law ["_law_script"] (defScope s_law) := ⟨rfl, rfl, rfl, by decide +kernel, rfl, by decide +kernel, by decide +kernel⟩
/-- what the top has written -/
structure TX (K : PySem.W.Frag) (mg : Str → Option Value) where
  f_wall : Addr
  fd_wall : FuncData
  F_wall : Fun K "_wall" "_wall" s_wall f_wall fd_wall
  b_wall : Binds K fd_wall ["k"] []
  m_wall : mg "_wall" = some (.ref f_wall)
  f_is_integer : Addr
  fd_is_integer : FuncData
  F_is_integer : Fun K "is_integer" "is_integer" s_is_integer f_is_integer fd_is_integer
  b_is_integer : Binds K fd_is_integer ["value"] []
  m_is_integer : mg "is_integer" = some (.ref f_is_integer)
  f_is_at_least : Addr
  fd_is_at_least : FuncData
  F_is_at_least : Fun K "is_at_least" "is_at_least" s_is_at_least f_is_at_least fd_is_at_least
  b_is_at_least : Binds K fd_is_at_least ["value", "low"] []
  m_is_at_least : mg "is_at_least" = some (.ref f_is_at_least)
  f_is_between : Addr
  fd_is_between : FuncData
  F_is_between : Fun K "is_between" "is_between" s_is_between f_is_between fd_is_between
  b_is_between : Binds K fd_is_between ["value", "low", "high"] []
  m_is_between : mg "is_between" = some (.ref f_is_between)
  f_require_at_least : Addr
  fd_require_at_least : FuncData
  F_require_at_least : Fun K "require_at_least" "require_at_least" s_require_at_least f_require_at_least fd_require_at_least
  b_require_at_least : Binds K fd_require_at_least ["value", "low", "name"] []
  m_require_at_least : mg "require_at_least" = some (.ref f_require_at_least)
  f_greatest_common_divisor : Addr
  fd_greatest_common_divisor : FuncData
  F_greatest_common_divisor : Fun K "greatest_common_divisor" "greatest_common_divisor" s_greatest_common_divisor f_greatest_common_divisor fd_greatest_common_divisor
  b_greatest_common_divisor : Binds K fd_greatest_common_divisor ["first", "second"] []
  m_greatest_common_divisor : mg "greatest_common_divisor" = some (.ref f_greatest_common_divisor)
  f_odd_part : Addr
  fd_odd_part : FuncData
  F_odd_part : Fun K "odd_part" "odd_part" s_odd_part f_odd_part fd_odd_part
  b_odd_part : Binds K fd_odd_part ["number"] []
  m_odd_part : mg "odd_part" = some (.ref f_odd_part)
  f_Table_init : Addr
  fd_Table_init : FuncData
  F_Table_init : Fun K "__init__" "Table.__init__" s_Table_init f_Table_init fd_Table_init
  b_Table_init : Binds K fd_Table_init ["self", "rings"] []
  f_Table_sizes : Addr
  fd_Table_sizes : FuncData
  F_Table_sizes : Fun K "sizes" "Table.sizes" s_Table_sizes f_Table_sizes fd_Table_sizes
  b_Table_sizes : Binds K fd_Table_sizes ["self"] []
  f_Table_count : Addr
  fd_Table_count : FuncData
  F_Table_count : Fun K "count" "Table.count" s_Table_count f_Table_count fd_Table_count
  b_Table_count : Binds K fd_Table_count ["self"] []
  f_Table_is_seat : Addr
  fd_Table_is_seat : FuncData
  F_Table_is_seat : Fun K "is_seat" "Table.is_seat" s_Table_is_seat f_Table_is_seat fd_Table_is_seat
  b_Table_is_seat : Binds K fd_Table_is_seat ["self", "value"] []
  f_Table_is_call : Addr
  fd_Table_is_call : FuncData
  F_Table_is_call : Fun K "is_call" "Table.is_call" s_Table_is_call f_Table_is_call fd_Table_is_call
  b_Table_is_call : Binds K fd_Table_is_call ["self", "value"] []
  f_Table_shifted : Addr
  fd_Table_shifted : FuncData
  F_Table_shifted : Fun K "shifted" "Table.shifted" s_Table_shifted f_Table_shifted fd_Table_shifted
  b_Table_shifted : Binds K fd_Table_shifted ["self", "seat", "call", "factor"] []
  f_Table_moves : Addr
  fd_Table_moves : FuncData
  F_Table_moves : Fun K "moves" "Table.moves" s_Table_moves f_Table_moves fd_Table_moves
  b_Table_moves : Binds K fd_Table_moves ["self", "seat", "call"] []
  f_Table_step : Addr
  fd_Table_step : FuncData
  F_Table_step : Fun K "step" "Table.step" s_Table_step f_Table_step fd_Table_step
  b_Table_step : Binds K fd_Table_step ["self", "seat", "call", "direction"] []
  f_Table_order : Addr
  fd_Table_order : FuncData
  F_Table_order : Fun K "order" "Table.order" s_Table_order f_Table_order fd_Table_order
  b_Table_order : Binds K fd_Table_order ["self", "seat"] []
  f_Table_halves : Addr
  fd_Table_halves : FuncData
  F_Table_halves : Fun K "halves" "Table.halves" s_Table_halves f_Table_halves fd_Table_halves
  b_Table_halves : Binds K fd_Table_halves ["self", "seat"] []
  f_is_direction : Addr
  fd_is_direction : FuncData
  F_is_direction : Fun K "is_direction" "is_direction" s_is_direction f_is_direction fd_is_direction
  b_is_direction : Binds K fd_is_direction ["value"] []
  m_is_direction : mg "is_direction" = some (.ref f_is_direction)
  f_require_table : Addr
  fd_require_table : FuncData
  F_require_table : Fun K "require_table" "require_table" s_require_table f_require_table fd_require_table
  b_require_table : Binds K fd_require_table ["table"] []
  m_require_table : mg "require_table" = some (.ref f_require_table)
  f_require_seat : Addr
  fd_require_seat : FuncData
  F_require_seat : Fun K "require_seat" "require_seat" s_require_seat f_require_seat fd_require_seat
  b_require_seat : Binds K fd_require_seat ["table", "seat"] []
  m_require_seat : mg "require_seat" = some (.ref f_require_seat)
  f_require_call : Addr
  fd_require_call : FuncData
  F_require_call : Fun K "require_call" "require_call" s_require_call f_require_call fd_require_call
  b_require_call : Binds K fd_require_call ["table", "call"] []
  m_require_call : mg "require_call" = some (.ref f_require_call)
  f_require_targets : Addr
  fd_require_targets : FuncData
  F_require_targets : Fun K "require_targets" "require_targets" s_require_targets f_require_targets fd_require_targets
  b_require_targets : Binds K fd_require_targets ["table", "targets"] []
  m_require_targets : mg "require_targets" = some (.ref f_require_targets)
  f_require_small : Addr
  fd_require_small : FuncData
  F_require_small : Fun K "require_small" "require_small" s_require_small f_require_small fd_require_small
  b_require_small : Binds K fd_require_small ["table"] []
  m_require_small : mg "require_small" = some (.ref f_require_small)
  f_all_seats : Addr
  fd_all_seats : FuncData
  F_all_seats : Fun K "all_seats" "all_seats" s_all_seats f_all_seats fd_all_seats
  b_all_seats : Binds K fd_all_seats ["table"] []
  m_all_seats : mg "all_seats" = some (.ref f_all_seats)
  f_mirror_seat : Addr
  fd_mirror_seat : FuncData
  F_mirror_seat : Fun K "mirror_seat" "mirror_seat" s_mirror_seat f_mirror_seat fd_mirror_seat
  b_mirror_seat : Binds K fd_mirror_seat ["table", "seat", "other"] []
  m_mirror_seat : mg "mirror_seat" = some (.ref f_mirror_seat)
  f_call_to : Addr
  fd_call_to : FuncData
  F_call_to : Fun K "call_to" "call_to" s_call_to f_call_to fd_call_to
  b_call_to : Binds K fd_call_to ["table", "seat", "other"] []
  m_call_to : mg "call_to" = some (.ref f_call_to)
  f_call_counts : Addr
  fd_call_counts : FuncData
  F_call_counts : Fun K "call_counts" "call_counts" s_call_counts f_call_counts fd_call_counts
  b_call_counts : Binds K fd_call_counts ["table", "targets"] []
  m_call_counts : mg "call_counts" = some (.ref f_call_counts)
  f_call_from : Addr
  fd_call_from : FuncData
  F_call_from : Fun K "call_from" "call_from" s_call_from f_call_from fd_call_from
  b_call_from : Binds K fd_call_from ["table", "counts", "seat"] []
  m_call_from : mg "call_from" = some (.ref f_call_from)
  f_combined : Addr
  fd_combined : FuncData
  F_combined : Fun K "combined" "combined" s_combined f_combined fd_combined
  b_combined : Binds K fd_combined ["first", "second", "column"] []
  m_combined : mg "combined" = some (.ref f_combined)
  f_reduced : Addr
  fd_reduced : FuncData
  F_reduced : Fun K "reduced" "reduced" s_reduced f_reduced fd_reduced
  b_reduced : Binds K fd_reduced ["row", "column", "odds"] []
  m_reduced : mg "reduced" = some (.ref f_reduced)
  f_shift_basis : Addr
  fd_shift_basis : FuncData
  F_shift_basis : Fun K "shift_basis" "shift_basis" s_shift_basis f_shift_basis fd_shift_basis
  b_shift_basis : Binds K fd_shift_basis ["sizes", "targets"] []
  m_shift_basis : mg "shift_basis" = some (.ref f_shift_basis)
  f_diagonal_product : Addr
  fd_diagonal_product : FuncData
  F_diagonal_product : Fun K "diagonal_product" "diagonal_product" s_diagonal_product f_diagonal_product fd_diagonal_product
  b_diagonal_product : Binds K fd_diagonal_product ["basis"] []
  m_diagonal_product : mg "diagonal_product" = some (.ref f_diagonal_product)
  f_coordinates : Addr
  fd_coordinates : FuncData
  F_coordinates : Fun K "coordinates" "coordinates" s_coordinates f_coordinates fd_coordinates
  b_coordinates : Binds K fd_coordinates ["basis", "vector"] []
  m_coordinates : mg "coordinates" = some (.ref f_coordinates)
  f_is_free : Addr
  fd_is_free : FuncData
  F_is_free : Fun K "is_free" "is_free" s_is_free f_is_free fd_is_free
  b_is_free : Binds K fd_is_free ["basis", "vector"] []
  m_is_free : mg "is_free" = some (.ref f_is_free)
  f_separating_witness : Addr
  fd_separating_witness : FuncData
  F_separating_witness : Fun K "separating_witness" "separating_witness" s_separating_witness f_separating_witness fd_separating_witness
  b_separating_witness : Binds K fd_separating_witness ["sizes", "targets", "basis", "difference"] []
  m_separating_witness : mg "separating_witness" = some (.ref f_separating_witness)
  f_reach : Addr
  fd_reach : FuncData
  F_reach : Fun K "reach" "reach" s_reach f_reach fd_reach
  b_reach : Binds K fd_reach ["table", "targets", "seat"] []
  m_reach : mg "reach" = some (.ref f_reach)
  f_weighted : Addr
  fd_weighted : FuncData
  F_weighted : Fun K "weighted" "weighted" s_weighted f_weighted fd_weighted
  b_weighted : Binds K fd_weighted ["modulus", "weights", "seat"] []
  m_weighted : mg "weighted" = some (.ref f_weighted)
  f_is_witness : Addr
  fd_is_witness : FuncData
  F_is_witness : Fun K "is_witness" "is_witness" s_is_witness f_is_witness fd_is_witness
  b_is_witness : Binds K fd_is_witness ["table", "witness"] []
  m_is_witness : mg "is_witness" = some (.ref f_is_witness)
  f_unvisited_seats : Addr
  fd_unvisited_seats : FuncData
  F_unvisited_seats : Fun K "unvisited_seats" "unvisited_seats" s_unvisited_seats f_unvisited_seats fd_unvisited_seats
  b_unvisited_seats : Binds K fd_unvisited_seats ["table", "visited", "seat"] []
  m_unvisited_seats : mg "unvisited_seats" = some (.ref f_unvisited_seats)
  f_next_action : Addr
  fd_next_action : FuncData
  F_next_action : Fun K "next_action" "next_action" s_next_action f_next_action fd_next_action
  b_next_action : Binds K fd_next_action ["table", "open_seats", "seat"] []
  m_next_action : mg "next_action" = some (.ref f_next_action)
  f_is_responder : Addr
  fd_is_responder : FuncData
  F_is_responder : Fun K "is_responder" "is_responder" s_is_responder f_is_responder fd_is_responder
  b_is_responder : Binds K fd_is_responder ["table", "responder", "seat"] []
  m_is_responder : mg "is_responder" = some (.ref f_is_responder)
  f_answer_of : Addr
  fd_answer_of : FuncData
  F_answer_of : Fun K "answer_of" "answer_of" s_answer_of f_answer_of fd_answer_of
  b_answer_of : Binds K fd_answer_of ["table", "responder", "seat", "call", "done"] []
  m_answer_of : mg "answer_of" = some (.ref f_answer_of)
  f_run_tour : Addr
  fd_run_tour : FuncData
  F_run_tour : Fun K "run_tour" "run_tour" s_run_tour f_run_tour fd_run_tour
  b_run_tour : Binds K fd_run_tour ["table", "seat", "responder", "limit"] []
  m_run_tour : mg "run_tour" = some (.ref f_run_tour)
  f_is_move : Addr
  fd_is_move : FuncData
  F_is_move : Fun K "is_move" "is_move" s_is_move f_is_move fd_is_move
  b_is_move : Binds K fd_is_move ["table", "value"] []
  m_is_move : mg "is_move" = some (.ref f_is_move)
  f_require_moves : Addr
  fd_require_moves : FuncData
  F_require_moves : Fun K "require_moves" "require_moves" s_require_moves f_require_moves fd_require_moves
  b_require_moves : Binds K fd_require_moves ["table", "moves"] []
  m_require_moves : mg "require_moves" = some (.ref f_require_moves)
  f_visited_seats : Addr
  fd_visited_seats : FuncData
  F_visited_seats : Fun K "visited_seats" "visited_seats" s_visited_seats f_visited_seats fd_visited_seats
  b_visited_seats : Binds K fd_visited_seats ["table", "seat", "moves"] []
  m_visited_seats : mg "visited_seats" = some (.ref f_visited_seats)
  f_Record_init : Addr
  fd_Record_init : FuncData
  F_Record_init : Fun K "__init__" "Record.__init__" s_Record_init f_Record_init fd_Record_init
  b_Record_init : Binds K fd_Record_init ["self", "table", "targets", "seat", "moves"] []
  f_Record_seats : Addr
  fd_Record_seats : FuncData
  F_Record_seats : Fun K "seats" "Record.seats" s_Record_seats f_Record_seats fd_Record_seats
  b_Record_seats : Binds K fd_Record_seats ["self"] []
  f_Record_calls_to_target : Addr
  fd_Record_calls_to_target : FuncData
  F_Record_calls_to_target : Fun K "calls_to_target" "Record.calls_to_target" s_Record_calls_to_target f_Record_calls_to_target fd_Record_calls_to_target
  b_Record_calls_to_target : Binds K fd_Record_calls_to_target ["self"] []
  f_Record_losses : Addr
  fd_Record_losses : FuncData
  F_Record_losses : Fun K "losses" "Record.losses" s_Record_losses f_Record_losses fd_Record_losses
  b_Record_losses : Binds K fd_Record_losses ["self"] []
  f_Record_first_mistake : Addr
  fd_Record_first_mistake : FuncData
  F_Record_first_mistake : Fun K "first_mistake" "Record.first_mistake" s_Record_first_mistake f_Record_first_mistake fd_Record_first_mistake
  b_Record_first_mistake : Binds K fd_Record_first_mistake ["self"] []
  f_law_mix : Addr
  fd_law_mix : FuncData
  F_law_mix : Fun K "_law_mix" "_law_mix" s_law_mix f_law_mix fd_law_mix
  b_law_mix : Binds K fd_law_mix ["_law_cell", "_law_step"] []
  m_law_mix : mg "_law_mix" = some (.ref f_law_mix)
  f_law_source : Addr
  fd_law_source : FuncData
  F_law_source : Fun K "_law_source" "_law_source" s_law_source f_law_source fd_law_source
  b_law_source : Binds K fd_law_source ["_law_cell"] []
  m_law_source : mg "_law_source" = some (.ref f_law_source)
  f_law_draw : Addr
  fd_law_draw : FuncData
  F_law_draw : Fun K "_law_draw" "_law_draw" s_law_draw f_law_draw fd_law_draw
  b_law_draw : Binds K fd_law_draw ["_law_source_here", "_law_bound"] []
  m_law_draw : mg "_law_draw" = some (.ref f_law_draw)
  f_law_choice : Addr
  fd_law_choice : FuncData
  F_law_choice : Fun K "_law_choice" "_law_choice" s_law_choice f_law_choice fd_law_choice
  b_law_choice : Binds K fd_law_choice ["_law_source_here", "_law_options"] []
  m_law_choice : mg "_law_choice" = some (.ref f_law_choice)
  f_law_shuffle : Addr
  fd_law_shuffle : FuncData
  F_law_shuffle : Fun K "_law_shuffle" "_law_shuffle" s_law_shuffle f_law_shuffle fd_law_shuffle
  b_law_shuffle : Binds K fd_law_shuffle ["_law_source_here", "_law_options"] []
  m_law_shuffle : mg "_law_shuffle" = some (.ref f_law_shuffle)
  f_law_dims : Addr
  fd_law_dims : FuncData
  F_law_dims : Fun K "_law_dims" "_law_dims" s_law_dims f_law_dims fd_law_dims
  b_law_dims : Binds K fd_law_dims ["_law_source_here", "_law_bound"] []
  m_law_dims : mg "_law_dims" = some (.ref f_law_dims)
  f_law_total : Addr
  fd_law_total : FuncData
  F_law_total : Fun K "_law_total" "_law_total" s_law_total f_law_total fd_law_total
  b_law_total : Binds K fd_law_total ["_law_dims_here"] []
  m_law_total : mg "_law_total" = some (.ref f_law_total)
  f_law_spots : Addr
  fd_law_spots : FuncData
  F_law_spots : Fun K "_law_spots" "_law_spots" s_law_spots f_law_spots fd_law_spots
  b_law_spots : Binds K fd_law_spots ["_law_dims_here"] []
  m_law_spots : mg "_law_spots" = some (.ref f_law_spots)
  f_law_moved : Addr
  fd_law_moved : FuncData
  F_law_moved : Fun K "_law_moved" "_law_moved" s_law_moved f_law_moved fd_law_moved
  b_law_moved : Binds K fd_law_moved ["_law_dims_here", "_law_spot", "_law_hop", "_law_factor"] []
  m_law_moved : mg "_law_moved" = some (.ref f_law_moved)
  f_law_depths : Addr
  fd_law_depths : FuncData
  F_law_depths : Fun K "_law_depths" "_law_depths" s_law_depths f_law_depths fd_law_depths
  b_law_depths : Binds K fd_law_depths ["_law_dims_here", "_law_goals"] []
  m_law_depths : mg "_law_depths" = some (.ref f_law_depths)
  f_law_has_hop : Addr
  fd_law_has_hop : FuncData
  F_law_has_hop : Fun K "_law_has_hop" "_law_has_hop" s_law_has_hop f_law_has_hop fd_law_has_hop
  b_law_has_hop : Binds K fd_law_has_hop ["_law_dims_here", "_law_every", "_law_spot", "_law_known"] []
  m_law_has_hop : mg "_law_has_hop" = some (.ref f_law_has_hop)
  f_law_residue : Addr
  fd_law_residue : FuncData
  F_law_residue : Fun K "_law_residue" "_law_residue" s_law_residue f_law_residue fd_law_residue
  b_law_residue : Binds K fd_law_residue ["_law_weights", "_law_modulus", "_law_spot"] []
  m_law_residue : mg "_law_residue" = some (.ref f_law_residue)
  f_law_number : Addr
  fd_law_number : FuncData
  F_law_number : Fun K "_law_number" "_law_number" s_law_number f_law_number fd_law_number
  b_law_number : Binds K fd_law_number ["_law_thing", "_law_low", "_law_high"] []
  m_law_number : mg "_law_number" = some (.ref f_law_number)
  f_law_draw_responder : Addr
  fd_law_draw_responder : FuncData
  F_law_draw_responder : Fun K "_law_draw_responder" "_law_draw_responder" s_law_draw_responder f_law_draw_responder fd_law_draw_responder
  b_law_draw_responder : Binds K fd_law_draw_responder ["_law_source_here", "_law_dims_here", "_law_spot"] []
  m_law_draw_responder : mg "_law_draw_responder" = some (.ref f_law_draw_responder)
  f_law_answer : Addr
  fd_law_answer : FuncData
  F_law_answer : Fun K "_law_answer" "_law_answer" s_law_answer f_law_answer fd_law_answer
  b_law_answer : Binds K fd_law_answer ["_law_dims_here", "_law_responder", "_law_spot", "_law_hop", "_law_done"] []
  m_law_answer : mg "_law_answer" = some (.ref f_law_answer)
  f_law_replayed : Addr
  fd_law_replayed : FuncData
  F_law_replayed : Fun K "_law_replayed" "_law_replayed" s_law_replayed f_law_replayed fd_law_replayed
  b_law_replayed : Binds K fd_law_replayed ["_law_dims_here", "_law_spot", "_law_responder", "_law_hops"] []
  m_law_replayed : mg "_law_replayed" = some (.ref f_law_replayed)
  f_law_are_moves : Addr
  fd_law_are_moves : FuncData
  F_law_are_moves : Fun K "_law_are_moves" "_law_are_moves" s_law_are_moves f_law_are_moves fd_law_are_moves
  b_law_are_moves : Binds K fd_law_are_moves ["_law_dims_here", "_law_hops"] []
  m_law_are_moves : mg "_law_are_moves" = some (.ref f_law_are_moves)
  f_law_recorded : Addr
  fd_law_recorded : FuncData
  F_law_recorded : Fun K "_law_recorded" "_law_recorded" s_law_recorded f_law_recorded fd_law_recorded
  b_law_recorded : Binds K fd_law_recorded ["_law_source_here", "_law_dims_here", "_law_spot", "_law_found"] []
  m_law_recorded : mg "_law_recorded" = some (.ref f_law_recorded)
  f_law_right : Addr
  fd_law_right : FuncData
  F_law_right : Fun K "_law_right" "_law_right" s_law_right f_law_right fd_law_right
  b_law_right : Binds K fd_law_right ["_law_dims_here", "_law_spot", "_law_responder", "_law_bound", "_law_found"] []
  m_law_right : mg "_law_right" = some (.ref f_law_right)
  f_law_large_right : Addr
  fd_law_large_right : FuncData
  F_law_large_right : Fun K "_law_large_right" "_law_large_right" s_law_large_right f_law_large_right fd_law_large_right
  b_law_large_right : Binds K fd_law_large_right ["_law_source_here"] []
  m_law_large_right : mg "_law_large_right" = some (.ref f_law_large_right)
  f_law : Addr
  fd_law : FuncData
  F_law : Fun K "law" "law" s_law f_law fd_law
  b_law : Binds K fd_law ["_law_script"] []
  m_law : mg "law" = some (.ref f_law)
  C_Table : Addr
  cl_Table : Cls K C_Table
  m_Table : mg "Table" = some (.ref C_Table)
  M_Table : Mk K C_Table f_Table_init
  me_Table_sizes : Meth K C_Table "sizes" f_Table_sizes
  me_Table_count : Meth K C_Table "count" f_Table_count
  me_Table_is_seat : Meth K C_Table "is_seat" f_Table_is_seat
  me_Table_is_call : Meth K C_Table "is_call" f_Table_is_call
  me_Table_shifted : Meth K C_Table "shifted" f_Table_shifted
  me_Table_moves : Meth K C_Table "moves" f_Table_moves
  me_Table_step : Meth K C_Table "step" f_Table_step
  me_Table_order : Meth K C_Table "order" f_Table_order
  me_Table_halves : Meth K C_Table "halves" f_Table_halves
  n_Table_rings : NoAttr K C_Table "rings"
  ic_Table : PySem.W.findIn K (.ref C_Table) "__class__" = some (some (.builtin "object.__class__"))
  im_Table : PySem.W.mroIn K C_Table (.type "object") = some true
  C_Record : Addr
  cl_Record : Cls K C_Record
  m_Record : mg "Record" = some (.ref C_Record)
  M_Record : Mk K C_Record f_Record_init
  me_Record_seats : Meth K C_Record "seats" f_Record_seats
  me_Record_calls_to_target : Meth K C_Record "calls_to_target" f_Record_calls_to_target
  me_Record_losses : Meth K C_Record "losses" f_Record_losses
  me_Record_first_mistake : Meth K C_Record "first_mistake" f_Record_first_mistake
  n_Record_visited : NoAttr K C_Record "visited"
  n_Record_table : NoAttr K C_Record "table"
  n_Record_goals : NoAttr K C_Record "goals"
  n_Record_played : NoAttr K C_Record "played"
  ig_ : PySem.W.specialIn K (.builtin "object.__class__") "__get__" = some (some (.builtin "getset_descriptor.__get__"))
  it_ : PySem.W.takesIn K (.builtin "object.__class__") = some true
  t_MAX_RINGS : Tok
  c_MAX_RINGS : mg "MAX_RINGS" = some (.int 4 t_MAX_RINGS)
  t_SMALL : Tok
  c_SMALL : mg "SMALL" = some (.int 300 t_SMALL)
  z_abs : mg "abs" = none
  z_all : mg "all" = none
  z_any : mg "any" = none
  z_bool : mg "bool" = none
  z_enumerate : mg "enumerate" = none
  z_int : mg "int" = none
  z_isinstance : mg "isinstance" = none
  z_len : mg "len" = none
  z_list : mg "list" = none
  z_range : mg "range" = none
  z_repr : mg "repr" = none
  z_str : mg "str" = none
  z_sum : mg "sum" = none
  z_tuple : mg "tuple" = none
  z_zip : mg "zip" = none
/-- not an int (a bool is none) -/
def NotI (K : PySem.W.Frag) (H : Hp) (x : V) : Prop := ∃ t b1 b2, TyX K H x t ∧ PySem.W.kitOne K t (.type "int") = some b1 ∧ PySem.W.kitOne K t (.type "bool") = some b2 ∧ (b1 && !b2) = false
/-- what x is, if an int -/
def IsI (K : PySem.W.Frag) (H : Hp) (x : V) : Option Int → Prop
  | some i => x = .int i
  | none => NotI K H x
def atLeast : Option Int → Int → Bool
  | some i, low => decide (low ≤ i)
  | none, _ => false
def between : Option Int → Int → Int → Bool
  | some i, low, high => decide (low ≤ i) && decide (i ≤ high)
  | none, _, _ => false

section
variable {P : Program} {w : World} {K : PySem.W.Frag} {mg : Str → Option Value} {base : Heap}
def sp_is_integer (K : PySem.W.Frag) : Sp := fun vs H Q _ => ∃ x o, vs = [x] ∧ IsI K H x o ∧ Q (.bl o.isSome) H
theorem ok_is_integer (T : TX K mg) : FnOk P w K mg base CX0 1 T.f_is_integer T.fd_is_integer ["value"] (sp_is_integer K) := by
  refine T.F_is_integer.ok sc_is_integer (fun vs H Q E h => ?_) (fun cdv A outer s H vs Q E hr h => ?_)
  · obtain ⟨x, o, rfl, _⟩ := h
    rfl
  · obtain ⟨x, o, rfl, hx, k⟩ := h
    refine ⟨_, (pss_one (ps_ret (pe_and (pe_callB call_isi (by rfl) T.z_isinstance (by decide +kernel) (pa_cons (pv 0) (pa_cons (pe_bltn (v := .ty "int") rfl T.z_int (by decide +kernel) rfl) pa_nil))) (pe_one (pe_not (pe_callB call_isi (by rfl) T.z_isinstance (by decide +kernel) (pa_cons (pv 0) (pa_cons (pe_bltn (v := .ty "bool") rfl T.z_bool (by decide +kernel) rfl) pa_nil)))))))), ?_⟩
    cases o with
    | some i =>
      cases hx
      exact ⟨_, rfl, _, _, _, _, true, rfl, .ty _, .base (.int i), kit_ty (by decide +kernel), _, rfl, _, rfl, _, _, _, _, false, rfl, .ty _, .base (.int i), kit_ty (by decide +kernel), _, rfl, k⟩
    | none =>
      obtain ⟨t, b1, b2, ht, h1, h2, hb⟩ := hx
      refine ⟨_, rfl, _, _, _, _, b1, rfl, .ty _, ht, h1, _, rfl, ?_⟩
      cases b1 with
      | false => exact k
      | true =>
        refine ⟨_, rfl, _, _, _, _, b2, rfl, .ty _, ht, h2, _, rfl, ?_⟩
        have e : (!b2) = false := hb
        rw [e]
        exact k
def sp_is_at_least (K : PySem.W.Frag) : Sp := fun vs H Q _ => ∃ x o low, vs = [x, .int low] ∧ IsI K H x o ∧ Q (.bl (atLeast o low)) H
theorem ok_is_at_least (T : TX K mg) : FnOk P w K mg base CX0 2 T.f_is_at_least T.fd_is_at_least ["value", "low"] (sp_is_at_least K) := by
  refine T.F_is_at_least.ok sc_is_at_least (fun vs H Q E h => ?_) (fun cdv A outer s H vs Q E hr h => ?_)
  · obtain ⟨x, o, low, rfl, _⟩ := h
    rfl
  · obtain ⟨x, o, low, rfl, hx, k⟩ := h
    refine ⟨_, (pss_one (ps_ret (pe_and (pe_call (ok_is_integer T) hr rfl T.m_is_integer T.F_is_integer.kp T.b_is_integer .nil pass0 (pa_cons (pv 0) pa_nil)) (pe_one (pe_cmpR op_ge (pv 0) (pv 1) (nomark _)))))), ?_⟩
    refine ⟨_, rfl, x, o, rfl, hx, _, rfl, ?_⟩
    cases o with
    | none => exact k
    | some i =>
      cases hx
      exact ⟨_, rfl, _, rfl, _, _, rfl, rfl, k⟩
def sp_is_between (K : PySem.W.Frag) : Sp := fun vs H Q _ => ∃ x o low high, vs = [x, .int low, .int high] ∧ IsI K H x o ∧ Q (.bl (between o low high)) H
theorem ok_is_between (T : TX K mg) : FnOk P w K mg base CX0 2 T.f_is_between T.fd_is_between ["value", "low", "high"] (sp_is_between K) := by
  refine T.F_is_between.ok sc_is_between (fun vs H Q E h => ?_) (fun cdv A outer s H vs Q E hr h => ?_)
  · obtain ⟨x, o, low, high, rfl, _⟩ := h
    rfl
  · obtain ⟨x, o, low, high, rfl, hx, k⟩ := h
    refine ⟨_, (pss_one (ps_ret (pe_and (pe_call (ok_is_integer T) hr rfl T.m_is_integer T.F_is_integer.kp T.b_is_integer .nil pass0 (pa_cons (pv 0) pa_nil)) (pe_one (pe_chain op_le op_le (pv 1) (pv 0) (pv 2)))))), ?_⟩
    refine ⟨_, rfl, x, o, rfl, hx, _, rfl, ?_⟩
    cases o with
    | none => exact k
    | some i =>
      cases hx
      refine ⟨_, rfl, _, rfl, _, _, rfl, rfl, _, rfl, ?_⟩
      refine ite2 (fun c => ?_) (fun c => ?_)
      · have c1 : low ≤ i := of_decide_eq_true c
        refine ⟨_, rfl, _, _, rfl, rfl, ?_⟩
        have e : between (some i) low high = decide (i ≤ high) := by show (decide (low ≤ i) && decide (i ≤ high)) = _; rw [c]; rfl
        rw [e] at k
        exact k
      · have e : between (some i) low high = false := by show (decide (low ≤ i) && decide (i ≤ high)) = _; rw [Bool.eq_false_iff.mpr c]; rfl
        rw [e] at k
        exact k
end

/-- a table of these sizes stands at a -/
def TabAt (C : Addr) (H : Hp) (a : Addr) (ns : List Int) : Prop := ∃ dx t, H a = some (.ins C dx [("rings", .ref t)]) ∧ H t = some (.tup (ns.map V.int))
theorem TabAt.mono {C : Addr} {H H2 : Hp} {a : Addr} {ns : List Int} (e : Ex H H2) (h : TabAt C H a ns) : TabAt C H2 a ns := by
  obtain ⟨dx, t, h1, h2⟩ := h
  exact ⟨dx, t, e _ _ h1, e _ _ h2⟩
/-- a tracked list (false) or tuple (true) -/
def SqH (H : Hp) (p : Bool × Addr) (xs : List V) : Prop := if p.1 = true then H p.2 = some (.tup xs) else H p.2 = some (.lst xs)
theorem SqH.sq {K : PySem.W.Frag} {H : Hp} {p : Bool × Addr} {xs : List V} (h : SqH H p xs) : CZ.SqK K H p xs := by
  obtain ⟨b, a⟩ := p
  cases b
  · exact SqL.of (show H a = some (.lst xs) from h)
  · exact SqT.of (show H a = some (.tup xs) from h)
theorem SqH.mono {H H2 : Hp} {p : Bool × Addr} {xs : List V} (e : Ex H H2) (h : SqH H p xs) : SqH H2 p xs := by
  obtain ⟨b, a⟩ := p
  cases b
  · exact e _ _ (show H a = some (.lst xs) from h)
  · exact e _ _ (show H a = some (.tup xs) from h)
theorem SqH.ty {K : PySem.W.Frag} {H : Hp} {p : Bool × Addr} {xs : List V} (h : SqH H p xs) : TyX K H (.ref p.2) (.type (if p.1 = true then "tuple" else "list")) := by
  obtain ⟨b, a⟩ := p
  cases b
  · exact .base (.lst (show H a = some (.lst xs) from h))
  · exact .base (.tup (show H a = some (.tup xs) from h))
/-- sizes of a table -/
structure SzOk (ns : List Int) : Prop where
  pos : ns ≠ []
  le : ns.length ≤ 4
  one : ∀ n ∈ ns, 1 ≤ n
theorem len_line {α : Type} {l : List α} (h : l.length ≤ 4) : l.length ≤ sizeLine := Nat.le_trans h (by decide)
theorem take_lt {α : Type} {l : List α} (h : l.length ≤ 1000) (i : Nat) : (l.take i).length < sizeLine := by
  rw [List.length_take]
  exact Nat.lt_of_le_of_lt (Nat.le_trans (Nat.min_le_right _ _) h) (by decide)
theorem take_more {α : Type} {l : List α} {i : Nat} {x : α} (h : l[i]? = some x) : l.take (i + 1) = l.take i ++ [x] := by
  rw [List.take_add_one, h]
  rfl
theorem kit_seq {K : PySem.W.Frag} (b : Bool) : PySem.W.kitAny K (.type (if b = true then "tuple" else "list")) [.type "list", .type "tuple"] = some true := by
  cases b
  · exact kitAny_cons (b := true) (kit_ty (by decide +kernel)) (fun h => nomatch h) (fun _ => rfl)
  · exact kitAny_cons (b := false) (kit_ty (by decide +kernel)) (fun _ => kitAny_cons (b := true) (kit_ty (by decide +kernel)) (fun h => nomatch h) (fun _ => rfl)) (fun h => nomatch h)
theorem sq_or {K : PySem.W.Frag} {H : Hp} {b : Bool} {a : Addr} {xs : List V} (h : SqH H (b, a) xs) : SqL K H a xs ∨ SqT K H a xs := by
  cases b
  · exact .inl (SqL.of (show H a = some (.lst xs) from h))
  · exact .inr (SqT.of (show H a = some (.tup xs) from h))
section
variable {P : Program} {w : World} {K : PySem.W.Frag} {mg : Str → Option Value} {base : Heap}
def sp_Table_init (C : Addr) : Sp := fun vs H Q _ => ∃ (p dx : Addr) (q : Bool × Addr) (ns : List Int), vs = [.ref p, .ref q.2] ∧ H p = some (.ins C dx []) ∧ SqH H q (ns.map V.int) ∧ SzOk ns ∧
  ∀ H2, (∀ c o, c ≠ p → H c = some o → H2 c = some o) → (∃ t, H2 p = some (.ins C dx [("rings", .ref t)]) ∧ H2 t = some (.tup (ns.map V.int))) → Q .non H2
theorem ok_Table_init (T : TX K mg) : FnOk P w K mg base CX0 3 T.f_Table_init T.fd_Table_init ["self", "rings"] (sp_Table_init T.C_Table) := by
  refine T.F_Table_init.ok sc_Table_init (fun vs H Q E h => ?_) (fun cdv A outer s H vs Q E hr h => ?_)
  · obtain ⟨p, dx, q, ns, rfl, _⟩ := h
    rfl
  · obtain ⟨p, dx, ⟨b, a⟩, ns, rfl, hp, hq, ok, k⟩ := h
    refine ⟨_, (pss_cons (ps_if (PW.pt (pw_or (pt_not (pt_val (pe_callB call_isiT (by rfl) T.z_isinstance (by decide +kernel) (pa_cons (pv 1) (pa_cons (pe_tup (pa_cons (pe_bltn (v := .ty "list") rfl T.z_list (by decide +kernel) rfl) (pa_cons (pe_bltn (v := .ty "tuple") rfl T.z_tuple (by decide +kernel) rfl) pa_nil))) pa_nil))))) (pw_or1 (pt_not (pt_chain op_le op_le pe_int (pe_callB call_len_seq (by rfl) T.z_len (by decide +kernel) (pa_cons (pv 1) pa_nil)) (pe_glob (v := .int 4) rfl T.c_MAX_RINGS ⟨_, rfl⟩)))))) pss_never pss_nil) (pss_cons (ps_if (pt_not (pt_val (pe_callB (cr_all rfl) (by rfl) T.z_all (by decide +kernel) (pa_cons (pe_lc (own := [("size", 2)]) (g := (gName 2)) rfl sc_Table_init.nd (pi_seq (pv 1)) (blkOk_by (N := N_Table_init) (sc := defScope s_Table_init) (by decide +kernel)) (fun _ _ _ _ _ => (pg_name (i := 2) sc_Table_init.nd rfl (Or.inl rfl))) (fun _ _ _ _ _ => pts_nil) (fun _ _ _ _ _ => (pe_call (ok_is_at_least T) hr rfl T.m_is_at_least T.F_is_at_least.kp T.b_is_at_least .nil pass0 (pa_cons (pv 2) (pa_cons pe_int pa_nil))))) pa_nil)))) pss_never pss_nil) (pss_one (ps_fld (pv 0) (pe_callTy call_tuple_of (by rfl) T.z_tuple (by decide +kernel) (pa_cons (pv 1) pa_nil)) rfl)))), ?_⟩
    refine ⟨_, rfl, by show 2 ≤ sizeLine; decide, fun y hy => ?_⟩
    refine ⟨_, y, _, _, _, true, rfl, upd_same, .cons (.ty _) (.cons (.ty _) .nil), (hq.mono (exn hy)).ty, kit_seq b, _, rfl, iteF ?_⟩
    have q1 := hq.mono (exn (o := .tup [.ty "list", .ty "tuple"]) hy)
    have lp : 1 ≤ ns.length := List.length_pos_iff.mpr ok.pos
    have l4 := ok.le
    refine ⟨_, rfl, a, _, rfl, sq_or q1, _, _, rfl, rfl, _, rfl, itt (decide_eq_true (by rw [List.length_map]; omega)) ?_⟩
    refine ⟨_, _, rfl, rfl, _, rfl, itf ?_ ?_⟩
    · rw [List.length_map, decide_eq_true (by omega)]
      rfl
    · have all1 : (ns.map fun n => atLeast (some n) 1).all id = true := by
        rw [List.all_map, List.all_eq_true]
        exact fun n hn => decide_eq_true (ok.one n hn)
      refine ⟨_, rfl, (b, a), rfl, ⟨_, q1.sq⟩, fun D hD => ?_⟩
      refine lc_vals walk_seq ((ns.map fun n => atLeast (some n) 1).map V.bl) (by simp) (by rw [List.length_map]; omega) hD (fun H3 e => (q1.mono e).sq) ?_ gmono_name ?_
      · intro i x H3 H4 R hi e yy kk
        obtain ⟨rfl, hx⟩ := yy
        obtain ⟨n, hn, rfl⟩ := map_get hx
        exact ⟨rfl, _, rfl, _, some n, 1, rfl, rfl, kk _ _ exr (by simp [hn])⟩
      · intro H3 e hD3
        have hp3 := e _ _ (exn hy _ _ hp)
        have q3 := q1.mono e
        have ex3 : Ex H H3 := fun c o z => e _ _ (exn hy _ _ z)
        refine ⟨D, _, rfl, SqL.of hD3, _, rfl, itf (by rw [all1]; rfl) ?_⟩
        cases b with
        | false =>
          refine ⟨_, rfl, a, _, rfl, .inl ⟨SqL.of q3, fun l hl => ?_⟩⟩
          have npl : p ≠ l := ne_of_none hp3 hl
          refine ⟨_, rfl, p, _, dx, _, rfl, (by rw [upd_ne npl]; exact hp3), T.cl_Table, T.n_Table_rings, (by show 0 < 1000; decide), ?_⟩
          refine k _ (fun c o hc z => ?_) ⟨l, upd_same, by rw [upd_ne npl.symm, upd_same]⟩
          rw [upd_ne hc, upd_ne (ne_of_none (ex3 c o z) hl)]
          exact ex3 c o z
        | true =>
          refine ⟨_, rfl, a, _, rfl, .inr ⟨SqT.of q3, ?_⟩⟩
          refine ⟨_, rfl, p, _, dx, _, rfl, hp3, T.cl_Table, T.n_Table_rings, (by show 0 < 1000; decide), ?_⟩
          have q3 : H3 a = some (.tup (ns.map V.int)) := q3
          refine k _ (fun c o hc z => ?_) ⟨a, upd_same, by rw [upd_ne (ne_of q3 hp3 (by intro z; cases z))]; exact q3⟩
          rw [upd_ne hc]
          exact ex3 c o z
end

theorem TyX.mono {K : PySem.W.Frag} {H H2 : Hp} {x : V} {t : Value} (e : Ex H H2) (h : TyX K H x t) : TyX K H2 x t := by
  cases h with
  | base h =>
    cases h with
    | non => exact .base .non
    | bl x => exact .base (.bl x)
    | int x => exact .base (.int x)
    | str x => exact .base (.str x)
    | flt x => exact .base (.flt x)
    | lst h => exact .base (.lst (e _ _ h))
    | frz h => exact .base (.frz (e _ _ h))
    | tup h => exact .base (.tup (e _ _ h))
    | dK h => exact .base (.dK (e _ _ h))
    | dT h => exact .base (.dT (e _ _ h))
    | ins h a b c d f => exact .base (.ins (e _ _ h) a b c d f)
  | byt b => exact .byt b
  | set h => exact .set (e _ _ h)
  | kList a b => exact .kList a b
  | kTuple a b => exact .kTuple a b
  | kDict a b => exact .kDict a b
  | fTuple h => exact .fTuple (e _ _ h)
  | fDict h => exact .fDict (e _ _ h)
theorem IsI.mono {K : PySem.W.Frag} {H H2 : Hp} {x : V} {o : Option Int} (e : Ex H H2) (h : IsI K H x o) : IsI K H2 x o := by
  cases o with
  | some i => exact h
  | none =>
    obtain ⟨t, b1, b2, ht, r⟩ := h
    exact ⟨t, b1, b2, TyX.mono e ht, r⟩
theorem paired_get {α β : Type} {R : α → β → Prop} : ∀ {l : List α} {m : List β} {i : Nat} {x : α}, Paired R l m → l[i]? = some x → ∃ y, m[i]? = some y ∧ R x y
  | _, _, _, _, .nil, h => by simp at h
  | _, _, 0, _, .cons r _, h => by simp at h; subst h; exact ⟨_, rfl, r⟩
  | _, _, i + 1, x, .cons _ t, h => by
    obtain ⟨y, h1, h2⟩ := paired_get (i := i) (x := x) t (by simpa using h)
    exact ⟨y, by simpa using h1, h2⟩
/-- what an argument is as a tuple: its items, as ints or not -/
def TupA (K : PySem.W.Frag) (H : Hp) (x : V) : Option (List (Option Int)) → Prop
  | some os => ∃ a xs, x = .ref a ∧ H a = some (.tup xs) ∧ xs.length ≤ 1000 ∧ Paired (IsI K H) xs os
  | none => ∃ t, TyX K H x t ∧ PySem.W.kitOne K t (.type "tuple") = some false
theorem paired_ints {K : PySem.W.Frag} {H : Hp} : ∀ ps : List Int, Paired (IsI K H) (ps.map V.int) (ps.map some)
  | [] => .nil
  | p :: ps => .cons rfl (paired_ints ps)
theorem TupA.ints {K : PySem.W.Frag} {H : Hp} {a : Addr} {ps : List Int} (h : H a = some (.tup (ps.map V.int))) (hl : ps.length ≤ 1000) : TupA K H (.ref a) (some (ps.map some)) :=
  ⟨a, _, rfl, h, by rw [List.length_map]; exact hl, paired_ints ps⟩
def isSeatO (ns : List Int) : Option (List (Option Int)) → Bool
  | some os => decide (os.length = ns.length) && (List.zipWith (fun o n => between o 0 (n - 1)) os ns).all id
  | none => false
def isCallO (ns : List Int) : Option (List (Option Int)) → Bool
  | some os => decide (os.length = ns.length) && (os.map Option.isSome).all id
  | none => false
/-- a seat: one place a ring -/
def SeatOk : List Int → List Int → Prop
  | n :: ns, p :: ps => (0 ≤ p ∧ p < n) ∧ SeatOk ns ps
  | [], [] => True
  | _, _ => False
theorem SeatOk.len : ∀ {ns ps : List Int}, SeatOk ns ps → ps.length = ns.length
  | [], [], _ => rfl
  | _ :: _, _ :: _, h => by
    show _ + 1 = _ + 1
    rw [SeatOk.len h.2]
theorem seat_is : ∀ {ns ps : List Int}, SeatOk ns ps → (List.zipWith (fun o n => between o 0 (n - 1)) (ps.map some) ns).all id = true
  | [], [], _ => rfl
  | n :: ns, p :: ps, h => by
    have ih := seat_is h.2
    show (between (some p) 0 (n - 1) && _) = true
    rw [Bool.and_eq_true]
    refine ⟨?_, ih⟩
    show (decide (0 ≤ p) && decide (p ≤ n - 1)) = true
    rw [decide_eq_true h.1.1, decide_eq_true (by have := h.1.2; omega)]
    rfl
theorem isSeat_ok {ns ps : List Int} (h : SeatOk ns ps) : isSeatO ns (some (ps.map some)) = true := by
  show (decide ((ps.map some).length = ns.length) && _) = true
  rw [Bool.and_eq_true]
  exact ⟨decide_eq_true (by rw [List.length_map]; exact h.len), seat_is h⟩
theorem isCall_ok {ns cs : List Int} (h : cs.length = ns.length) : isCallO ns (some (cs.map some)) = true := by
  show (decide ((cs.map some).length = ns.length) && _) = true
  rw [Bool.and_eq_true]
  refine ⟨decide_eq_true (by rw [List.length_map]; exact h), ?_⟩
  rw [List.map_map, List.all_map, List.all_eq_true]
  exact fun _ _ => rfl
/-- a step by a multiple of a call -/
def shiftL : List Int → List Int → List Int → Int → List Int
  | n :: ns, p :: ps, c :: cs, f => (p + f * c) % n :: shiftL ns ps cs f
  | _, _, _, _ => []
theorem shift_len : ∀ {ns ps cs : List Int} {f : Int}, ps.length = ns.length → cs.length = ns.length → (shiftL ns ps cs f).length = ns.length
  | [], _, _, _, _, _ => by simp [shiftL]
  | _ :: ns, p :: ps, c :: cs, f, h1, h2 => by
    have ih := @shift_len ns ps cs f (by simpa using h1) (by simpa using h2)
    show (shiftL ns ps cs f).length + 1 = _ + 1
    rw [ih]
theorem shift_get : ∀ {ns ps cs : List Int} {f : Int} {i : Nat} {n p c : Int}, ns[i]? = some n → ps[i]? = some p → cs[i]? = some c → (shiftL ns ps cs f)[i]? = some ((p + f * c) % n)
  | n :: ns, p :: ps, c :: cs, f, 0, _, _, _, h1, h2, h3 => by
    simp at h1 h2 h3
    subst h1 h2 h3
    rfl
  | n :: ns, p :: ps, c :: cs, f, i + 1, a, b, d, h1, h2, h3 => by
    have ih := @shift_get ns ps cs f i a b d (by simpa using h1) (by simpa using h2) (by simpa using h3)
    show (shiftL ns ps cs f)[i]? = _
    exact ih
  | [], _, _, _, i, _, _, _, h1, _, _ => by simp at h1
  | _ :: _, [], _, _, i, _, _, _, _, h2, _ => by simp at h2
  | _ :: _, _ :: _, [], _, i, _, _, _, _, _, h3 => by simp at h3
theorem mul_ok {i j : Int} (h : (-(2 ^ 64) < i ∧ i < 2 ^ 64) ∨ (-(2 ^ 64) < j ∧ j < 2 ^ 64)) : IntMulOk i j := CMul.ok h
theorem zip_get {α β γ : Type} {f : α → β → γ} {l : List α} {m : List β} {i : Nat} {x : α} {y : β} (h1 : l[i]? = some x) (h2 : m[i]? = some y) : (List.zipWith f l m)[i]? = some (f x y) := by
  rw [List.getElem?_zipWith, h1, h2]
section
variable {P : Program} {w : World} {K : PySem.W.Frag} {mg : Str → Option Value} {base : Heap}
def sp_Table_sizes (C : Addr) : Sp := fun vs H Q _ => ∃ (a dx t : Addr), vs = [.ref a] ∧ H a = some (.ins C dx [("rings", .ref t)]) ∧ Q (.ref t) H
theorem ok_Table_sizes (T : TX K mg) : FnOk P w K mg base CX0 1 T.f_Table_sizes T.fd_Table_sizes ["self"] (sp_Table_sizes T.C_Table) := by
  refine T.F_Table_sizes.ok sc_Table_sizes (fun vs H Q E h => ?_) (fun cdv A outer s H vs Q E hr h => ?_)
  · obtain ⟨a, dx, t, rfl, _⟩ := h
    rfl
  · obtain ⟨a, dx, t, rfl, h1, k⟩ := h
    exact ⟨_, (pss_one (ps_ret (pe_fld (pv 0) rfl))), ⟨_, rfl, a, _, dx, _, _, rfl, h1, T.cl_Table, T.n_Table_rings, rfl, k⟩⟩
def sp_Table_is_seat (K : PySem.W.Frag) (C : Addr) : Sp := fun vs H Q _ => ∃ (a : Addr) (x : V) (ns : List Int) (ot : Option (List (Option Int))), vs = [.ref a, x] ∧ TabAt C H a ns ∧ ns.length ≤ 4 ∧ TupA K H x ot ∧ ∀ H2, Ex H H2 → Q (.bl (isSeatO ns ot)) H2
theorem ok_Table_is_seat (T : TX K mg) : FnOk P w K mg base CX0 3 T.f_Table_is_seat T.fd_Table_is_seat ["self", "value"] (sp_Table_is_seat K T.C_Table) := by
  refine T.F_Table_is_seat.ok sc_Table_is_seat (fun vs H Q E h => ?_) (fun cdv A outer s H vs Q E hr h => ?_)
  · obtain ⟨a, x, ns, ot, rfl, _⟩ := h
    rfl
  · obtain ⟨a, x, ns, ot, rfl, ⟨dx, t, h1, h2⟩, l4, hx, k⟩ := h
    refine ⟨_, (pss_cons (ps_if (PW.pt (pw_or (pt_not (pt_val (pe_callB call_isi (by rfl) T.z_isinstance (by decide +kernel) (pa_cons (pv 1) (pa_cons (pe_bltn (v := .ty "tuple") rfl T.z_tuple (by decide +kernel) rfl) pa_nil))))) (pw_or1 (pt_cmpR op_ne (pe_callB call_len_seq (by rfl) T.z_len (by decide +kernel) (pa_cons (pv 1) pa_nil)) (pe_callB call_len_seq (by rfl) T.z_len (by decide +kernel) (pa_cons (pe_fld (pv 0) rfl) pa_nil)) (nomark _))))) (pss_one (ps_ret pe_bl)) pss_nil) (pss_one (ps_ret (pe_callB (cr_all rfl) (by rfl) T.z_all (by decide +kernel) (pa_cons (pe_lc (own := [("place", 2), ("size", 3)]) (g := (gTup K 2 (gCons (gName 2) (gCons (gName 3) gNil)))) rfl sc_Table_is_seat.nd (CZ.pi_z2s (fl := [true, true]) rfl (by rfl) T.z_zip (pa_cons (pv 1) (pa_cons (pe_fld (pv 0) rfl) pa_nil))) (blkOk_by (N := N_Table_is_seat) (sc := defScope s_Table_is_seat) (by decide +kernel)) (fun _ _ _ _ _ => (pg_tup rfl (pgs_cons (pg_name (i := 2) sc_Table_is_seat.nd rfl (Or.inl rfl)) (pgs_cons (pg_name (i := 3) sc_Table_is_seat.nd rfl (Or.inl rfl)) pgs_nil)))) (fun _ _ _ _ _ => pts_nil) (fun _ _ _ _ _ => (pe_call (ok_is_between T) hr rfl T.m_is_between T.F_is_between.kp T.b_is_between .nil pass0 (pa_cons (pv 2) (pa_cons pe_int (pa_cons (pe_op op_sub (pv 3) pe_int) pa_nil)))))) pa_nil))))), ?_⟩
    cases ot with
    | none =>
      obtain ⟨ty, hty, hk⟩ := hx
      exact ⟨_, rfl, _, _, _, _, false, rfl, .ty _, hty, hk, _, rfl, k _ exr⟩
    | some os =>
      obtain ⟨v, xs, rfl, hv, hl, hp⟩ := hx
      have lo : xs.length = os.length := Paired.length hp
      refine ⟨_, rfl, _, _, _, _, true, rfl, .ty _, .base (.tup hv), kit_ty (by decide +kernel), _, rfl, iteF ?_⟩
      refine ⟨_, rfl, v, _, rfl, .inr (SqT.of hv), _, rfl, a, _, dx, _, _, rfl, h1, T.cl_Table, T.n_Table_rings, rfl, t, _, rfl, .inr (SqT.of h2), rfl, _, rfl, ?_⟩
      by_cases c : os.length = ns.length
      · refine itf ?_ ?_
        · rw [List.length_map, lo, c]
          simp
        · refine ⟨_, rfl, _, rfl, a, _, dx, _, _, rfl, h1, T.cl_Table, T.n_Table_rings, rfl, [v, t], rfl, rfl, ?_, fun D hD => ?_⟩
          · intro p hp2
            rcases List.mem_cons.mp (show p ∈ [(true, v), (true, t)] from hp2) with e | e
            · rw [e]; exact ⟨xs, SqT.of hv⟩
            · rw [List.mem_singleton.mp e]; exact ⟨_, SqT.of h2⟩
          · have lv : (List.zipWith (fun o n => between o 0 (n - 1)) os ns).length = ns.length := by rw [List.length_zipWith, c, Nat.min_self]
            refine lc_vals (CZ.walk_rows (xss := [xs, ns.map V.int]) (n := ns.length) ?_) ((List.zipWith (fun o n => between o 0 (n - 1)) os ns).map V.bl) (by rw [List.length_map, lv]) (by omega) hD (fun H3 e => .cons (SqT.of (e _ _ hv)) (.cons (SqT.of (e _ _ h2)) .nil)) ?_ (gmono_tup (gmono_cons gmono_name (gmono_cons gmono_name gmono_nil))) ?_
            · intro ys hy
              rcases List.mem_cons.mp hy with e | e
              · rw [e, lo, c]
              · rw [List.mem_singleton.mp e, List.length_map]
            · intro i y H3 H4 R hi e yy kk
              obtain ⟨Ta, vs, rfl, hT, rfl, hr2⟩ := yy
              cases hr2 with
              | cons r1 hr2 =>
                cases hr2 with
                | cons r2 hr2 =>
                  cases hr2
                  obtain ⟨n, hn, rfl⟩ := map_get r2
                  obtain ⟨o, ho, hi2⟩ := paired_get hp r1
                  refine ⟨Ta, _, rfl, SqT.of upd_same, rfl, _, _, rfl, _, _, rfl, rfl, rfl, ?_⟩
                  refine ⟨_, rfl, _, rfl, _, _, rfl, rfl, _, o, 0, n - 1, rfl, hi2.mono (fun b u z => exn hT b u (e b u z)), ?_⟩
                  refine kk _ _ (exn hT) ?_
                  rw [List.getElem?_map, zip_get ho hn]
                  rfl
            · intro H3 e hD3
              refine ⟨D, _, rfl, SqL.of hD3, ?_⟩
              have es : isSeatO ns (some os) = (List.zipWith (fun o n => between o 0 (n - 1)) os ns).all id := by
                show (decide _ && _) = _
                rw [decide_eq_true c, Bool.true_and]
              rw [← es]
              exact k _ e
      · refine itt ?_ ?_
        · rw [List.length_map, lo]
          simp
          omega
        · have es : isSeatO ns (some os) = false := by
            show (decide _ && _) = _
            rw [decide_eq_false c, Bool.false_and]
          have := k _ exr
          rw [es] at this
          exact this
end

/-- what an argument is as a text -/
def StrA (K : PySem.W.Frag) (H : Hp) (x : V) : Option Str → Prop
  | some z => x = .str z
  | none => ∃ t, TyX K H x t ∧ PySem.W.kitOne K t (.type "str") = some false
def isDirO : Option Str → Bool
  | some z => decide (z = "forward") || decide (z = "backward")
  | none => false
theorem tup_ge {xs : List V} (h : xs.length ≤ 4) : xs.length ≤ sizeLine := Nat.le_trans h (by decide)
section
variable {P : Program} {w : World} {K : PySem.W.Frag} {mg : Str → Option Value} {base : Heap}
def sp_Table_is_call (K : PySem.W.Frag) (C : Addr) : Sp := fun vs H Q _ => ∃ (a : Addr) (x : V) (ns : List Int) (ot : Option (List (Option Int))), vs = [.ref a, x] ∧ TabAt C H a ns ∧ TupA K H x ot ∧ ∀ H2, Ex H H2 → Q (.bl (isCallO ns ot)) H2
theorem ok_Table_is_call (T : TX K mg) : FnOk P w K mg base CX0 2 T.f_Table_is_call T.fd_Table_is_call ["self", "value"] (sp_Table_is_call K T.C_Table) := by
  refine T.F_Table_is_call.ok sc_Table_is_call (fun vs H Q E h => ?_) (fun cdv A outer s H vs Q E hr h => ?_)
  · obtain ⟨a, x, ns, ot, rfl, _⟩ := h
    rfl
  · obtain ⟨a, x, ns, ot, rfl, ⟨dx, t, h1, h2⟩, hx, k⟩ := h
    refine ⟨_, (pss_one (ps_ret (pe_and (pe_callB call_isi (by rfl) T.z_isinstance (by decide +kernel) (pa_cons (pv 1) (pa_cons (pe_bltn (v := .ty "tuple") rfl T.z_tuple (by decide +kernel) rfl) pa_nil))) (pe_and (pe_cmpR op_eq (pe_callB call_len_seq (by rfl) T.z_len (by decide +kernel) (pa_cons (pv 1) pa_nil)) (pe_callB call_len_seq (by rfl) T.z_len (by decide +kernel) (pa_cons (pe_fld (pv 0) rfl) pa_nil)) (nomark _)) (pe_one (pe_callB (cr_all rfl) (by rfl) T.z_all (by decide +kernel) (pa_cons (pe_lc (own := [("one", 2)]) (g := (gName 2)) rfl sc_Table_is_call.nd (pi_tup (pv 1)) (blkOk_by (N := N_Table_is_call) (sc := defScope s_Table_is_call) (by decide +kernel)) (fun _ _ _ _ _ => (pg_name (i := 2) sc_Table_is_call.nd rfl (Or.inl rfl))) (fun _ _ _ _ _ => pts_nil) (fun _ _ _ _ _ => (pe_call (ok_is_integer T) hr rfl T.m_is_integer T.F_is_integer.kp T.b_is_integer .nil pass0 (pa_cons (pv 2) pa_nil)))) pa_nil))))))), ?_⟩
    cases ot with
    | none =>
      obtain ⟨ty, hty, hk⟩ := hx
      exact ⟨_, rfl, _, _, _, _, false, rfl, .ty _, hty, hk, _, rfl, k _ exr⟩
    | some os =>
      obtain ⟨v, xs, rfl, hv, hl, hp⟩ := hx
      have lo : xs.length = os.length := Paired.length hp
      refine ⟨_, rfl, _, _, _, _, true, rfl, .ty _, .base (.tup hv), kit_ty (by decide +kernel), _, rfl, iteT ?_⟩
      refine ⟨_, rfl, v, _, rfl, .inr (SqT.of hv), _, rfl, a, _, dx, _, _, rfl, h1, T.cl_Table, T.n_Table_rings, rfl, t, _, rfl, .inr (SqT.of h2), rfl, _, rfl, ?_⟩
      by_cases c : os.length = ns.length
      · refine itt ?_ ?_
        · rw [List.length_map, lo, c]
          simp
        · refine ⟨_, rfl, v, rfl, ⟨_, SqT.of hv⟩, fun D hD => ?_⟩
          refine lc_vals walk_tup ((os.map Option.isSome).map V.bl) (by rw [List.length_map, List.length_map, lo]) (by omega) hD (fun H3 e => SqT.of (e _ _ hv)) ?_ gmono_name ?_
          · intro i y H3 H4 R hi e yy kk
            obtain ⟨rfl, hy⟩ := yy
            obtain ⟨o, ho, hi2⟩ := paired_get hp hy
            refine ⟨rfl, _, rfl, _, o, rfl, hi2.mono e, kk _ _ exr ?_⟩
            rw [List.getElem?_map, List.getElem?_map, ho]
            rfl
          · intro H3 e hD3
            refine ⟨D, _, rfl, SqL.of hD3, ?_⟩
            have es : isCallO ns (some os) = (os.map Option.isSome).all id := by
              show (decide _ && _) = _
              rw [decide_eq_true c, Bool.true_and]
            rw [← es]
            exact k _ e
      · refine itf ?_ ?_
        · rw [List.length_map, lo]
          simp
          omega
        · have es : isCallO ns (some os) = false := by
            show (decide _ && _) = _
            rw [decide_eq_false c, Bool.false_and]
          have := k _ exr
          rw [es] at this
          exact this
def sp_Table_shifted (C : Addr) : Sp := fun vs H Q _ => ∃ (a s c : Addr) (f : Int) (ns ps cs : List Int), vs = [.ref a, .ref s, .ref c, .int f] ∧ TabAt C H a ns ∧ SzOk ns ∧ H s = some (.tup (ps.map V.int)) ∧ H c = some (.tup (cs.map V.int)) ∧ ps.length = ns.length ∧ cs.length = ns.length ∧ (f = 1 ∨ f = -1) ∧
  ∀ H2 q, Ex H H2 → H q = none → H2 q = some (.tup ((shiftL ns ps cs f).map V.int)) → Q (.ref q) H2
theorem ok_Table_shifted (T : TX K mg) : FnOk P w K mg base CX0 1 T.f_Table_shifted T.fd_Table_shifted ["self", "seat", "call", "factor"] (sp_Table_shifted T.C_Table) := by
  refine T.F_Table_shifted.ok sc_Table_shifted (fun vs H Q E h => ?_) (fun cdv A outer s H vs Q E hr h => ?_)
  · obtain ⟨a, s, c, f, ns, ps, cs, rfl, _⟩ := h
    rfl
  · obtain ⟨a, s, c, f, ns, ps, cs, rfl, ⟨dx, t, h1, h2⟩, ok, hs, hc, lp, lc, hf, k⟩ := h
    have l4 := ok.le
    refine ⟨_, (pss_one (ps_ret (pe_callTy call_tuple_of (by rfl) T.z_tuple (by decide +kernel) (pa_cons (pe_lc (own := [("place", 4), ("one", 5), ("size", 6)]) (g := (gTup K 3 (gCons (gName 4) (gCons (gName 5) (gCons (gName 6) gNil))))) rfl sc_Table_shifted.nd (CZ.pi_z3s (fl := [true, true, true]) rfl (by rfl) T.z_zip (pa_cons (pv 1) (pa_cons (pv 2) (pa_cons (pe_fld (pv 0) rfl) pa_nil)))) (blkOk_by (N := N_Table_shifted) (sc := defScope s_Table_shifted) (by decide +kernel)) (fun _ _ _ _ _ => (pg_tup rfl (pgs_cons (pg_name (i := 4) sc_Table_shifted.nd rfl (Or.inl rfl)) (pgs_cons (pg_name (i := 5) sc_Table_shifted.nd rfl (Or.inl rfl)) (pgs_cons (pg_name (i := 6) sc_Table_shifted.nd rfl (Or.inl rfl)) pgs_nil))))) (fun _ _ _ _ _ => pts_nil) (fun _ _ _ _ _ => (pe_op op_mod (pe_op op_add (pv 4) (pe_op op_mulI (pv 3) (pv 5))) (pv 6)))) pa_nil)))), ?_⟩
    refine ⟨_, rfl, _, rfl, _, rfl, a, _, dx, _, _, rfl, h1, T.cl_Table, T.n_Table_rings, rfl, [s, c, t], rfl, rfl, ?_, fun D hD => ?_⟩
    · intro p hp2
      have hp3 : p = (true, s) ∨ p = (true, c) ∨ p = (true, t) := by simpa using hp2
      rcases hp3 with e | e | e
      · rw [e]; exact ⟨_, SqT.of hs⟩
      · rw [e]; exact ⟨_, SqT.of hc⟩
      · rw [e]; exact ⟨_, SqT.of h2⟩
    · have ls : (shiftL ns ps cs f).length = ns.length := shift_len lp lc
      refine lc_vals (CZ.walk_rows (xss := [ps.map V.int, cs.map V.int, ns.map V.int]) (n := ns.length) ?_) ((shiftL ns ps cs f).map V.int) (by rw [List.length_map, ls]) (by omega) hD (fun H3 e => .cons (SqT.of (e _ _ hs)) (.cons (SqT.of (e _ _ hc)) (.cons (SqT.of (e _ _ h2)) .nil))) ?_ (gmono_tup (gmono_cons gmono_name (gmono_cons gmono_name (gmono_cons gmono_name gmono_nil)))) ?_
      · intro ys hy
        have hy2 : ys = ps.map V.int ∨ ys = cs.map V.int ∨ ys = ns.map V.int := by simpa using hy
        rcases hy2 with e | e | e
        · rw [e, List.length_map, lp]
        · rw [e, List.length_map, lc]
        · rw [e, List.length_map]
      · intro i y H3 H4 R hi e yy kk
        obtain ⟨Ta, vs, rfl, hT, rfl, hr2⟩ := yy
        cases hr2 with
        | cons r1 hr2 =>
          cases hr2 with
          | cons r2 hr2 =>
            cases hr2 with
            | cons r3 hr2 =>
              cases hr2
              obtain ⟨p, hp, rfl⟩ := map_get r1
              obtain ⟨d, hd, rfl⟩ := map_get r2
              obtain ⟨n, hn, rfl⟩ := map_get r3
              have n1 := ok.one n (List.mem_of_getElem? hn)
              refine ⟨Ta, _, rfl, SqT.of upd_same, rfl, _, _, rfl, _, _, rfl, _, _, rfl, rfl, rfl, ?_⟩
              refine ⟨_, rfl, _, rfl, _, rfl, _, _, rfl, rfl, mul_ok (.inl (by rcases hf with e | e <;> rw [e] <;> decide)), _, _, rfl, rfl, _, rfl, _, _, rfl, rfl, (by show (0 : Int) < n; omega), ?_⟩
              refine kk _ _ (exn hT) ?_
              rw [List.getElem?_map, shift_get hn hp hd]
              rfl
      · intro H3 e hD3
        exact ⟨D, _, rfl, .inl ⟨SqL.of hD3, fun q hq => k _ q (fun b o z => exn hq b o (e b o z)) (Evl.fresh_back e hq) upd_same⟩⟩
def sp_is_direction (K : PySem.W.Frag) : Sp := fun vs H Q _ => ∃ x o, vs = [x] ∧ StrA K H x o ∧ ∀ H2, Ex H H2 → Q (.bl (isDirO o)) H2
theorem ok_is_direction (T : TX K mg) : FnOk P w K mg base CX0 1 T.f_is_direction T.fd_is_direction ["value"] (sp_is_direction K) := by
  refine T.F_is_direction.ok sc_is_direction (fun vs H Q E h => ?_) (fun cdv A outer s H vs Q E hr h => ?_)
  · obtain ⟨x, o, rfl, _⟩ := h
    rfl
  · obtain ⟨x, o, rfl, hx, k⟩ := h
    refine ⟨_, (pss_one (ps_ret (pe_and (pe_callB call_isi (by rfl) T.z_isinstance (by decide +kernel) (pa_cons (pv 0) (pa_cons (pe_bltn (v := .ty "str") rfl T.z_str (by decide +kernel) rfl) pa_nil))) (pe_one (pe_cmpR op_in_seq (pv 0) (pe_tup (pa_cons pe_str (pa_cons pe_str pa_nil))) rfl))))), ?_⟩
    cases o with
    | none =>
      obtain ⟨t, ht, hk⟩ := hx
      exact ⟨_, rfl, _, _, _, _, false, rfl, .ty _, ht, hk, _, rfl, k _ exr⟩
    | some z =>
      cases hx
      refine ⟨_, rfl, _, _, _, _, true, rfl, .ty _, .base (.str z), kit_ty (by decide +kernel), _, rfl, iteT ?_⟩
      refine ⟨_, rfl, by show 2 ≤ sizeLine; decide, fun p hp => ?_⟩
      refine ⟨p, _, rfl, .inr (SqT.of upd_same), rfl, rfl, ?_⟩
      have es : (if false = true then !inV (V.str z) [V.str "forward", V.str "backward"] else inV (V.str z) [V.str "forward", V.str "backward"]) = isDirO (some z) := by
        rw [if_neg Bool.false_ne_true]
        show (eqV (V.str "forward") (V.str z) || (eqV (V.str "backward") (V.str z) || false)) = (decide (z = "forward") || decide (z = "backward"))
        have h1 : eqV (V.str "forward") (V.str z) = decide (z = "forward") := by
          show decide (("forward" : Str) = z) = _
          exact decide_eq_decide.mpr ⟨Eq.symm, Eq.symm⟩
        have h2 : eqV (V.str "backward") (V.str z) = decide (z = "backward") := by
          show decide (("backward" : Str) = z) = _
          exact decide_eq_decide.mpr ⟨Eq.symm, Eq.symm⟩
        rw [h1, h2, Bool.or_false]
      rw [es]
      exact k _ (exn hp)
def sp_require_seat (K : PySem.W.Frag) (C : Addr) : Sp := fun vs H Q _ => ∃ (a : Addr) (x : V) (ns : List Int) (ot : Option (List (Option Int))), vs = [.ref a, x] ∧ TabAt C H a ns ∧ ns.length ≤ 4 ∧ TupA K H x ot ∧ isSeatO ns ot = true ∧ ∀ H2, Ex H H2 → Q .non H2
theorem ok_require_seat (T : TX K mg) : FnOk P w K mg base CX0 4 T.f_require_seat T.fd_require_seat ["table", "seat"] (sp_require_seat K T.C_Table) := by
  refine T.F_require_seat.ok sc_require_seat (fun vs H Q E h => ?_) (fun cdv A outer s H vs Q E hr h => ?_)
  · obtain ⟨a, x, ns, ot, rfl, _⟩ := h
    rfl
  · obtain ⟨a, x, ns, ot, rfl, ht, l4, hx, ok, k⟩ := h
    refine ⟨_, (pss_one (ps_if (pt_not (pt_val (pe_meth (pv 0) T.cl_Table T.me_Table_is_seat (ok_Table_is_seat T) hr T.b_Table_is_seat .nil pass0 (pa_cons (pv 1) pa_nil)))) pss_never pss_nil)), ?_⟩
    obtain ⟨dx, t, h1, h2⟩ := id ht
    refine ⟨_, rfl, a, dx, _, rfl, h1, rfl, _, rfl, a, x, ns, ot, rfl, ht, l4, hx, fun H2 e => ⟨_, rfl, itf (by rw [ok]; rfl) (k _ e)⟩⟩
def sp_require_call (K : PySem.W.Frag) (C : Addr) : Sp := fun vs H Q _ => ∃ (a : Addr) (x : V) (ns : List Int) (ot : Option (List (Option Int))), vs = [.ref a, x] ∧ TabAt C H a ns ∧ TupA K H x ot ∧ isCallO ns ot = true ∧ ∀ H2, Ex H H2 → Q .non H2
theorem ok_require_call (T : TX K mg) : FnOk P w K mg base CX0 3 T.f_require_call T.fd_require_call ["table", "call"] (sp_require_call K T.C_Table) := by
  refine T.F_require_call.ok sc_require_call (fun vs H Q E h => ?_) (fun cdv A outer s H vs Q E hr h => ?_)
  · obtain ⟨a, x, ns, ot, rfl, _⟩ := h
    rfl
  · obtain ⟨a, x, ns, ot, rfl, ht, hx, ok, k⟩ := h
    refine ⟨_, (pss_one (ps_if (pt_not (pt_val (pe_meth (pv 0) T.cl_Table T.me_Table_is_call (ok_Table_is_call T) hr T.b_Table_is_call .nil pass0 (pa_cons (pv 1) pa_nil)))) pss_never pss_nil)), ?_⟩
    obtain ⟨dx, t, h1, h2⟩ := id ht
    refine ⟨_, rfl, a, dx, _, rfl, h1, rfl, _, rfl, a, x, ns, ot, rfl, ht, hx, fun H2 e => ⟨_, rfl, itf (by rw [ok]; rfl) (k _ e)⟩⟩
def sp_Table_moves (C : Addr) : Sp := fun vs H Q _ => ∃ (a s c : Addr) (ns ps cs : List Int), vs = [.ref a, .ref s, .ref c] ∧ TabAt C H a ns ∧ SzOk ns ∧ H s = some (.tup (ps.map V.int)) ∧ H c = some (.tup (cs.map V.int)) ∧ SeatOk ns ps ∧ cs.length = ns.length ∧
  ∀ H2 q f b, Ex H H2 → H q = none → H f = none → H b = none → H2 q = some (.tup [.ref f, .ref b]) → H2 f = some (.tup ((shiftL ns ps cs 1).map V.int)) → H2 b = some (.tup ((shiftL ns ps cs (-1)).map V.int)) → Q (.ref q) H2
theorem ok_Table_moves (T : TX K mg) : FnOk P w K mg base CX0 5 T.f_Table_moves T.fd_Table_moves ["self", "seat", "call"] (sp_Table_moves T.C_Table) := by
  refine T.F_Table_moves.ok sc_Table_moves (fun vs H Q E h => ?_) (fun cdv A outer s H vs Q E hr h => ?_)
  · obtain ⟨a, s, c, ns, ps, cs, rfl, _⟩ := h
    rfl
  · obtain ⟨a, s, c, ns, ps, cs, rfl, ht, ok, hs, hc, sk, lc, k⟩ := h
    have l4 := ok.le
    have lp := sk.len
    refine ⟨_, (pss_cons (ps_expr (pe_call (ok_require_seat T) hr rfl T.m_require_seat T.F_require_seat.kp T.b_require_seat .nil pass0 (pa_cons (pv 0) (pa_cons (pv 1) pa_nil)))) (pss_cons (ps_expr (pe_call (ok_require_call T) (hr.mono (by decide)) rfl T.m_require_call T.F_require_call.kp T.b_require_call .nil pass0 (pa_cons (pv 0) (pa_cons (pv 2) pa_nil)))) (pss_one (ps_ret (pe_tup (pa_cons (pe_meth (pv 0) T.cl_Table T.me_Table_shifted (ok_Table_shifted T) (hr.mono (by decide)) T.b_Table_shifted .nil pass0 (pa_cons (pv 1) (pa_cons (pv 2) (pa_cons pe_int pa_nil)))) (pa_cons (pe_meth (pv 0) T.cl_Table T.me_Table_shifted (ok_Table_shifted T) (hr.mono (by decide)) T.b_Table_shifted .nil pass0 (pa_cons (pv 1) (pa_cons (pv 2) (pa_cons (pe_un un_neg pe_int) pa_nil)))) pa_nil))))))), ?_⟩
    refine ⟨_, rfl, _, rfl, a, _, ns, _, rfl, ht, l4, TupA.ints hs (by omega), isSeat_ok sk, fun H1 e1 => ?_⟩
    refine ⟨_, rfl, _, rfl, a, _, ns, _, rfl, ht.mono e1, TupA.ints (e1 _ _ hc) (by omega), isCall_ok lc, fun H2 e2 => ?_⟩
    have e12 : Ex H H2 := fun b o z => e2 b o (e1 b o z)
    obtain ⟨dx, t, g1, g2⟩ := ht.mono e12
    refine ⟨_, rfl, a, dx, _, rfl, g1, rfl, _, rfl, _, rfl, a, s, c, 1, ns, ps, cs, rfl, ⟨dx, t, g1, g2⟩, ok, e12 _ _ hs, e12 _ _ hc, lp, lc, .inl rfl, fun H3 f e3 nf hf => ?_⟩
    have e13 : Ex H H3 := fun b o z => e3 b o (e12 b o z)
    refine ⟨_, rfl, a, dx, _, rfl, e3 _ _ g1, rfl, _, rfl, _, rfl, _, rfl, a, s, c, -1, ns, ps, cs, rfl, ⟨dx, t, e3 _ _ g1, e3 _ _ g2⟩, ok, e13 _ _ hs, e13 _ _ hc, lp, lc, .inr rfl, fun H4 b e4 nb hb => ?_⟩
    have e14 : Ex H H4 := fun b o z => e4 b o (e13 b o z)
    refine ⟨by show 2 ≤ sizeLine; decide, fun q hq => ?_⟩
    have nfq : f ≠ q := ne_of_none (e4 _ _ hf) hq
    have nbq : b ≠ q := ne_of_none hb hq
    exact k _ q f b (fun c o z => exn hq c o (e14 c o z)) (Evl.fresh_back e14 hq) (Evl.fresh_back e12 nf) (Evl.fresh_back e13 nb) upd_same (by rw [upd_ne nfq]; exact e4 _ _ hf) (by rw [upd_ne nbq]; exact hb)
def sp_Table_step (C : Addr) : Sp := fun vs H Q _ => ∃ (a s c : Addr) (ns ps cs : List Int) (bk : Bool), vs = [.ref a, .ref s, .ref c, .str (if bk = true then "backward" else "forward")] ∧ TabAt C H a ns ∧ SzOk ns ∧ H s = some (.tup (ps.map V.int)) ∧ H c = some (.tup (cs.map V.int)) ∧ SeatOk ns ps ∧ cs.length = ns.length ∧
  ∀ H2 q, Ex H H2 → H q = none → H2 q = some (.tup ((shiftL ns ps cs (if bk = true then -1 else 1)).map V.int)) → Q (.ref q) H2
theorem ok_Table_step (T : TX K mg) : FnOk P w K mg base CX0 6 T.f_Table_step T.fd_Table_step ["self", "seat", "call", "direction"] (sp_Table_step T.C_Table) := by
  refine T.F_Table_step.ok sc_Table_step (fun vs H Q E h => ?_) (fun cdv A outer s H vs Q E hr h => ?_)
  · obtain ⟨a, s, c, ns, ps, cs, bk, rfl, _⟩ := h
    rfl
  · obtain ⟨a, s, c, ns, ps, cs, bk, rfl, ht, ok, hs, hc, sk, lc, k⟩ := h
    refine ⟨_, (pss_cons (ps_set (i := 4) sc_Table_step.nd rfl (Or.inl rfl) (pe_meth (pv 0) T.cl_Table T.me_Table_moves (ok_Table_moves T) hr T.b_Table_moves .nil pass0 (pa_cons (pv 1) (pa_cons (pv 2) pa_nil)))) (pss_cons (ps_if (pt_not (pt_val (pe_call (ok_is_direction T) (hr.mono (by decide)) rfl T.m_is_direction T.F_is_direction.kp T.b_is_direction .nil pass0 (pa_cons (pv 3) pa_nil)))) pss_never pss_nil) (pss_one (ps_ret (pe_ix ix_tup (pv 4) (pe_callTy call_int1 (by rfl) T.z_int (by decide +kernel) (pa_cons (pe_cmpR op_eq (pv 3) pe_str (nomark _)) pa_nil)) (fun _ _ => rfl)))))), ?_⟩
    obtain ⟨dx, t, g1, g2⟩ := id ht
    refine ⟨_, rfl, a, dx, _, rfl, g1, rfl, _, rfl, _, rfl, a, s, c, ns, ps, cs, rfl, ht, ok, hs, hc, sk, lc, fun H1 q f b e1 nq nf nb hq hf hb => ?_⟩
    refine ⟨_, rfl, _, some _, rfl, rfl, fun H2 e2 => ⟨_, rfl, itf ?_ ?_⟩⟩
    · cases bk <;> decide +kernel
    · cases bk with
      | false =>
        refine ⟨_, rfl, _, rfl, rfl, .inr ⟨_, rfl, q, _, _, _, rfl, rfl, SqT.of (e2 _ _ hq), ?_, k _ f (fun c o z => e2 c o (e1 c o z)) nf (e2 _ _ hf)⟩⟩
        have ei : (if decide (V.str (if false = true then "backward" else "forward") = V.str "backward") = true then 1 else 0 : Int) = 0 := by decide +kernel
        rw [ei]
        rfl
      | true =>
        refine ⟨_, rfl, _, rfl, rfl, .inr ⟨_, rfl, q, _, _, _, rfl, rfl, SqT.of (e2 _ _ hq), ?_, k _ b (fun c o z => e2 c o (e1 c o z)) nb (e2 _ _ hb)⟩⟩
        have ei : (if decide (V.str (if true = true then "backward" else "forward") = V.str "backward") = true then 1 else 0 : Int) = 1 := by decide +kernel
        rw [ei]
        rfl
end

/-- all but what is at s stays -/
def XB (s : Addr) (H H2 : Hp) : Prop := ∀ c o, c ≠ s → H c = some o → H2 c = some o
theorem XB.refl {s : Addr} {H : Hp} : XB s H H := fun _ _ _ h => h
theorem XB.trans {s : Addr} {H H1 H2 : Hp} (a : XB s H H1) (b : XB s H1 H2) : XB s H H2 := fun c o n h => b c o n (a c o n h)
theorem XB.upd {s : Addr} {H : Hp} {o : HO} : XB s H (upd H s o) := fun c u n h => by rw [upd_ne n]; exact h
theorem XB.of {s : Addr} {H H2 : Hp} (e : Ex H H2) : XB s H H2 := fun c o _ h => e c o h
theorem XB.back {s : Addr} {H H2 : Hp} (e : XB s H H2) {p : Addr} (hn : p ≠ s) (h : H2 p = none) : H p = none := by
  cases q : H p with
  | none => rfl
  | some o => rw [e p o hn q] at h; cases h
theorem mod_lo {i n : Int} (h : 0 < n) : 0 ≤ i % n := Int.emod_nonneg i (by omega)
theorem mod_hi {i n : Int} (h : 0 < n) : i % n < n := Int.emod_lt_of_pos i h

/-! ### data -/
mutual
theorem eqv_refl : ∀ d : PyData, d.canLay0 = true → PyData.eqv d d = true
  | .none, _ => by simp only [PyData.eqv]
  | .bool b, _ => by simp only [PyData.eqv, beq_self_eq_true]
  | .int i, _ => by simp only [PyData.eqv, beq_self_eq_true]
  | .str x, _ => by simp only [PyData.eqv, beq_self_eq_true]
  | .list xs, h => by
    simp only [PyData.canLay0] at h
    simp only [PyData.eqv]
    exact eqvAll_refl xs h
  | .tuple xs, h => by
    simp only [PyData.canLay0] at h
    simp only [PyData.eqv]
    exact eqvAll_refl xs h
  | .dict _, h => by simp [PyData.canLay0] at h
theorem eqvAll_refl : ∀ ds : List PyData, PyData.canLayAll0 ds = true → PyData.eqvAll ds ds = true
  | [], _ => by simp only [PyData.eqvAll]
  | d :: ds, h => by
    simp only [PyData.canLayAll0, Bool.and_eq_true] at h
    simp only [PyData.eqvAll, Bool.and_eq_true]
    exact ⟨eqv_refl d h.1, eqvAll_refl ds h.2⟩
end
/-- data of a depth below n, in a form that may be laid -/
def Sh (n : Nat) (d : PyData) : Prop := d.canLay0 = true ∧ d.depth ≤ n
theorem Sh.ok {d : PyData} (h : Sh 60 d) : SeqAt.shaped d = true := by
  unfold SeqAt.shaped
  rw [h.1, decide_eq_true (Nat.le_trans h.2 (by decide))]
  rfl
theorem sh_int {n : Nat} (i : Int) : Sh n (.int i) := ⟨by simp only [PyData.canLay0], by simp only [PyData.depth]; omega⟩
theorem sh_bool {n : Nat} (i : Bool) : Sh n (.bool i) := ⟨by simp only [PyData.canLay0], by simp only [PyData.depth]; omega⟩
theorem sh_none {n : Nat} : Sh n .none := ⟨by simp only [PyData.canLay0], by simp only [PyData.depth]; omega⟩
theorem sh_all {n : Nat} : ∀ {ds : List PyData}, (∀ d ∈ ds, Sh n d) → PyData.canLayAll0 ds = true ∧ PyData.depthAll ds ≤ n
  | [], _ => ⟨by simp only [PyData.canLayAll0], by simp only [PyData.depthAll]; omega⟩
  | d :: ds, h => by
    obtain ⟨h1, h2⟩ := h d List.mem_cons_self
    obtain ⟨g1, g2⟩ := sh_all fun x hx => h x (List.mem_cons_of_mem _ hx)
    refine ⟨by simp only [PyData.canLayAll0, h1, g1, Bool.and_self], ?_⟩
    simp only [PyData.depthAll]
    omega
theorem sh_tuple {n : Nat} {ds : List PyData} (h : ∀ d ∈ ds, Sh n d) : Sh (n + 1) (.tuple ds) := by
  obtain ⟨h1, h2⟩ := sh_all h
  exact ⟨by simp only [PyData.canLay0, h1], by simp only [PyData.depth]; omega⟩
theorem sh_list {n : Nat} {ds : List PyData} (h : ∀ d ∈ ds, Sh n d) : Sh (n + 1) (.list ds) := by
  obtain ⟨h1, h2⟩ := sh_all h
  exact ⟨by simp only [PyData.canLay0, h1], by simp only [PyData.depth]; omega⟩
theorem Sh.up {n m : Nat} {d : PyData} (h : Sh n d) (e : n ≤ m) : Sh m d := ⟨h.1, Nat.le_trans h.2 e⟩
/-- a tuple of ints -/
abbrev iT (ns : List Int) : PyData := .tuple (ns.map PyData.int)
theorem sh_ints {n : Nat} (ns : List Int) : Sh (n + 1) (iT ns) := sh_tuple fun d hd => by
  obtain ⟨i, _, rfl⟩ := List.mem_map.mp hd
  exact sh_int i
theorem dpall_ints {K : PySem.W.Frag} {H : Hp} : ∀ ns : List Int, DpAll K H (ns.map V.int) (ns.map PyData.int)
  | [] => .nil
  | n :: ns => .cons (.int n) (dpall_ints ns)
theorem dp_ints {K : PySem.W.Frag} {H : Hp} {a : Addr} {ns : List Int} (h : H a = some (.tup (ns.map V.int))) : Dp K H (.ref a) (iT ns) := .tup (SqT.of h) (dpall_ints ns)
theorem eqvAll_ints : ∀ ns ms : List Int, PyData.eqvAll (ns.map PyData.int) (ms.map PyData.int) = decide (ns = ms)
  | [], [] => by simp [PyData.eqvAll]
  | [], _ :: _ => by simp [PyData.eqvAll]
  | _ :: _, [] => by simp [PyData.eqvAll]
  | n :: ns, m :: ms => by
    have ih := eqvAll_ints ns ms
    simp only [List.map_cons, PyData.eqvAll, PyData.eqv, ih]
    by_cases h : n = m
    · subst h
      simp
    · have : (n == m) = false := by simpa using h
      rw [this]
      simp [h]
theorem eqv_ints (ns ms : List Int) : PyData.eqv (iT ns) (iT ms) = decide (ns = ms) := by
  simp only [PyData.eqv]
  exact eqvAll_ints ns ms
theorem sh_pair {n : Nat} {a b : PyData} (ha : Sh n a) (hb : Sh n b) : Sh (n + 1) (.tuple [a, b]) := sh_tuple fun d hd => by
  rcases List.mem_cons.mp hd with e | e
  · rw [e]; exact ha
  · rw [List.mem_singleton.mp e]; exact hb
theorem eqv_same {d : PyData} (h : Sh 60 d) : (!PyData.eqv d d) = false := by rw [eqv_refl d h.1]; rfl

/-! ### zip's rows, nested comprehensions, lists of tuples of ints -/
theorem yrow2 {xs ys : List V} {i : Nat} {H H2 : Hp} {x : V} (h : CZ.YRow [xs, ys] i H x H2) : ∃ (Ta : Addr) (a b : V), x = .ref Ta ∧ H Ta = none ∧ H2 = upd H Ta (.tup [a, b]) ∧ xs[i]? = some a ∧ ys[i]? = some b := by
  obtain ⟨Ta, vs, rfl, hT, rfl, r⟩ := h
  cases r with
  | cons r1 r =>
    cases r with
    | cons r2 r =>
      cases r
      exact ⟨Ta, _, _, rfl, hT, rfl, r1, r2⟩
theorem yrow3 {xs ys zs : List V} {i : Nat} {H H2 : Hp} {x : V} (h : CZ.YRow [xs, ys, zs] i H x H2) : ∃ (Ta : Addr) (a b c : V), x = .ref Ta ∧ H Ta = none ∧ H2 = upd H Ta (.tup [a, b, c]) ∧ xs[i]? = some a ∧ ys[i]? = some b ∧ zs[i]? = some c := by
  obtain ⟨Ta, vs, rfl, hT, rfl, r⟩ := h
  cases r with
  | cons r1 r =>
    cases r with
    | cons r2 r =>
      cases r with
      | cons r3 r =>
        cases r
        exact ⟨Ta, _, _, _, rfl, hT, rfl, r1, r2, r3⟩
theorem yints2 {xs ys : List Int} {i : Nat} {H H2 : Hp} {x : V} (h : CZ.YRow [xs.map V.int, ys.map V.int] i H x H2) : ∃ (Ta : Addr) (a b : Int), x = .ref Ta ∧ H Ta = none ∧ H2 = upd H Ta (.tup [.int a, .int b]) ∧ xs[i]? = some a ∧ ys[i]? = some b := by
  obtain ⟨Ta, a, b, rfl, hT, rfl, r1, r2⟩ := yrow2 h
  obtain ⟨p, hp, rfl⟩ := map_get r1
  obtain ⟨q, hq, rfl⟩ := map_get r2
  exact ⟨Ta, p, q, rfl, hT, rfl, hp, hq⟩
theorem yints3 {xs ys zs : List Int} {i : Nat} {H H2 : Hp} {x : V} (h : CZ.YRow [xs.map V.int, ys.map V.int, zs.map V.int] i H x H2) : ∃ (Ta : Addr) (a b c : Int), x = .ref Ta ∧ H Ta = none ∧ H2 = upd H Ta (.tup [.int a, .int b, .int c]) ∧ xs[i]? = some a ∧ ys[i]? = some b ∧ zs[i]? = some c := by
  obtain ⟨Ta, a, b, c, rfl, hT, rfl, r1, r2, r3⟩ := yrow3 h
  obtain ⟨p, hp, rfl⟩ := map_get r1
  obtain ⟨q, hq, rfl⟩ := map_get r2
  obtain ⟨r, hr, rfl⟩ := map_get r3
  exact ⟨Ta, p, q, r, rfl, hT, rfl, hp, hq, hr⟩
theorem all2 {K : PySem.W.Frag} {H : Hp} {p q : Bool × Addr} {xs ys : List V} (hp : CZ.SqK K H p xs) (hq : CZ.SqK K H q ys) : ∀ r ∈ [p, q], ∃ zs, CZ.SqK K H r zs := fun r hr => by
  rcases List.mem_cons.mp hr with e | hr
  · rw [e]; exact ⟨_, hp⟩
  · rw [List.mem_singleton.mp hr]; exact ⟨_, hq⟩
theorem all3 {K : PySem.W.Frag} {H : Hp} {p q t : Bool × Addr} {xs ys us : List V} (hp : CZ.SqK K H p xs) (hq : CZ.SqK K H q ys) (ht : CZ.SqK K H t us) : ∀ r ∈ [p, q, t], ∃ zs, CZ.SqK K H r zs := fun r hr => by
  rcases List.mem_cons.mp hr with e | hr
  · rw [e]; exact ⟨_, hp⟩
  · exact all2 hq ht r hr
theorem lens2 {xs ys : List V} {n : Nat} (h1 : xs.length = n) (h2 : ys.length = n) : ∀ zs ∈ [xs, ys], zs.length = n := fun zs hz => by
  rcases List.mem_cons.mp hz with e | hz
  · rw [e]; exact h1
  · rw [List.mem_singleton.mp hz]; exact h2
theorem lens3 {xs ys us : List V} {n : Nat} (h1 : xs.length = n) (h2 : ys.length = n) (h3 : us.length = n) : ∀ zs ∈ [xs, ys, us], zs.length = n := fun zs hz => by
  rcases List.mem_cons.mp hz with e | hz
  · rw [e]; exact h1
  · exact lens2 h2 h3 zs hz
theorem sqT {K : PySem.W.Frag} {H : Hp} {a : Addr} {xs : List V} (h : H a = some (.tup xs)) : CZ.SqK K H (true, a) xs := SqT.of h
theorem sqL {K : PySem.W.Frag} {H : Hp} {a : Addr} {xs : List V} (h : H a = some (.lst xs)) : CZ.SqK K H (false, a) xs := SqL.of h
section
variable {J : It} {n : Nat} {G : Hp → Prop} {Y : Nat → Hp → V → Hp → Prop}
/-- a comprehension of two loops: the outer -/
theorem lc2_it (w : Walk J n G Y) {g g1 : TG} {tt tt1 : TT} {te : TE} {wi1 : TI} {vs vs1 : List Nat} {σ : L2.St} {H1 : Hp} {D : Addr} {Qd : Hp → Prop} (Pv : Nat → Hp → Prop) (h0 : Pv 0 (upd H1 D (.lst []))) (hG : ∀ i H, i ≤ n → Pv i H → G H)
    (hs : ∀ i x H H2, i < n → Pv i H → Y i H x H2 → g x (wipe σ vs) H2 fun σ2 H2 => wipe σ2 vs = wipe σ vs ∧ tt σ2 H2 fun b H3 =>
      if b = true then wi1 σ2 H3 fun J1 H4 => ∃ W1 : Nat → Nat → Hp → Prop, (∃ m, W1 0 m H4) ∧ ∀ j k H, W1 j k H →
        (J1.stop j H ∧ Pv (i + 1) H) ∨ (J1.go j H ∧ ∃ Nx1 : Hp → Prop, (∀ H2, Nx1 H2 → ∃ k2, k2 < k ∧ W1 (j + 1) k2 H2) ∧ ∀ x H2, J1.yld j H x H2 → g1 x (wipe σ2 vs1) H2 fun σ3 H5 => wipe σ3 vs1 = wipe σ2 vs1 ∧ tt1 σ3 H5 fun b H6 =>
          if b = true then te σ3 H6 fun y H7 => ∃ acc, H7 D = some (.lst acc) ∧ acc.length < sizeLine ∧ Nx1 (upd H7 D (.lst (acc ++ [y]))) else Nx1 H6)
      else Pv (i + 1) H3) (hd : ∀ H, Pv n H → Qd H) :
    ∃ W : Nat → Nat → Hp → Prop, (∃ m, W 0 m (upd H1 D (.lst []))) ∧ ∀ i m H, W i m H →
      (J.stop i H ∧ Qd H) ∨ (J.go i H ∧ ∃ Nx : Hp → Prop, (∀ H2, Nx H2 → ∃ m2, m2 < m ∧ W (i + 1) m2 H2) ∧ ∀ x H2, J.yld i H x H2 → g x (wipe σ vs) H2 fun σ2 H2 => wipe σ2 vs = wipe σ vs ∧ tt σ2 H2 fun b H3 =>
        if b = true then wi1 σ2 H3 fun J1 H4 => ∃ W1 : Nat → Nat → Hp → Prop, (∃ m, W1 0 m H4) ∧ ∀ j k H, W1 j k H →
          (J1.stop j H ∧ Nx H) ∨ (J1.go j H ∧ ∃ Nx1 : Hp → Prop, (∀ H2, Nx1 H2 → ∃ k2, k2 < k ∧ W1 (j + 1) k2 H2) ∧ ∀ x H2, J1.yld j H x H2 → g1 x (wipe σ2 vs1) H2 fun σ3 H5 => wipe σ3 vs1 = wipe σ2 vs1 ∧ tt1 σ3 H5 fun b H6 =>
            if b = true then te σ3 H6 fun y H7 => ∃ acc, H7 D = some (.lst acc) ∧ acc.length < sizeLine ∧ Nx1 (upd H7 D (.lst (acc ++ [y]))) else Nx1 H6)
        else Nx H3) := by
  refine ⟨fun i m H => m = n - i ∧ i ≤ n ∧ Pv i H, ⟨n, by simp, Nat.zero_le _, h0⟩, ?_⟩
  rintro i m H ⟨rfl, hi, p⟩
  have q := hG i H hi p
  by_cases hlt : i < n
  · refine .inr ⟨w.goes i H hlt q, Pv (i + 1), fun H2 p2 => ⟨n - (i + 1), by omega, rfl, hlt, p2⟩, fun x H2 y => hs i x H H2 hlt p (w.yields i H x H2 hlt q y)⟩
  · have e : i = n := by omega
    subst e
    exact .inl ⟨w.stops H q, hd H p⟩
/-- .. the inner -/
theorem in_it (w : Walk J n G Y) {g1 : TG} {tt1 : TT} {te : TE} {vs1 : List Nat} {σ2 : L2.St} {H4 : Hp} {D : Addr} {Nx : Hp → Prop} (Pw : Nat → Hp → Prop) (h0 : Pw 0 H4) (hG : ∀ i H, i ≤ n → Pw i H → G H)
    (hs : ∀ j x H H2, j < n → Pw j H → Y j H x H2 → g1 x (wipe σ2 vs1) H2 fun σ3 H5 => wipe σ3 vs1 = wipe σ2 vs1 ∧ tt1 σ3 H5 fun b H6 =>
      if b = true then te σ3 H6 fun y H7 => ∃ acc, H7 D = some (.lst acc) ∧ acc.length < sizeLine ∧ Pw (j + 1) (upd H7 D (.lst (acc ++ [y]))) else Pw (j + 1) H6) (hd : ∀ H, Pw n H → Nx H) :
    ∃ W1 : Nat → Nat → Hp → Prop, (∃ m, W1 0 m H4) ∧ ∀ j k H, W1 j k H →
      (J.stop j H ∧ Nx H) ∨ (J.go j H ∧ ∃ Nx1 : Hp → Prop, (∀ H2, Nx1 H2 → ∃ k2, k2 < k ∧ W1 (j + 1) k2 H2) ∧ ∀ x H2, J.yld j H x H2 → g1 x (wipe σ2 vs1) H2 fun σ3 H5 => wipe σ3 vs1 = wipe σ2 vs1 ∧ tt1 σ3 H5 fun b H6 =>
        if b = true then te σ3 H6 fun y H7 => ∃ acc, H7 D = some (.lst acc) ∧ acc.length < sizeLine ∧ Nx1 (upd H7 D (.lst (acc ++ [y]))) else Nx1 H6) := by
  refine ⟨fun i m H => m = n - i ∧ i ≤ n ∧ Pw i H, ⟨n, by simp, Nat.zero_le _, h0⟩, ?_⟩
  rintro i m H ⟨rfl, hi, p⟩
  have q := hG i H hi p
  by_cases hlt : i < n
  · refine .inr ⟨w.goes i H hlt q, Pw (i + 1), fun H2 p2 => ⟨n - (i + 1), by omega, rfl, hlt, p2⟩, fun x H2 y => hs i x H H2 hlt p (w.yields i H x H2 hlt q y)⟩
  · have e : i = n := by omega
    subst e
    exact .inl ⟨w.stops H q, hd H p⟩
end
/-- refs of tuples of ints -/
def RowsR (H : Hp) (xs : List V) (hss : List (List Int)) : Prop := Paired (fun x hs => ∃ r, x = V.ref r ∧ H r = some (.tup (hs.map V.int))) xs hss
theorem RowsR.mono {H H2 : Hp} (e : Ex H H2) : ∀ {xs : List V} {hss : List (List Int)}, RowsR H xs hss → RowsR H2 xs hss
  | _, _, .nil => .nil
  | _, _, .cons ⟨r, h1, h2⟩ t => .cons ⟨r, h1, e _ _ h2⟩ (RowsR.mono e t)
theorem RowsR.snoc {H : Hp} {r : Addr} {hs : List Int} (h : H r = some (.tup (hs.map V.int))) : ∀ {xs : List V} {hss : List (List Int)}, RowsR H xs hss → RowsR H (xs ++ [.ref r]) (hss ++ [hs])
  | _, _, .nil => .cons ⟨r, rfl, h⟩ .nil
  | _, _, .cons q t => .cons q (RowsR.snoc h t)
theorem RowsR.app {H : Hp} {ys : List V} {kss : List (List Int)} (h : RowsR H ys kss) : ∀ {xs : List V} {hss : List (List Int)}, RowsR H xs hss → RowsR H (xs ++ ys) (hss ++ kss)
  | _, _, .nil => h
  | _, _, .cons q t => .cons q (RowsR.app h t)
theorem RowsR.len {H : Hp} : ∀ {xs : List V} {hss : List (List Int)}, RowsR H xs hss → xs.length = hss.length
  | _, _, .nil => rfl
  | _, _, .cons _ t => by rw [List.length_cons, List.length_cons, RowsR.len t]
theorem RowsR.get {H : Hp} : ∀ {xs : List V} {hss : List (List Int)} {i : Nat} {x : V}, RowsR H xs hss → xs[i]? = some x → ∃ hs r, hss[i]? = some hs ∧ x = V.ref r ∧ H r = some (.tup (hs.map V.int))
  | _, _, _, _, .nil, h => by simp at h
  | _, _, 0, _, .cons ⟨r, e, q⟩ _, h => by
    simp only [List.length_cons, Nat.zero_lt_succ, List.getElem?_eq_getElem, List.getElem_cons_zero, Option.some.injEq] at h
    subst h
    exact ⟨_, r, rfl, e, q⟩
  | _, _, i + 1, _, .cons _ t, h => by
    rw [List.getElem?_cons_succ] at h ⊢
    exact RowsR.get t h
theorem RowsR.dp {K : PySem.W.Frag} {H : Hp} : ∀ {xs : List V} {hss : List (List Int)}, RowsR H xs hss → DpAll K H xs (hss.map iT)
  | _, _, .nil => .nil
  | _, _, .cons ⟨r, e, q⟩ t => by
    subst e
    exact .cons (dp_ints q) (RowsR.dp t)
/-- a list of tuples of ints -/
def RowsAt (H : Hp) (D : Addr) (hss : List (List Int)) : Prop := ∃ xs, H D = some (.lst xs) ∧ RowsR H xs hss
theorem RowsAt.mono {H H2 : Hp} {D : Addr} {hss : List (List Int)} (e : Ex H H2) (h : RowsAt H D hss) : RowsAt H2 D hss := by
  obtain ⟨xs, h1, h2⟩ := h
  exact ⟨xs, e _ _ h1, h2.mono e⟩
theorem RowsAt.dp {K : PySem.W.Frag} {H : Hp} {D : Addr} {hss : List (List Int)} (h : RowsAt H D hss) : Dp K H (.ref D) (.list (hss.map iT)) := by
  obtain ⟨xs, h1, h2⟩ := h
  exact .lst (SqL.of h1) h2.dp
theorem sh_rows {n : Nat} (hss : List (List Int)) : Sh (n + 2) (.list (hss.map iT)) := sh_list fun d hd => by
  obtain ⟨hs, _, rfl⟩ := List.mem_map.mp hd
  exact sh_ints hs
theorem eqvAll_rows : ∀ ns ms : List (List Int), PyData.eqvAll (ns.map iT) (ms.map iT) = decide (ns = ms)
  | [], [] => by simp [PyData.eqvAll]
  | [], _ :: _ => by simp [PyData.eqvAll]
  | _ :: _, [] => by simp [PyData.eqvAll]
  | n :: ns, m :: ms => by
    have ih := eqvAll_rows ns ms
    simp only [List.map_cons, PyData.eqvAll, eqv_ints, ih]
    by_cases h : n = m
    · subst h
      simp
    · simp [h]
theorem eqv_rows (ns ms : List (List Int)) : PyData.eqv (.list (ns.map iT)) (.list (ms.map iT)) = decide (ns = ms) := by
  simp only [PyData.eqv]
  exact eqvAll_rows ns ms
theorem RowsR.upd {H : Hp} {D : Addr} {acc : List V} {o : HO} (hD : H D = some (.lst acc)) : ∀ {xs : List V} {hss : List (List Int)}, RowsR H xs hss → RowsR (upd H D o) xs hss
  | _, _, .nil => .nil
  | _, _, .cons ⟨r, h1, h2⟩ t => .cons ⟨r, h1, by rw [upd_ne (ne_of h2 hD (by intro z; cases z))]; exact h2⟩ (RowsR.upd hD t)
theorem rows_push {H : Hp} {D u : Addr} {hss : List (List Int)} {ks : List Int} (h : RowsAt H D hss) (hu : H u = some (.tup (ks.map V.int))) : ∃ acc, H D = some (.lst acc) ∧ acc.length = hss.length ∧ RowsAt (upd H D (.lst (acc ++ [.ref u]))) D (hss ++ [ks]) := by
  obtain ⟨xs, h1, h2⟩ := h
  refine ⟨xs, h1, h2.len, _, upd_same, ?_⟩
  exact RowsR.snoc (by rw [upd_ne (ne_of hu h1 (by intro z; cases z))]; exact hu) (h2.upd h1)
theorem ex_upd {H H2 : Hp} {D : Addr} {o : HO} (e : Ex H H2) (hD : H D = none) : Ex H (upd H2 D o) := fun c u z => by
  rw [upd_ne (ne_of_none z hD)]
  exact e c u z
theorem ext {H H1 H2 : Hp} (a : Ex H H1) (b : Ex H1 H2) : Ex H H2 := fun c o z => b c o (a c o z)

/-! ### tuple * int, from 1 on -/
theorem u65 {k : Nat} {A : Around} (r : Room k A) : A.units + 65 < cLine := by have := r.un; omega
theorem tuple_mul1 (l : Addr) (items : Array Value) (n : Nat) (dd : Option Addr) (sl : Array (Option Value)) (x : Int) (u : Tok) (c0 : (decide (x < -(2 ^ 63)) || decide (x ≥ 2 ^ 63)) = false) (c1 : (items.isEmpty || x == 1) = true) :
    Meets (Builtin.«tuple.__mul__» ⟨[.ref l, .int x u], []⟩) (fun _ R s => s.heap.get? l = some { cls := .type "tuple", dict := dd, data := .seq items n, slots := sl } ∧ R (.ok (.ret (Value.ref l))) s) :=
  .of_wp fun prog w A R s h => by
    obtain ⟨hp, g, d, tk, os⟩ := s
    obtain ⟨hl, h⟩ := h
    have f1 := AutoSeq1.idx_int
    wp_walk using wpAny_loadPart' hl
    repeat (first
      | (refine wpAny_ite_false (decide_eq_false (by rw [c0]; exact Bool.false_ne_true)) ?_; wp_walk using wpAny_loadPart' hl)
      | (refine wpAny_ite_true (decide_eq_true c1) ?_; wp_walk using wpAny_loadPart' hl))
    exact ⟨_, rfl, h⟩
def rRepA (K : PySem.W.Frag) : R2 := fun x y H Q => ∃ l k xs, x = .ref l ∧ y = .int k ∧ SqT K H l xs ∧ xs ≠ [] ∧ 1 ≤ k ∧ k ≤ 1000 ∧ xs.length ≤ 1000 ∧ (k = 1 → Q (.ref l) H) ∧ ∀ p, H p = none → Q (.ref p) (upd H p (.tup (List.replicate k.toNat xs).flatten))
theorem op_repA {X : Cx} : OpR X (binaryOp .Mult) (rRepA X.K) := by
  intro pins s σ H x y v u Q I rx ry h
  obtain ⟨l, k, xs, ex, ey, hT, hne, h1, h2, hz, q1, q⟩ := h
  by_cases hk : k = 1
  · subst ex ey hk
    cases rx
    obtain ⟨t, rfl⟩ := ry
    obtain ⟨its, r, ⟨⟨cls, dd, data, sl⟩, ho, hc, n, hd⟩, hs⟩ := I.tuple hT
    simp only at hc hd
    subst hc hd
    refine wpAny_binaryOp_repeat_ref (T := "tuple") (U := "int") (by decide) ⟨_, ho, rfl⟩ (fun s2 => typeIs_int s2 1 t) noFill_tuple_mul PySem.F.fills_int_mul PySem.F.slot_int_rmul repeat_tuple PySem.F.slot_int_index.lookup
      (call_meets PySem.F.slot_int_rmul (typeIs_int s 1 t) PySem.F.entry_int_rmul (PySem.F.args_int_rmul_2 _ _) (int_rmul_tuple 1 t l its.toArray n dd sl)
        ⟨ho, rfl, ⟨_, ho, rfl⟩, call_meets PySem.F.slot_tuple_mul ⟨_, ho, rfl⟩ PySem.F.entry_tuple_mul (PySem.F.args_tuple_mul_2 _ _) (tuple_mul1 l its.toArray n dd sl 1 t (by decide) (by simp)) ⟨ho, ?_⟩⟩)
    exact ⟨.ref l, H, I, rfl, q1 rfl⟩
  · exact op_repT pins s σ H x y v u Q I rx ry ⟨l, k, xs, ex, ey, hT, hne, by omega, h2, hz, q⟩
/-- (x,) * k -/
theorem rep_one (x : V) (k : Nat) : (List.replicate k [x]).flatten = List.replicate k x := by
  induction k with
  | zero => rfl
  | succ k ih => rw [List.replicate_succ, List.flatten_cons, ih, List.replicate_succ]; rfl
theorem rep_ints {K : PySem.W.Frag} {H : Hp} {Q : VK} {u : Addr} {x k : Int} (hu : H u = some (.tup [.int x])) (h1 : 1 ≤ k) (h2 : k ≤ 1000) (h : ∀ q H2, Ex H H2 → H2 q = some (.tup ((List.replicate k.toNat x).map V.int)) → Q (.ref q) H2) : rRepA K (.ref u) (.int k) H Q := by
  refine ⟨u, k, [.int x], rfl, rfl, SqT.of hu, (fun z => nomatch z), h1, h2, (by show 1 ≤ 1000; decide), fun e => ?_, fun p hp => ?_⟩
  · subst e
    exact h u H exr hu
  · refine h p _ (exn hp) ?_
    rw [upd_same, rep_one, List.map_replicate]
theorem ne_same {a b : List Int} (h : a = b) : (!PyData.eqv (iT a) (iT b)) = false := by rw [h]; exact eqv_same (sh_ints b)
/-- a comprehension over a tuple of ints, by a value each -/
theorem row_in {hss : List (List Int)} {ps : List Int} (h : ps ∈ hss) : ((hss.map iT).any fun z => PyData.eqv z (iT ps)) = true := by
  rw [List.any_eq_true]
  exact ⟨iT ps, List.mem_map.mpr ⟨ps, h, rfl⟩, by rw [eqv_ints]; simp⟩
/-- a list of ints -/
abbrev iL (ns : List Int) : PyData := .list (ns.map PyData.int)
theorem sh_ilist {n : Nat} (ns : List Int) : Sh (n + 1) (iL ns) := sh_list fun d hd => by
  obtain ⟨i, _, rfl⟩ := List.mem_map.mp hd
  exact sh_int i
theorem dp_ilist {K : PySem.W.Frag} {H : Hp} {a : Addr} {ns : List Int} (h : H a = some (.lst (ns.map V.int))) : Dp K H (.ref a) (iL ns) := .lst (SqL.of h) (dpall_ints ns)
theorem eqv_ilist (ns ms : List Int) : PyData.eqv (iL ns) (iL ms) = decide (ns = ms) := by
  simp only [PyData.eqv]
  exact eqvAll_ints ns ms
theorem dec_bl {a b : Bool} (h : a = b) : (!decide (V.bl a = V.bl b)) = false := by rw [h]; simp
theorem emod_eq_iff {a b n : Int} : a % n = b % n ↔ n ∣ a - b := by
  rw [Int.emod_eq_emod_iff_emod_sub_eq_zero, Int.dvd_iff_emod_eq_zero]
/-- behind an if that changes names alone -/
theorem ifs_cutS {c : TT} {t u : TS} {D : Ends} {σ : L2.St} {H : Hp} (R : L2.St → Prop) (hR : ∀ σ2, R σ2 → D.nx σ2 H) (h : ∀ N : L2.St → Hp → Prop, (∀ σ2, R σ2 → N σ2 H) → tIfS c t u { D with nx := N } σ H) : tIfS c t u D σ H :=
  h D.nx hR

/-- a comprehension that lengthens a row by each of ks -/
theorem lc_rows {J : It} {n : Nat} {G : Hp → Prop} {Y : Nat → Hp → V → Hp → Prop} (w : Walk J n G Y) {g : TG} {te : TE} {vs : List Nat} {σ : L2.St} {H1 : Hp} {D : Addr} {Qd : Hp → Prop} (row ks : List Int) (hn : ks.length = n) (hl : n ≤ 10000000) (hD : H1 D = none)
    (hG : ∀ H, Ex H1 H → G H)
    (hs : ∀ i x H H2 (R : VK), i < n → Ex H1 H → Y i H x H2 → (∀ k v H5, Ex H H5 → ks[i]? = some k → H5 v = some (.tup ((row ++ [k]).map V.int)) → R (.ref v) H5) → g x (wipe σ vs) H2 fun σ2 H3 => wipe σ2 vs = wipe σ vs ∧ te σ2 H3 R)
    (hg : ∀ x σ2 H2 (R R2 : L2.St → Hp → Prop), (∀ σ3 H3, R σ3 H3 → R2 σ3 H3) → g x σ2 H2 R → g x σ2 H2 R2)
    (hd : ∀ H, Ex H1 H → RowsAt H D (ks.map fun k => row ++ [k]) → Qd H) :
    ∃ W : Nat → Nat → Hp → Prop, (∃ m, W 0 m (upd H1 D (.lst []))) ∧ ∀ i m H, W i m H →
      (J.stop i H ∧ Qd H) ∨ (J.go i H ∧ ∃ Nx : Hp → Prop, (∀ H2, Nx H2 → ∃ m2, m2 < m ∧ W (i + 1) m2 H2) ∧ ∀ x H2, J.yld i H x H2 → g x (wipe σ vs) H2 fun σ2 H3 => wipe σ2 vs = wipe σ vs ∧ tYes σ2 H3 fun b H4 =>
        if b = true then te σ2 H4 fun y H5 => ∃ acc, H5 D = some (.lst acc) ∧ acc.length < sizeLine ∧ Nx (upd H5 D (.lst (acc ++ [y]))) else Nx H4) := by
  refine lc_it w (fun i H => Ex H1 H ∧ RowsAt H D ((ks.take i).map fun k => row ++ [k])) ⟨exn hD, _, upd_same, .nil⟩ (fun i H _ p => hG H p.1) (fun i x H H2 hi p y => ?_) (fun H p => hd H p.1 (by have := p.2; rwa [List.take_of_length_le (by rw [hn]; exact Nat.le_refl _)] at this))
  refine hg _ _ _ _ _ (fun σ3 H3 q => ⟨q.1, q.2⟩) (hs i x H H2 (fun y H5 => ∃ acc, H5 D = some (.lst acc) ∧ acc.length < sizeLine ∧ Ex H1 (upd H5 D (.lst (acc ++ [y]))) ∧ RowsAt (upd H5 D (.lst (acc ++ [y]))) D ((ks.take (i + 1)).map fun k => row ++ [k])) hi p.1 y fun k v H5 e hk hv => ?_)
  obtain ⟨acc, h1, h2, h3⟩ := rows_push (p.2.mono e) hv
  refine ⟨acc, h1, ?_, ex_upd (ext p.1 e) hD, ?_⟩
  · rw [h2, List.length_map, List.length_take]
    exact Nat.lt_of_le_of_lt (Nat.le_trans (Nat.min_le_right _ _) (by rw [hn]; exact hl)) (by decide)
  · rw [take_more hk, List.map_append]
    exact h3
/-- row + (k,) -/
theorem cat_row {K : PySem.W.Frag} {H : Hp} {Q : VK} {r u : Addr} {row : List Int} {k : Int} (hr : H r = some (.tup (row.map V.int))) (hu : H u = some (.tup [.int k])) (hl : row.length ≤ 1000) (h : ∀ v H5, Ex H H5 → H5 v = some (.tup ((row ++ [k]).map V.int)) → Q (.ref v) H5) : rCatA K (.ref r) (.ref u) H Q := by
  refine ⟨r, u, row.map V.int, [.int k], rfl, rfl, SqT.of hr, SqT.of hu, ?_, fun z => ?_, fun _ z => (nomatch z), fun _ _ v hv => ?_⟩
  · rw [List.length_map]
    exact Nat.le_trans (show _ + 1 ≤ 1001 by omega) (by decide)
  · have : row = [] := List.map_eq_nil_iff.mp z
    subst this
    exact h u H exr hu
  · refine h v _ (exn hv) ?_
    rw [upd_same, List.map_append]
    rfl
theorem rows_ext {H : Hp} {D E : Addr} {hss kss : List (List Int)} (h1 : RowsAt H D hss) (h2 : RowsAt H E kss) (ne : D ≠ E) : ∃ xs zs, H D = some (.lst xs) ∧ H E = some (.lst zs) ∧ xs.length = hss.length ∧ zs.length = kss.length ∧ RowsAt (upd H D (.lst (xs ++ zs))) D (hss ++ kss) := by
  obtain ⟨xs, a1, a2⟩ := h1
  obtain ⟨zs, b1, b2⟩ := h2
  exact ⟨xs, zs, a1, b1, a2.len, b2.len, _, upd_same, RowsR.app (b2.upd a1) (a2.upd a1)⟩

theorem eqT {i j : Int} (h : decide (V.int i = V.int j) = true) : i = j := V.int.inj (of_decide_eq_true h)
theorem eqF {i j : Int} (h : ¬decide (V.int i = V.int j) = true) : i ≠ j := fun z => h (decide_eq_true (by rw [z]))
/-- behind an if -/
theorem ifs_cutG {c : TT} {t u : TS} {D : Ends} {σ : L2.St} {H : Hp} (R : L2.St → Hp → Prop) (hR : ∀ σ2 H2, R σ2 H2 → D.nx σ2 H2) (h : ∀ N : L2.St → Hp → Prop, (∀ σ2 H2, R σ2 H2 → N σ2 H2) → tIfS c t u { D with nx := N } σ H) : tIfS c t u D σ H :=
  h D.nx hR
theorem exG {H H4 : Hp} {p : Addr} {o : HO} (h : upd H p o = H4) (n : H p = none) : Ex H H4 := h ▸ exn n
theorem atG {H H4 : Hp} {p : Addr} {o : HO} (h : upd H p o = H4) : H4 p = some o := h ▸ upd_same
theorem slen {n : Nat} (h : Nat.ble n 1000 = true) : n ≤ sizeLine := Nat.le_trans (Nat.le_of_ble_eq_true h) (by decide)
/-- a comprehension with a test: what passes, by f -/
theorem lc_filt {α : Type} {J : It} {n : Nat} {G : Hp → Prop} {Y : Nat → Hp → V → Hp → Prop} (w : Walk J n G Y) {g : TG} {tt : TT} {te : TE} {vs : List Nat} {σ : L2.St} {H1 : Hp} {D : Addr} {Qd : Hp → Prop} (xs : List α) (c : α → Bool) (f : α → V) (hn : xs.length = n) (hl : n ≤ 10000000) (hD : H1 D = none)
    (hG : ∀ H, Ex H1 H → G H)
    (hs : ∀ i x a H H2 (R : VK) (S : Hp → Prop), xs[i]? = some a → Ex H1 H → Y i H x H2 → (∀ y H5, Ex H H5 → c a = true → y = f a → R y H5) → (∀ H4, Ex H H4 → c a = false → S H4) → g x (wipe σ vs) H2 fun σ2 H3 => wipe σ2 vs = wipe σ vs ∧ tt σ2 H3 fun b H4 => if b = true then te σ2 H4 R else S H4)
    (hd : ∀ H, Ex H1 H → H D = some (.lst ((xs.filter c).map f)) → Qd H) :
    ∃ W : Nat → Nat → Hp → Prop, (∃ m, W 0 m (upd H1 D (.lst []))) ∧ ∀ i m H, W i m H →
      (J.stop i H ∧ Qd H) ∨ (J.go i H ∧ ∃ Nx : Hp → Prop, (∀ H2, Nx H2 → ∃ m2, m2 < m ∧ W (i + 1) m2 H2) ∧ ∀ x H2, J.yld i H x H2 → g x (wipe σ vs) H2 fun σ2 H3 => wipe σ2 vs = wipe σ vs ∧ tt σ2 H3 fun b H4 =>
        if b = true then te σ2 H4 fun y H5 => ∃ acc, H5 D = some (.lst acc) ∧ acc.length < sizeLine ∧ Nx (upd H5 D (.lst (acc ++ [y]))) else Nx H4) := by
  refine lc_out w (fun i => ((xs.take i).filter c).map f) (by simp) hD (fun i hi => ?_) hG (fun i x H H2 Nx hi e hDi y kA kN => ?_) (fun H e h => hd H e ?_)
  · rw [List.length_map]
    refine Nat.lt_of_le_of_lt (Nat.le_trans (List.length_filter_le _ _) (Nat.le_trans (by rw [List.length_take]; exact Nat.min_le_right _ _) (by rw [hn]; exact hl))) (by decide)
  · obtain ⟨a, ha⟩ : ∃ a, xs[i]? = some a := ⟨xs[i]'(by omega), List.getElem?_eq_getElem (by omega)⟩
    refine hs i x a H H2 _ _ ha e y (fun y2 H5 e5 hc hy => kA y2 H5 e5 ?_) (fun H4 e4 hc => kN H4 e4 ?_)
    · rw [take_more ha, List.filter_append, List.map_append, hy]
      simp [hc]
    · rw [take_more ha, List.filter_append, List.map_append]
      simp [hc]
  · rw [h, List.take_of_length_le (by rw [hn]; exact Nat.le_refl _)]
/-- rows that pass a test -/
theorem RowsR.filt {H : Hp} (c : List Int → Bool) : ∀ {xs : List V} {hss : List (List Int)}, RowsR H xs hss → RowsR H (((xs.zip hss).filter fun z => c z.2).map fun z => z.1) (hss.filter c)
  | _, _, .nil => .nil
  | _, _, .cons (a := x) (b := hs) q t => by
    have ih := RowsR.filt c t
    rw [List.zip_cons_cons]
    cases e : c hs with
    | false =>
      rw [List.filter_cons_of_neg (by simp [e]), List.filter_cons_of_neg (by simp [e])]
      exact ih
    | true =>
      rw [List.filter_cons_of_pos (by simp [e]), List.filter_cons_of_pos (by simp [e])]
      exact .cons q ih
theorem zip_at2 {α β : Type} {l : List α} {m : List β} {i : Nat} {z : α × β} (h : (l.zip m)[i]? = some z) : l[i]? = some z.1 ∧ m[i]? = some z.2 := by
  rw [List.getElem?_zip_eq_some] at h
  exact h
/-- tuple(s), s a list or a tuple -/
theorem tup_of {K : PySem.W.Frag} {H : Hp} {q : Bool × Addr} {xs : List V} {Q : VK} (h : SqH H q xs) (k : ∀ t H2, Ex H H2 → H2 t = some (.tup xs) → Q (.ref t) H2) : (SqL K H q.2 xs ∧ ∀ p, H p = none → Q (.ref p) (upd H p (.tup xs))) ∨ SqT K H q.2 xs ∧ Q (.ref q.2) H := by
  obtain ⟨b, a⟩ := q
  cases b
  · exact .inl ⟨SqL.of (show H a = some (.lst xs) from h), fun p hp => k p _ (exn hp) upd_same⟩
  · exact .inr ⟨SqT.of (show H a = some (.tup xs) from h), k a H exr h⟩
def rTupQ : List V → Hp → VK → Prop := fun vs H Q => ∃ (q : Bool × Addr) (xs : List V), vs = [.ref q.2] ∧ SqH H q xs ∧ ∀ t H2, Ex H H2 → H2 t = some (.tup xs) → Q (.ref t) H2
theorem call_tuple_q {X : Cx} : CallR X (.type "tuple") rTupQ := by
  intro pins s σ H vs us Q I r h
  obtain ⟨q, xs, rfl, hq, k⟩ := h
  exact call_tuple_of pins s σ H _ us Q I r ⟨q.2, xs, rfl, tup_of hq k⟩
theorem SqH.uniq {H : Hp} {q : Bool × Addr} {xs ys : List V} (h1 : SqH H q xs) (h2 : SqH H q ys) : xs = ys := by
  obtain ⟨b, a⟩ := q
  cases b
  · have e : some (HO.lst xs) = some (HO.lst ys) := (show H a = some (.lst xs) from h1).symm.trans (show H a = some (.lst ys) from h2)
    injection e with e
    injection e
  · have e : some (HO.tup xs) = some (HO.tup ys) := (show H a = some (.tup xs) from h1).symm.trans (show H a = some (.tup ys) from h2)
    injection e with e
    injection e
theorem RowsR.monoT {H H2 : Hp} (e : ∀ c xs, H c = some (.tup xs) → H2 c = some (.tup xs)) : ∀ {xs : List V} {hss : List (List Int)}, RowsR H xs hss → RowsR H2 xs hss
  | _, _, .nil => .nil
  | _, _, .cons ⟨r, h1, h2⟩ t => .cons ⟨r, h1, e _ _ h2⟩ (RowsR.monoT e t)

theorem shift_back {f : Int} : ∀ {ns ps cs : List Int}, SeatOk ns ps → cs.length = ns.length → shiftL ns (shiftL ns ps cs f) cs (-f) = ps
  | [], [], [], _, _ => rfl
  | n :: ns, p :: ps, c :: cs, h, l => by
    show ((p + f * c) % n + -f * c) % n :: _ = _
    rw [shift_back h.2 (Nat.succ.inj l), Int.emod_add_emod, Int.neg_mul, Int.add_neg_cancel_right, Int.emod_eq_of_lt h.1.1 h.1.2]
theorem shift_neg {f : Int} : ∀ {ns ps cs : List Int}, shiftL ns ps (cs.map fun c => 0 - c) f = shiftL ns ps cs (-f)
  | [], _, _ => by cases ‹List Int› <;> simp [shiftL]
  | _ :: _, [], _ => by simp [shiftL]
  | _ :: _, _ :: _, [] => by simp [shiftL]
  | n :: ns, p :: ps, c :: cs => by
    show (p + f * (0 - c)) % n :: _ = (p + -f * c) % n :: _
    rw [shift_neg, Int.zero_sub, Int.mul_neg, Int.neg_mul]
theorem shift_comm {f g : Int} : ∀ {ns ps cs ds : List Int}, ps.length = ns.length → cs.length = ns.length → ds.length = ns.length → shiftL ns (shiftL ns ps cs f) ds g = shiftL ns (shiftL ns ps ds g) cs f
  | [], [], [], [], _, _, _ => rfl
  | n :: ns, p :: ps, c :: cs, d :: ds, l1, l2, l3 => by
    show ((p + f * c) % n + g * d) % n :: _ = ((p + g * d) % n + f * c) % n :: _
    rw [shift_comm (Nat.succ.inj l1) (Nat.succ.inj l2) (Nat.succ.inj l3), Int.emod_add_emod, Int.emod_add_emod, Int.add_right_comm]
theorem shift_seat {f : Int} : ∀ {ns ps cs : List Int}, (∀ n ∈ ns, 1 ≤ n) → ps.length = ns.length → cs.length = ns.length → SeatOk ns (shiftL ns ps cs f)
  | [], [], [], _, _, _ => True.intro
  | n :: ns, p :: ps, c :: cs, h, l1, l2 => by
    have n1 := h n List.mem_cons_self
    exact ⟨⟨Int.emod_nonneg _ (by omega), Int.emod_lt_of_pos _ (by omega)⟩, shift_seat (fun m hm => h m (List.mem_cons_of_mem _ hm)) (Nat.succ.inj l1) (Nat.succ.inj l2)⟩
theorem shift_same {f g : Int} : ∀ {ns ps cs : List Int}, ps.length = ns.length → cs.length = ns.length → (shiftL ns ps cs f = shiftL ns ps cs g ↔ ∀ z ∈ cs.zip ns, z.2 ∣ (f - g) * z.1)
  | [], [], [], _, _ => by simp [shiftL]
  | n :: ns, p :: ps, c :: cs, l1, l2 => by
    have e : p + f * c - (p + g * c) = (f - g) * c := by rw [Int.sub_mul]; omega
    show (p + f * c) % n :: _ = (p + g * c) % n :: _ ↔ _
    rw [List.cons.injEq, shift_same (Nat.succ.inj l1) (Nat.succ.inj l2), emod_eq_iff, e, List.zip_cons_cons, List.forall_mem_cons]
theorem shift_zero : ∀ {ns ps cs : List Int}, SeatOk ns ps → cs.length = ns.length → shiftL ns ps cs 0 = ps
  | [], [], [], _, _ => rfl
  | n :: ns, p :: ps, c :: cs, h, l => by
    show (p + 0 * c) % n :: _ = _
    rw [shift_zero h.2 (Nat.succ.inj l), Int.zero_mul, Int.add_zero, Int.emod_eq_of_lt h.1.1 h.1.2]
/-- a call times k -/
theorem shift_times {k : Int} : ∀ {ns ps cs : List Int}, shiftL ns ps (cs.map fun c => c * k) 1 = shiftL ns ps cs k
  | [], _, _ => by cases ‹List Int› <;> simp [shiftL]
  | _ :: _, [], _ => by simp [shiftL]
  | _ :: _, _ :: _, [] => by simp [shiftL]
  | n :: ns, p :: ps, c :: cs => by
    show (p + 1 * (c * k)) % n :: _ = (p + k * c) % n :: _
    rw [shift_times, Int.one_mul, Int.mul_comm c]
theorem zero_seat : ∀ {ns : List Int}, (∀ n ∈ ns, 1 ≤ n) → SeatOk ns (List.replicate ns.length 0)
  | [], _ => True.intro
  | n :: ns, h => ⟨⟨Int.le_refl _, by have := h n List.mem_cons_self; omega⟩, zero_seat fun m hm => h m (List.mem_cons_of_mem _ hm)⟩

/-- Table(..) -/
theorem mk_tab {C a : Addr} {b : Bool} {H : Hp} {ns : List Int} {R : Addr → Hp → Prop} {E : XK} (hq : SqH H (b, a) (ns.map V.int)) (ok : SzOk ns) (k : ∀ x H2, Ex H H2 → H x = none → TabAt C H2 x ns → R x H2) :
    ∀ x dx, H x = none → H dx = none → dx ≠ x → sp_Table_init C [.ref x, .ref a] (upd (upd H dx (.own x)) x (.ins C dx [])) (fun v H2 => v = .non ∧ R x H2) E := by
  intro x dx nx ndx _
  have exB : Ex H (upd (upd H dx (.own x)) x (.ins C dx [])) := fun c o z => by
    rw [upd_ne (ne_of_none z nx), upd_ne (ne_of_none z ndx)]
    exact z
  refine ⟨x, dx, (b, a), ns, rfl, upd_same, hq.mono exB, ok, fun H3 k3 ht3 => ⟨rfl, ?_⟩⟩
  obtain ⟨t, g1, g2⟩ := ht3
  exact k x H3 (fun c o z => k3 c o (ne_of_none z nx) (exB c o z)) nx ⟨dx, t, g1, g2⟩
theorem eqN {i j : Int} (h : ¬(!decide (V.int i = V.int j)) = true) : i = j := by
  by_cases e : i = j
  · exact e
  · exact absurd (by simp [e]) h
/-! ### lists and tuples alike -/
theorem cut_from (xs : List V) (k : Nat) : cutV xs (some (k : Int)) none = xs.drop k := by
  unfold cutV
  rw [HT.sIx_nat, HT.sIx_none]
  by_cases h : k ≤ xs.length
  · rw [Nat.min_eq_left h]
    exact List.take_of_length_le (by rw [List.length_drop]; omega)
  · rw [Nat.min_eq_right (by omega), List.drop_of_length_le (Nat.le_refl _), List.drop_of_length_le (by omega)]
    simp
theorem cut_to (xs : List V) (k : Nat) : cutV xs none (some (k : Int)) = xs.take k := by
  unfold cutV
  rw [HT.sIx_nat, HT.sIx_none, List.drop_zero, Nat.sub_zero]
  by_cases h : k ≤ xs.length
  · rw [Nat.min_eq_left h]
  · rw [Nat.min_eq_right (by omega), List.take_of_length_le (Nat.le_refl _), List.take_of_length_le (by omega)]
theorem cut_whole {xs : List V} {lo hi : Option Int} (h : HT.sIx xs.length 0 lo = 0 ∧ HT.sIx xs.length xs.length hi = xs.length) : cutV xs lo hi = xs := by
  unfold cutV
  rw [h.1, h.2, List.drop_zero, Nat.sub_zero, List.take_of_length_le (Nat.le_refl _)]
def rIxQ (K : PySem.W.Frag) : R2 := fun x y H Q => ∃ (q : Bool × Addr) (xs : List V) (i : Int) (v : V), x = .ref q.2 ∧ y = .int i ∧ CZ.SqK K H q xs ∧ atI xs i = some v ∧ Q v H
theorem ix_q {X : Cx} : IxR X (rIxQ X.K) := by
  intro value slice pins s σ H x y v u Q I rx ry h hsub
  obtain ⟨⟨b, a⟩, xs, i, z, rfl, rfl, hq, hz, q⟩ := h
  cases b
  · exact ix_list value slice pins s σ H _ _ v u Q I rx ry ⟨a, xs, i, z, rfl, rfl, hq, hz, q⟩ hsub
  · exact ix_tup value slice pins s σ H _ _ v u Q I rx ry ⟨a, xs, i, z, rfl, rfl, hq, hz, q⟩ hsub
def rSlQ : V → Option Int → Option Int → Hp → VK → Prop := fun x lo hi H Q => ∃ (q : Bool × Addr) (xs : List V), x = .ref q.2 ∧ SqH H q xs ∧ ∀ p H2, Ex H H2 → SqH H2 (q.1, p) (cutV xs lo hi) → Q (.ref p) H2
theorem sl_q {X : Cx} : SlR X rSlQ := by
  intro pins s σ H x v vl vu lo hi sl Q I rx hs pl pu h
  obtain ⟨⟨b, a⟩, xs, rfl, hq, k⟩ := h
  cases b
  · exact sl_list pins s σ H _ v vl vu lo hi sl Q I rx hs pl pu ⟨a, xs, rfl, SqL.of (show H a = some (.lst xs) from hq), fun p hp => k p _ (exn hp) upd_same⟩
  · exact sl_tupA pins s σ H _ v vl vu lo hi sl Q I rx hs pl pu ⟨a, xs, rfl, SqT.of (show H a = some (.tup xs) from hq), fun hw => k a H exr (by rw [cut_whole hw]; exact hq), fun _ p hp => k p _ (exn hp) upd_same⟩

/-- the greatest common divisor -/
abbrev gcdI (a b : Int) : Int := ((Int.gcd a b : Nat) : Int)
theorem gcd_pos2 {p n : Int} (h : 1 ≤ n) : 0 < Int.gcd p n := Int.gcd_pos_of_ne_zero_right _ (by omega)
theorem gcd_turn {a b : Int} (hb : b ≠ 0) : Int.gcd b (a % b) = Int.gcd a b := by
  rw [Int.gcd_comm b, Int.emod_def, Int.sub_eq_add_neg, ← Int.mul_neg, Int.gcd_add_mul_left_left]
theorem abs45 {n : Int} (h1 : 0 ≤ n) (h2 : n ≤ 10 ^ 45) : n.natAbs < 2 ^ 150 := by
  have h5 : (10 : Int) ^ 45 < 2 ^ 150 := by decide
  have h8 : ((2 ^ 150 : Nat) : Int) = (2 : Int) ^ 150 := by simp
  omega
section
variable {P : Program} {w : World} {K : PySem.W.Frag} {mg : Str → Option Value} {base : Heap}
def sp_greatest_common_divisor : Sp := fun vs H Q _ => ∃ a b : Int, vs = [.int a, .int b] ∧ 0 ≤ a ∧ 0 ≤ b ∧ Q (.int (gcdI a b)) H
theorem ok_greatest_common_divisor (T : TX K mg) : FnOk P w K mg base CX0 1 T.f_greatest_common_divisor T.fd_greatest_common_divisor ["first", "second"] sp_greatest_common_divisor := by
  refine T.F_greatest_common_divisor.ok sc_greatest_common_divisor (fun vs H Q E h => ?_) (fun cdv A outer s H vs Q E hr h => ?_)
  · obtain ⟨a, b, rfl, _⟩ := h
    rfl
  · obtain ⟨a0, b0, rfl, h1, h2, k⟩ := h
    refine ⟨_, (pss_cons (ps_while PassesOwn.never (pt_cmpR op_ne (pv 1) pe_int (nomark _)) (pss_one (ps_par (i := 0) (j := 1) rfl sc_greatest_common_divisor.nd rfl rfl (by decide) rfl rfl (pa_cons (pv 1) (pa_cons (pe_op op_mod (pv 0) (pv 1)) pa_nil)) (by rfl)))) (pss_one (ps_ret (pe_callB call_abs (by rfl) T.z_abs (by decide +kernel) (pa_cons (pv 0) pa_nil))))), ?_⟩
    refine ⟨fun m σ H2 => ∃ a b : Int, σ = [some (.int a), some (.int b)] ∧ H2 = H ∧ 0 ≤ a ∧ 0 ≤ b ∧ Int.gcd a b = Int.gcd a0 b0 ∧ m = b.toNat, ⟨_, a0, b0, rfl, rfl, h1, h2, rfl, rfl⟩, ?_⟩
    rintro m σ _ ⟨a, b, rfl, rfl, ha, hb, hg, rfl⟩
    refine ⟨_, rfl, rfl, _, rfl, ?_⟩
    by_cases hz : b = 0
    · subst hz
      refine itf (by simp) ⟨_, rfl, a, rfl, ?_⟩
      rw [if_neg (by omega)]
      have e : (Int.gcd a 0 : Nat) = a.natAbs := by simp
      have e2 : gcdI a0 b0 = a := by
        show ((Int.gcd a0 b0 : Nat) : Int) = a
        rw [← hg, e]
        omega
      rw [e2] at k
      exact k
    · refine itt (by rw [dec_int]; simp [hz]) ⟨_, fun _ _ h => h, ?_⟩
      have q1 := Int.emod_lt_of_pos a (show 0 < b by omega)
      have q2 := Int.emod_nonneg a hz
      exact ⟨_, rfl, _, rfl, _, rfl, _, _, rfl, rfl, (by show 0 < b; omega), _, _, rfl, _, (by show (a % b).toNat < b.toNat; omega), _, _, rfl, rfl, hb, q2, by rw [gcd_turn hz, hg], rfl⟩
end

/-! ### the order of a seat -/
def perN (p n : Int) : Nat := n.natAbs / Int.gcd p n
def ordF (zs : List (Int × Int)) : Nat := zs.foldl (fun l z => Nat.lcm l (perN z.1 z.2)) 1
theorem per_int {p n : Int} (h : 1 ≤ n) : n / gcdI p n = (perN p n : Int) := by
  have e : (n.natAbs : Int) = n := Int.natAbs_of_nonneg (by omega)
  unfold perN
  rw [Int.natCast_ediv, e]
theorem per_pos {p n : Int} (h : 1 ≤ n) : 0 < perN p n := by
  unfold perN
  refine Nat.div_pos ?_ (gcd_pos2 h)
  have := Int.gcd_dvd_right p n
  have h2 : (Int.gcd p n : Int) ≤ n := Int.le_of_dvd (by omega) this
  omega
theorem per_le {p n : Int} : perN p n ≤ n.natAbs := Nat.div_le_self _ _
theorem lcm_int {l m : Nat} : (l : Int) / gcdI l m * m = ((Nat.lcm l m : Nat) : Int) := by
  show (l : Int) / ((Nat.gcd l m : Nat) : Int) * m = _
  rw [← Int.natCast_ediv, ← Int.natCast_mul, Nat.lcm, Nat.div_mul_right_comm (Nat.gcd_dvd_left l m)]
theorem ord_snoc (zs : List (Int × Int)) (z : Int × Int) : ordF (zs ++ [z]) = Nat.lcm (ordF zs) (perN z.1 z.2) := by
  unfold ordF
  rw [List.foldl_append]
  rfl
theorem lcm_fold : ∀ {zs : List (Int × Int)} {a B : Nat}, 0 < a → (∀ z ∈ zs, 1 ≤ z.2 ∧ z.2.natAbs ≤ B) → 0 < zs.foldl (fun l z => Nat.lcm l (perN z.1 z.2)) a ∧ zs.foldl (fun l z => Nat.lcm l (perN z.1 z.2)) a ≤ a * B ^ zs.length
  | [], a, B, h, _ => by simp; exact h
  | z :: zs, a, B, h, hz => by
    have h1 := hz z List.mem_cons_self
    have h2 : 0 < Nat.lcm a (perN z.1 z.2) := Nat.lcm_pos h (per_pos h1.1)
    obtain ⟨g1, g2⟩ := lcm_fold (zs := zs) (B := B) h2 fun y hy => hz y (List.mem_cons_of_mem _ hy)
    refine ⟨g1, Nat.le_trans g2 ?_⟩
    have h3 : Nat.lcm a (perN z.1 z.2) ≤ a * B := Nat.le_trans (Nat.div_le_self _ _) (Nat.mul_le_mul_left _ (Nat.le_trans per_le h1.2))
    calc _ ≤ a * B * B ^ zs.length := Nat.mul_le_mul_right _ h3
      _ = a * B ^ (zs.length + 1) := by rw [Nat.pow_succ, Nat.mul_assoc, Nat.mul_comm B]
theorem ord_ok {zs : List (Int × Int)} (h : ∀ z ∈ zs, 1 ≤ z.2 ∧ z.2 ≤ 10 ^ 45) (hl : zs.length ≤ 4) : 0 < ordF zs ∧ ordF zs < 2 ^ 600 := by
  obtain ⟨g1, g2⟩ := lcm_fold (zs := zs) (a := 1) (B := 10 ^ 45) (by decide) fun z hz => ⟨(h z hz).1, by
    have := h z hz
    have e : ((10 ^ 45 : Nat) : Int) = (10 : Int) ^ 45 := by simp
    omega⟩
  refine ⟨g1, Nat.lt_of_le_of_lt g2 ?_⟩
  rw [Nat.one_mul]
  exact Nat.lt_of_le_of_lt (Nat.pow_le_pow_right (by decide) hl) (by decide +kernel)
theorem zip_at {α β : Type} {l : List α} {m : List β} {i : Nat} {x : α} {y : β} (h1 : l[i]? = some x) (h2 : m[i]? = some y) : (l.zip m)[i]? = some (x, y) := by
  rw [List.getElem?_zip_eq_some]
  exact ⟨h1, h2⟩
theorem zip_len {α β : Type} {l : List α} {m : List β} {n : Nat} (h1 : l.length = n) (h2 : m.length = n) : (l.zip m).length = n := by
  rw [List.length_zip, h1, h2, Nat.min_self]
theorem zip_take_len {α β : Type} {l : List α} {m : List β} {n : Nat} (h1 : l.length = n) (h2 : m.length = n) : (l.zip m).take n = l.zip m := List.take_of_length_le (by rw [zip_len h1 h2]; exact Nat.le_refl _)
/-- sizes that are not too long -/
abbrev SzB (ns : List Int) : Prop := ∀ n ∈ ns, n ≤ 10 ^ 45
theorem SeatOk.at : ∀ {ns ps : List Int} {i : Nat} {n p : Int}, SeatOk ns ps → ns[i]? = some n → ps[i]? = some p → 0 ≤ p ∧ p < n
  | [], [], _, _, _, _, h, _ => by simp at h
  | n :: ns, p :: ps, 0, _, _, h, h1, h2 => by
    simp at h1 h2
    subst h1 h2
    exact h.1
  | n :: ns, p :: ps, i + 1, _, _, h, h1, h2 => by
    rw [List.getElem?_cons_succ] at h1 h2
    exact SeatOk.at h.2 h1 h2
theorem zip_bound {ns ps : List Int} (ok : SzOk ns) (hB : SzB ns) (i : Nat) : ∀ z ∈ (ps.zip ns).take i, 1 ≤ z.2 ∧ z.2 ≤ 10 ^ 45 := fun z hz => by
  have := (List.of_mem_zip (show (z.1, z.2) ∈ ps.zip ns from List.mem_of_mem_take hz)).2
  exact ⟨ok.one _ this, hB _ this⟩
theorem abs_succ {n : Int} (h : n.natAbs < 2 ^ 150) : (n + 1).natAbs < 2 ^ 151 := by
  have : (2 : Nat) ^ 151 = 2 * 2 ^ 150 := by decide +kernel
  omega
/-- the halves of a place -/
def halfL (p n : Int) : List Int := if n % 2 = 1 then [p * (n + 1) / 2 % n] else if p % 2 = 0 then [p / 2, (p + n) / 2] else []
theorem halfL_def (p n : Int) : halfL p n = if n % 2 = 1 then [p * (n + 1) / 2 % n] else if p % 2 = 0 then [p / 2, (p + n) / 2] else [] := rfl
/-- .. of a seat -/
def crossL (hss : List (List Int)) (ks : List Int) : List (List Int) := hss.flatMap fun hs => ks.map fun k => hs ++ [k]
def halvesF (zs : List (Int × Int)) : List (List Int) := zs.foldl (fun hss z => crossL hss (halfL z.1 z.2)) [[]]
theorem halves_snoc (zs : List (Int × Int)) (z : Int × Int) : halvesF (zs ++ [z]) = crossL (halvesF zs) (halfL z.1 z.2) := by
  unfold halvesF
  rw [List.foldl_append]
  rfl
theorem cross_snoc (hss : List (List Int)) (hs ks : List Int) : crossL (hss ++ [hs]) ks = crossL hss ks ++ ks.map fun k => hs ++ [k] := by
  unfold crossL
  rw [List.flatMap_append]
  simp
theorem cross_len (ks : List Int) : ∀ hss : List (List Int), (crossL hss ks).length = hss.length * ks.length
  | [] => by simp [crossL]
  | h :: hss => by
    have ih := cross_len ks hss
    unfold crossL at ih ⊢
    rw [List.flatMap_cons, List.length_append, ih, List.length_map, List.length_cons, Nat.succ_mul, Nat.add_comm]
theorem half_len (p n : Int) : (halfL p n).length ≤ 2 := by
  unfold halfL
  split
  · simp
  · split <;> simp
theorem halves_len : ∀ (zs : List (Int × Int)) (hss : List (List Int)), (zs.foldl (fun hss z => crossL hss (halfL z.1 z.2)) hss).length ≤ hss.length * 2 ^ zs.length
  | [], hss => by simp
  | z :: zs, hss => by
    refine Nat.le_trans (halves_len zs _) ?_
    rw [cross_len, List.length_cons, Nat.pow_succ, Nat.mul_comm (2 ^ zs.length), ← Nat.mul_assoc]
    exact Nat.mul_le_mul_right _ (Nat.mul_le_mul_left _ (half_len _ _))
theorem halves_few {zs : List (Int × Int)} (h : zs.length ≤ 4) : (halvesF zs).length ≤ 16 := by
  have := halves_len zs [[]]
  refine Nat.le_trans this ?_
  rw [List.length_singleton, Nat.one_mul]
  exact Nat.pow_le_pow_right (by decide) h
theorem halves_rows : ∀ (zs : List (Int × Int)) (hss : List (List Int)) (m : Nat), (∀ hs ∈ hss, hs.length = m) → ∀ hs ∈ zs.foldl (fun hss z => crossL hss (halfL z.1 z.2)) hss, hs.length = m + zs.length
  | [], hss, m, h => h
  | z :: zs, hss, m, h => fun hs hh => by
    have := halves_rows zs (crossL hss (halfL z.1 z.2)) (m + 1) (fun ks hk => ?_) hs hh
    · rw [this, List.length_cons]
      omega
    · obtain ⟨us, hu, hk⟩ := List.mem_flatMap.mp hk
      obtain ⟨k, _, rfl⟩ := List.mem_map.mp hk
      rw [List.length_append, h us hu]
      rfl
section
variable {P : Program} {w : World} {K : PySem.W.Frag} {mg : Str → Option Value} {base : Heap}
def sp_Table_order (C : Addr) : Sp := fun vs H Q _ => ∃ (a s : Addr) (ns ps : List Int), vs = [.ref a, .ref s] ∧ TabAt C H a ns ∧ SzOk ns ∧ SzB ns ∧ H s = some (.tup (ps.map V.int)) ∧ SeatOk ns ps ∧ ∀ H2, Ex H H2 → Q (.int (ordF (ps.zip ns))) H2
theorem ok_Table_order (T : TX K mg) : FnOk P w K mg base CX0 5 T.f_Table_order T.fd_Table_order ["self", "seat"] (sp_Table_order T.C_Table) := by
  refine T.F_Table_order.ok sc_Table_order (fun vs H Q E h => ?_) (fun cdv A outer s H vs Q E hr h => ?_)
  · obtain ⟨a, s, ns, ps, rfl, _⟩ := h
    rfl
  · obtain ⟨a, s, ns, ps, rfl, tab, ok, hB, hs, sk, k⟩ := h
    have l4 := ok.le
    have lp := sk.len
    refine ⟨_, (pss_cons (ps_expr (pe_call (ok_require_seat T) hr rfl T.m_require_seat T.F_require_seat.kp T.b_require_seat .nil pass0 (pa_cons (pv 0) (pa_cons (pv 1) pa_nil)))) (pss_cons (ps_set (i := 2) sc_Table_order.nd rfl (Or.inl rfl) pe_int) (pss_cons (ps_for PassesOwn.never rfl (CZ.pi_z2s (fl := [true, true]) rfl (by rfl) T.z_zip (pa_cons (pv 1) (pa_cons (pe_fld (pv 0) rfl) pa_nil))) (pg_tup rfl (pgs_cons (pg_name (i := 3) sc_Table_order.nd rfl (Or.inl rfl)) (pgs_cons (pg_name (i := 4) sc_Table_order.nd rfl (Or.inl rfl)) pgs_nil))) (pss_cons (ps_set (i := 5) sc_Table_order.nd rfl (Or.inl rfl) (pe_op op_fdivW (pv 4) (pe_call (ok_greatest_common_divisor T) (hr.mono (by decide)) rfl T.m_greatest_common_divisor T.F_greatest_common_divisor.kp T.b_greatest_common_divisor .nil pass0 (pa_cons (pv 3) (pa_cons (pv 4) pa_nil))))) (pss_one (ps_set (i := 2) sc_Table_order.nd rfl (Or.inl rfl) (pe_op op_mulI (pe_op op_fdivW (pv 2) (pe_call (ok_greatest_common_divisor T) (hr.mono (by decide)) rfl T.m_greatest_common_divisor T.F_greatest_common_divisor.kp T.b_greatest_common_divisor .nil pass0 (pa_cons (pv 2) (pa_cons (pv 5) pa_nil)))) (pv 5)))))) (pss_one (ps_ret (pv 2)))))), ?_⟩
    refine ⟨_, rfl, _, rfl, a, _, ns, _, rfl, tab, l4, TupA.ints hs (by omega), isSeat_ok sk, fun H1 e1 => ?_⟩
    obtain ⟨dx, t, h1, h2⟩ := tab.mono e1
    have hs1 := e1 _ _ hs
    refine ⟨_, rfl, _, rfl, a, _, dx, _, _, rfl, h1, T.cl_Table, T.n_Table_rings, rfl, [s, t], rfl, rfl, all2 (sqT hs1) (sqT h2), ?_⟩
    refine for_it (CZ.walk_rows (xss := [ps.map V.int, ns.map V.int]) (n := ns.length) (lens2 (by rw [List.length_map, lp]) (by rw [List.length_map]))) (fun i σ H2 => ∃ y1 y2 y3 : Option V, σ = [some (.ref a), some (.ref s), some (.int (ordF ((ps.zip ns).take i))), y1, y2, y3] ∧ Ex H1 H2) ⟨_, _, _, rfl, exr⟩ (fun i σ H2 _ ⟨_, _, _, _, e⟩ => .cons (sqT (e _ _ hs1)) (.cons (sqT (e _ _ h2)) .nil)) ?_ ?_
    · rintro i x σ H2 H3 hi ⟨y1, y2, y3, rfl, e2⟩ yy
      obtain ⟨Ta, p, n, rfl, hT, rfl, hp, hn⟩ := yints2 yy
      have n1 := ok.one n (List.mem_of_getElem? hn)
      have n2 := hB n (List.mem_of_getElem? hn)
      obtain ⟨p0, p1⟩ := sk.at hn hp
      have lt : ((ps.zip ns).take i).length ≤ 4 := by
        rw [List.length_take, zip_len lp rfl]
        omega
      obtain ⟨o1, o2⟩ := ord_ok (zip_bound ok hB i) lt
      have ezs := take_more (zip_at hp hn)
      refine ⟨Ta, _, rfl, SqT.of upd_same, rfl, _, _, rfl, _, _, rfl, rfl, ?_⟩
      have g0 : (0 : Int) < gcdI p n := by
        have := gcd_pos2 (p := p) n1
        show (0 : Int) < ((Int.gcd p n : Nat) : Int)
        omega
      have gle : gcdI p n ≤ n := Int.le_of_dvd (by omega) (Int.gcd_dvd_right p n)
      refine ⟨_, rfl, _, rfl, _, rfl, p, n, rfl, p0, (by omega), _, _, rfl, rfl, wide_div g0 (abs45 (by omega) (by omega)) (by decide) (by decide), ?_⟩
      have q0 := per_pos (p := p) n1
      have q1 := per_le (p := p) (n := n)
      have q2 : perN p n < 2 ^ 150 := Nat.lt_of_le_of_lt q1 (abs45 (by omega) n2)
      dsimp only
      rw [per_int n1]
      have r0 : 0 < Nat.gcd (ordF ((ps.zip ns).take i)) (perN p n) := Nat.gcd_pos_of_pos_left _ o1
      have r1 : Nat.gcd (ordF ((ps.zip ns).take i)) (perN p n) ≤ perN p n := Nat.gcd_le_right _ q0
      refine ⟨_, rfl, _, rfl, _, rfl, _, _, rfl, Int.natCast_nonneg _, Int.natCast_nonneg _, _, _, rfl, rfl, wide_div (b := 150) ?_ ?_ (by decide) (by decide), _, rfl, _, _, rfl, rfl, (wide_mul (a := 600) (b := 150) ?_ ?_ (by decide) (by decide) (by decide)).ok, ?_⟩
      · show (0 : Int) < ((Nat.gcd (ordF ((ps.zip ns).take i)) (perN p n) : Nat) : Int)
        omega
      · show ((Nat.gcd (ordF ((ps.zip ns).take i)) (perN p n) : Nat) : Int).natAbs < 2 ^ 150
        rw [Int.natAbs_natCast]
        exact Nat.lt_of_le_of_lt r1 q2
      · show ((ordF ((ps.zip ns).take i) : Int) / ((Nat.gcd (ordF ((ps.zip ns).take i)) (perN p n) : Nat) : Int)).natAbs < 2 ^ 600
        rw [← Int.natCast_ediv, Int.natAbs_natCast]
        exact Nat.lt_of_le_of_lt (Nat.div_le_self _ _) o2
      · rw [Int.natAbs_natCast]
        exact q2
      · dsimp only
        rw [lcm_int]
        rw [ezs, ord_snoc]
        exact ⟨_, _, _, rfl, fun c o z => exn hT _ _ (e2 c o z)⟩
    · rintro σ H2 ⟨y1, y2, y3, rfl, e2⟩
      rw [zip_take_len lp rfl]
      exact ⟨_, rfl, k _ fun c o z => e2 c o (e1 c o z)⟩
end

/-- a list (false) or a tuple (true) of tuples of ints -/
def RowsQ (H : Hp) (q : Bool × Addr) (tss : List (List Int)) : Prop := ∃ xs, SqH H q xs ∧ RowsR H xs tss
theorem RowsQ.mono {H H2 : Hp} {q : Bool × Addr} {tss : List (List Int)} (e : Ex H H2) (h : RowsQ H q tss) : RowsQ H2 q tss := by
  obtain ⟨xs, h1, h2⟩ := h
  exact ⟨xs, h1.mono e, h2.mono e⟩
theorem RowsQ.dp {K : PySem.W.Frag} {H : Hp} {q : Bool × Addr} {tss : List (List Int)} (h : RowsQ H q tss) : Dp K H (.ref q.2) (.list (tss.map iT)) ∨ Dp K H (.ref q.2) (.tuple (tss.map iT)) := by
  obtain ⟨xs, h1, h2⟩ := h
  obtain ⟨b, a⟩ := q
  cases b
  · exact .inl (.lst (SqL.of (show H a = some (.lst xs) from h1)) h2.dp)
  · exact .inr (.tup (SqT.of (show H a = some (.tup xs) from h1)) h2.dp)
theorem any_rows (tss : List (List Int)) (ps : List Int) : ((tss.map iT).any fun z => PyData.eqv z (iT ps)) = decide (ps ∈ tss) := by
  rw [List.any_map, Bool.eq_iff_iff, List.any_eq_true, decide_eq_true_eq]
  constructor
  · rintro ⟨x, hx, h⟩
    have h2 : PyData.eqv (iT x) (iT ps) = true := h
    rw [eqv_ints] at h2
    rw [← of_decide_eq_true h2]
    exact hx
  · intro h
    refine ⟨ps, h, ?_⟩
    show PyData.eqv (iT ps) (iT ps) = true
    rw [eqv_ints]
    simp
abbrev kI (ps : List Int) : List Key := ps.map Sum.inl
theorem kI_map (ps : List Int) : (kI ps).map kV = ps.map V.int := by
  rw [List.map_map]
  rfl
theorem kI_inj {a b : List Int} (h : kI a = kI b) : a = b := by
  induction a generalizing b with
  | nil =>
    cases b with
    | nil => rfl
    | cons y ys => simp at h
  | cons x xs ih =>
    cases b with
    | nil => simp at h
    | cons y ys =>
      simp only [List.map_cons, List.cons.injEq, Sum.inl.injEq] at h
      rw [h.1, ih h.2]
theorem nodup_get {α : Type} {l : List α} (nod : l.Nodup) {i : Nat} {t : α} (ht : l[i]? = some t) : ¬ t ∈ l.take i := by
  intro hm
  obtain ⟨j, hj⟩ := List.getElem?_of_mem hm
  obtain ⟨jl, je⟩ := List.getElem?_eq_some_iff.mp hj
  rw [List.length_take] at jl
  rw [List.getElem_take] at je
  obtain ⟨il, ie⟩ := List.getElem?_eq_some_iff.mp ht
  exact absurd (je.trans ie.symm) (List.pairwise_iff_getElem.mp nod j i (by omega) il (by omega))
theorem put_len {κ : Type} [DecidableEq κ] {kvs : List (κ × V)} {k : κ} {v : V} (h : valV kvs k = none) : (putK kvs k v).length = kvs.length + 1 := by
  rw [putK_new v h, List.length_append]
  rfl
section
variable {P : Program} {w : World} {K : PySem.W.Frag} {mg : Str → Option Value} {base : Heap}
def sp_require_table (C : Addr) : Sp := fun vs H Q _ => ∃ (a : Addr) (ns : List Int), vs = [.ref a] ∧ TabAt C H a ns ∧ Q .non H
theorem ok_require_table (T : TX K mg) : FnOk P w K mg base CX0 5 T.f_require_table T.fd_require_table ["table"] (sp_require_table T.C_Table) := by
  refine T.F_require_table.ok sc_require_table (fun vs H Q E h => ?_) (fun cdv A outer s H vs Q E hr h => ?_)
  · obtain ⟨a, ns, rfl, _⟩ := h
    rfl
  · obtain ⟨a, ns, rfl, ⟨dx, t, h1, h2⟩, k⟩ := h
    refine ⟨_, (pss_one (ps_if (pt_not (pt_val (pe_callB call_isi (by rfl) T.z_isinstance (by decide +kernel) (pa_cons (pv 0) (pa_cons (pe_glob (v := .ref T.C_Table) rfl T.m_Table rfl) pa_nil))))) pss_never pss_nil)), ?_⟩
    exact ⟨_, rfl, _, _, _, _, true, rfl, .own _, .base (.ins h1 T.cl_Table T.ic_Table T.ig_ T.it_ T.im_Table), kit_self, _, rfl, itf rfl k⟩
def sp_require_targets (C : Addr) : Sp := fun vs H Q _ => ∃ (a : Addr) (q : Bool × Addr) (ns : List Int) (tss : List (List Int)), vs = [.ref a, .ref q.2] ∧ TabAt C H a ns ∧ ns.length ≤ 4 ∧ RowsQ H q tss ∧ tss ≠ [] ∧ tss.length ≤ 100000 ∧ (∀ ts ∈ tss, SeatOk ns ts) ∧ tss.Nodup ∧ ∀ H2, Ex H H2 → Q .non H2
theorem ok_require_targets (T : TX K mg) : FnOk P w K mg base CX0 4 T.f_require_targets T.fd_require_targets ["table", "targets"] (sp_require_targets T.C_Table) := by
  refine T.F_require_targets.ok sc_require_targets (fun vs H Q E h => ?_) (fun cdv A outer s H vs Q E hr h => ?_)
  · obtain ⟨a, q, ns, tss, rfl, _⟩ := h
    rfl
  · obtain ⟨a, ⟨b, q⟩, ns, tss, rfl, tab, l4, ⟨xs, hq, rr⟩, ne, lts, sks, nod, k⟩ := h
    refine ⟨_, (pss_cons (ps_if (PW.pt (pw_or (pt_not (pt_val (pe_callB call_isiT (by rfl) T.z_isinstance (by decide +kernel) (pa_cons (pv 1) (pa_cons (pe_tup (pa_cons (pe_bltn (v := .ty "list") rfl T.z_list (by decide +kernel) rfl) (pa_cons (pe_bltn (v := .ty "tuple") rfl T.z_tuple (by decide +kernel) rfl) pa_nil))) pa_nil))))) (pw_or1 (pt_cmpR op_eq (pe_callB call_len_seq (by rfl) T.z_len (by decide +kernel) (pa_cons (pv 1) pa_nil)) pe_int (nomark _))))) pss_never pss_nil) (pss_cons (ps_set (i := 2) sc_require_targets.nd rfl (Or.inl rfl) pe_dnewT) (pss_one (ps_for PassesOwn.never rfl (CE.pi_e rfl T.z_enumerate (pa_cons (pv 1) pa_nil)) (pg_tup rfl (pgs_cons (pg_name (i := 3) sc_require_targets.nd rfl (Or.inl rfl)) (pgs_cons (pg_name (i := 4) sc_require_targets.nd rfl (Or.inl rfl)) pgs_nil))) (pss_cons (ps_if (PW.pt (pw_or (pt_not (pt_val (pe_meth (pv 0) T.cl_Table T.me_Table_is_seat (ok_Table_is_seat T) hr T.b_Table_is_seat .nil pass0 (pa_cons (pv 4) pa_nil)))) (pw_or1 (pt_cmp (pc_din (hu_of hr) (pv 4) (pv 2)))))) pss_never pss_nil) (pss_one (ps_dput (hu_of hr) (pv 2) (pv 4) (pv 3) (by rfl)))))))), ?_⟩
    have lx := rr.len
    (repeat (first | refine ⟨rfl, ?_⟩ | refine ⟨_, rfl, ?_⟩ | refine ⟨_, _, rfl, rfl, ?_⟩ | refine ⟨_, _, rfl, ?_⟩ | refine ⟨slen rfl, ?_⟩ | refine ⟨⟨by decide, by decide +kernel⟩, ?_⟩ | refine ⟨⟨by decide, by decide, by decide⟩, ?_⟩ | refine ⟨(by show (0 : Int) < _; first | decide | assumption | omega), ?_⟩ | refine ⟨mul_ok (by first | exact .inr (by decide) | exact .inl (by decide)), ?_⟩))
    (intro y ny; generalize hGy : upd _ y _ = H1; have eH1 := exG hGy ny; have hy := atG hGy; clear hGy)
    have q1 := hq.mono eH1
    refine ⟨_, y, _, _, _, true, rfl, hy, .cons (.ty _) (.cons (.ty _) .nil), q1.ty, kit_seq b, _, rfl, ?_⟩
    refine ⟨_, rfl, q, _, rfl, sq_or q1, rfl, _, rfl, itf (by rw [dec_int, lx]; simp; exact ne) ?_⟩
    (intro d nd; generalize hGd : upd _ d _ = H2; have eH2 := exG hGd nd; have hd := atG hGd; clear hGd)
    have e2 : Ex H H2 := ext eH1 eH2
    have nd0 : H d = none := Evl.fresh_back eH1 nd
    refine ⟨_, rfl, (b, q), rfl, ⟨_, (hq.mono e2).sq⟩, ?_⟩
    refine for_it (CE.walk_e (xs := xs)) (fun i σ H3 => ∃ (y3 y4 : Option V) (kvs : List (List Key × V)), σ = [some (.ref a), some (.ref q), some (.ref d), y3, y4] ∧ Ex H H3 ∧ H3 d = some (.dT kvs) ∧ kvs.length = i ∧ ∀ ts : List Int, (valV kvs (kI ts)).isSome = true → ts ∈ tss.take i) ⟨_, _, [], rfl, e2, hd, rfl, fun t h => by simp [valV] at h⟩ (fun i σ H2 _ ⟨_, _, _, _, e, _⟩ => (hq.mono e).sq) ?_ ?_
    · rintro i x σ H3 H4 hi ⟨y3, y4, kvs, rfl, e3, hd3, lk, hv⟩ ⟨Ta, x1, x2, rfl, hT, rfl, hx1, hx2⟩
      cases hx1
      obtain ⟨ts, r, ht, rfl, hr0⟩ := rr.get hx2
      have sk := sks ts (List.mem_of_getElem? ht)
      have lt := sk.len
      have e4 : Ex H (upd H3 Ta (.tup [.int (i : Nat), .ref r])) := ext e3 (exn hT)
      have hd4 := exn (o := .tup [.int (i : Nat), .ref r]) hT _ _ hd3
      refine ⟨Ta, _, rfl, SqT.of upd_same, rfl, _, _, rfl, _, _, rfl, rfl, ?_⟩
      generalize upd H3 Ta (.tup [.int (i : Nat), .ref r]) = H4 at e4 hd4
      obtain ⟨dx, t, g1, g2⟩ := tab.mono e4
      refine ⟨_, rfl, a, dx, _, rfl, g1, rfl, _, rfl, a, _, ns, _, rfl, tab.mono e4, l4, TupA.ints (e4 _ _ hr0) (by omega), fun H5 e5 => ?_⟩
      refine ⟨_, rfl, itf (by rw [isSeat_ok sk]; rfl) ?_⟩
      have hno : valV kvs (kI ts) = none := by
        cases hz : valV kvs (kI ts) with
        | none => rfl
        | some v => exact absurd (hv ts (by rw [hz]; rfl)) (nodup_get nod ht)
      have hd5 := e5 _ _ hd4
      have hr5 : H5 r = some (.tup ((kI ts).map kV)) := by rw [kI_map]; exact e5 _ _ (e4 _ _ hr0)
      refine ⟨_, rfl, _, rfl, d, _, rfl, DGet.t hd5 hr5, _, rfl, itf (by rw [hno]; rfl) ?_⟩
      refine ⟨_, rfl, _, rfl, _, rfl, d, _, rfl, DPut.t hd5 hr5 ?_, ?_⟩
      · rw [lk]
        exact Nat.lt_of_lt_of_le (show i < tss.length by omega) (Nat.le_trans lts (by decide))
      · refine ⟨_, _, putK kvs (kI ts) (.int (i : Nat)), rfl, ?_, upd_same, by rw [put_len hno, lk], fun us hu => ?_⟩
        · intro c o z
          rw [upd_ne (ne_of_none z nd0)]
          exact e5 c o (e4 c o z)
        · rw [valV_put] at hu
          rw [take_more ht, List.mem_append]
          by_cases e : us = ts
          · exact .inr (by rw [e]; exact List.mem_cons_self)
          · rw [if_neg (fun z => e (kI_inj z))] at hu
            exact .inl (hv us hu)
    · rintro σ H2 ⟨y3, y4, kvs, rfl, e3, _⟩
      exact k _ e3
end

open CD
/-! ### lattices of integer vectors -/
abbrev Vec := Nat → Int
inductive Lat (G : Vec → Prop) : Vec → Prop where
  | zero : Lat G (fun _ => 0)
  | step {v g : Vec} (k : Int) (h : Lat G v) (hg : G g) : Lat G (fun i => v i - k * g i)
theorem Lat.comb {G : Vec → Prop} {u v : Vec} (hu : Lat G u) (hv : Lat G v) : ∀ k : Int, Lat G (fun i => u i - k * v i) := by
  induction hv with
  | zero =>
    intro k
    have : (fun i => u i - k * 0) = u := by funext i; simp
    rw [this]
    exact hu
  | step j h hg ih =>
    intro k
    have := Lat.step (-(k * j)) (ih k) hg
    refine (congrArg (Lat G) (funext fun i => ?_)).mp this
    grind
theorem Lat.gen {G : Vec → Prop} {g : Vec} (h : G g) : Lat G g := by
  have := Lat.step (-1) (Lat.zero (G := G)) h
  refine (congrArg (Lat G) (funext fun i => ?_)).mp this
  grind
theorem Lat.of_eq {G : Vec → Prop} {u v : Vec} (h : Lat G u) (e : ∀ i, u i = v i) : Lat G v := (funext e : u = v) ▸ h
theorem Lat.add {G : Vec → Prop} {u v : Vec} (hu : Lat G u) (hv : Lat G v) : Lat G (fun i => u i + v i) := (hu.comb hv (-1)).of_eq fun i => by grind
theorem Lat.mul {G : Vec → Prop} {v : Vec} (hv : Lat G v) (k : Int) : Lat G (fun i => k * v i) := (Lat.zero.comb hv (-k)).of_eq fun i => by grind
theorem Lat.le {G G' : Vec → Prop} {v : Vec} (h : ∀ g, G g → Lat G' g) (hv : Lat G v) : Lat G' v := by
  induction hv with
  | zero => exact .zero
  | step k _ hg ih => exact ih.comb (h _ hg) k
/-- a list as a vector -/
def vf (v : List Int) : Vec := fun i => v.getD i 0
theorem vf_nil : vf [] = fun _ => 0 := by funext i; simp [vf]
theorem vf_ge {v : List Int} {i : Nat} (h : v.length ≤ i) : vf v i = 0 := by
  unfold vf
  rw [List.getD_eq_getElem?_getD, List.getElem?_eq_none h]
  rfl
theorem vf_at {v : List Int} {i : Nat} {x : Int} (h : v[i]? = some x) : vf v i = x := by
  unfold vf
  rw [List.getD_eq_getElem?_getD, h]
  rfl
def axpy (k : Int) (a b : List Int) : List Int := List.zipWith (fun x y => x - k * y) a b
theorem axpy_len {k : Int} {a b : List Int} (h : a.length = b.length) : (axpy k a b).length = b.length := by simp [axpy, h]
theorem axpy_vf {k : Int} {a b : List Int} (h : a.length = b.length) : vf (axpy k a b) = fun i => vf a i - k * vf b i := by
  funext i
  by_cases hi : i < a.length
  · have h1 : a[i]? = some a[i] := List.getElem?_eq_getElem hi
    have h2 : b[i]? = some (b[i]'(by omega)) := List.getElem?_eq_getElem (by omega)
    have h3 : (axpy k a b)[i]? = some (a[i] - k * b[i]'(by omega)) := by
      unfold axpy
      rw [List.getElem?_zipWith, h1, h2]
    rw [vf_at h1, vf_at h2, vf_at h3]
  · rw [vf_ge (v := a) (by omega), vf_ge (v := b) (by omega), vf_ge (by rw [axpy_len h]; omega)]
    grind
/-- what stays behind Euclid's step -/
theorem fmod_small {x y : Int} (h : y ≠ 0) : (x - x.fdiv y * y).natAbs < y.natAbs := by
  have e := Int.fmod_def x y
  have e2 : x - x.fdiv y * y = x.fmod y := by rw [e, Int.mul_comm]
  rw [e2]
  rw [Int.fmod_eq_emod]
  have a := Int.emod_nonneg x h
  have b := Int.emod_lt x h
  split
  · omega
  · rename_i hn
    have hd : ¬ y ∣ x := fun z => hn (.inr z)
    have hy : ¬ 0 ≤ y := fun z => hn (.inl z)
    have : x % y ≠ 0 := fun z => hd (Int.dvd_of_emod_eq_zero z)
    omega
/-- rows of Euclid, by a column -/
def combF (c : Nat) (f s : List Int) : List Int × List Int :=
  if h : vf s c = 0 then (f, s) else combF c s (axpy ((vf f c).fdiv (vf s c)) f s)
termination_by (vf s c).natAbs
decreasing_by
  by_cases hf : c < f.length
  · have hs : c < s.length := by
      rcases Nat.lt_or_ge c s.length with z | z
      · exact z
      · exact absurd (vf_ge z) h
    have h3 : (axpy ((vf f c).fdiv (vf s c)) f s)[c]? = some (f[c] - (vf f c).fdiv (vf s c) * s[c]) := by
      unfold axpy
      rw [List.getElem?_zipWith, List.getElem?_eq_getElem hf, List.getElem?_eq_getElem hs]
    rw [vf_at h3, ← vf_at (List.getElem?_eq_getElem hf), ← vf_at (List.getElem?_eq_getElem hs)]
    exact fmod_small h
  · rw [vf_ge (v := axpy _ f s) (by unfold axpy; rw [List.length_zipWith]; omega)]
    omega
theorem combF_eq (c : Nat) (f s : List Int) : combF c f s = if vf s c = 0 then (f, s) else combF c s (axpy ((vf f c).fdiv (vf s c)) f s) := by
  rw [combF]
  split <;> rfl
/-- by induction on Euclid's steps -/
theorem comb_ind {c : Nat} {P : List Int → List Int → Prop} {n : Nat} (h : ∀ f s, f.length = n → s.length = n → vf s c ≠ 0 → P f s → P s (axpy ((vf f c).fdiv (vf s c)) f s)) :
    ∀ (m : Nat) (f s : List Int), (vf s c).natAbs ≤ m → f.length = n → s.length = n → P f s → P (combF c f s).1 (combF c f s).2 ∧ (combF c f s).1.length = n ∧ (combF c f s).2.length = n ∧ vf (combF c f s).2 c = 0
  | m, f, s, hm, lf, ls, hp => by
    rw [combF_eq]
    by_cases z : vf s c = 0
    · rw [if_pos z]
      exact ⟨hp, lf, ls, z⟩
    · rw [if_neg z]
      have la : (axpy ((vf f c).fdiv (vf s c)) f s).length = n := by rw [axpy_len (by omega), ls]
      have lt : (vf (axpy ((vf f c).fdiv (vf s c)) f s) c).natAbs < (vf s c).natAbs := by
        rw [axpy_vf (by omega)]
        exact fmod_small z
      cases m with
      | zero => omega
      | succ m => exact comb_ind h m s _ (by omega) ls la (h f s lf ls z hp)
/-- generators: two rows and others -/
def two (R : Vec → Prop) (f s : List Int) : Vec → Prop := fun g => g = vf f ∨ g = vf s ∨ R g
theorem comb_lat {c n : Nat} {f s : List Int} (lf : f.length = n) (ls : s.length = n) (R : Vec → Prop) (v : Vec) : Lat (two R f s) v ↔ Lat (two R (combF c f s).1 (combF c f s).2) v := by
  have := comb_ind (c := c) (n := n) (P := fun a b => ∀ v, Lat (two R f s) v ↔ Lat (two R a b) v) (fun a b la lb nz ih v => (ih v).trans ?_) _ f s (Nat.le_refl _) lf ls fun v => Iff.rfl
  · exact this.1 v
  constructor
  · refine Lat.le fun g hg => ?_
    rcases hg with rfl | rfl | hg
    · have h1 : Lat (two R b (axpy ((vf a c).fdiv (vf b c)) a b)) (vf (axpy ((vf a c).fdiv (vf b c)) a b)) := Lat.gen (.inr (.inl rfl))
      rw [axpy_vf (by omega)] at h1
      have h2 : Lat (two R b (axpy ((vf a c).fdiv (vf b c)) a b)) (vf b) := Lat.gen (.inl rfl)
      exact (h1.comb h2 (-((vf a c).fdiv (vf b c)))).of_eq fun i => by grind
    · exact Lat.gen (.inl rfl)
    · exact Lat.gen (.inr (.inr hg))
  · refine Lat.le fun g hg => ?_
    rcases hg with rfl | rfl | hg
    · exact Lat.gen (.inr (.inl rfl))
    · rw [axpy_vf (by omega)]
      exact (Lat.gen (G := two R a b) (.inl rfl)).comb (Lat.gen (.inr (.inl rfl))) _
    · exact Lat.gen (.inr (.inr hg))
theorem comb_zero {c n j : Nat} {f s : List Int} (lf : f.length = n) (ls : s.length = n) (h1 : vf f j = 0) (h2 : vf s j = 0) : vf (combF c f s).1 j = 0 ∧ vf (combF c f s).2 j = 0 :=
  (comb_ind (c := c) (n := n) (P := fun a b => vf a j = 0 ∧ vf b j = 0) (fun a b la lb nz ih => ⟨ih.2, by rw [axpy_vf (by omega)]; simp [ih.1, ih.2]⟩) _ f s (Nat.le_refl _) lf ls ⟨h1, h2⟩).1
theorem comb_nz {c n : Nat} {f s : List Int} (lf : f.length = n) (ls : s.length = n) (h1 : vf f c ≠ 0) : vf (combF c f s).1 c ≠ 0 :=
  (comb_ind (c := c) (n := n) (P := fun a b => vf a c ≠ 0) (fun a b la lb nz ih => nz) _ f s (Nat.le_refl _) lf ls h1).1
theorem comb_len {c n : Nat} {f s : List Int} (lf : f.length = n) (ls : s.length = n) : (combF c f s).1.length = n ∧ (combF c f s).2.length = n ∧ vf (combF c f s).2 c = 0 :=
  (comb_ind (c := c) (n := n) (P := fun _ _ => True) (fun _ _ _ _ _ _ => True.intro) _ f s (Nat.le_refl _) lf ls True.intro).2

/-! ### a triangular basis -/
def unitV (j : Nat) (x : Int) : Vec := fun i => if i = j then x else 0
def redF (c : Nat) (odds row : List Int) : List Int := row.take (c + 1) ++ List.zipWith (fun x y => x % y) (row.drop (c + 1)) (odds.drop (c + 1))
theorem red_len {c n : Nat} {odds row : List Int} (h1 : odds.length = n) (h2 : row.length = n) : (redF c odds row).length = n := by
  unfold redF
  rw [List.length_append, List.length_take, List.length_zipWith, List.length_drop, List.length_drop]
  omega
theorem red_vf {c n : Nat} {odds row : List Int} (h1 : odds.length = n) (h2 : row.length = n) (i : Nat) : vf (redF c odds row) i = if c < i ∧ i < n then vf row i % vf odds i else vf row i := by
  by_cases hn : i < n
  · by_cases hc : c < i
    · rw [if_pos ⟨hc, hn⟩]
      have e1 : row[i]? = some (row[i]'(by omega)) := List.getElem?_eq_getElem (by omega)
      have e2 : odds[i]? = some (odds[i]'(by omega)) := List.getElem?_eq_getElem (by omega)
      rw [vf_at e1, vf_at e2]
      refine vf_at ?_
      unfold redF
      rw [List.getElem?_append_right (by rw [List.length_take]; omega), List.getElem?_zipWith, List.length_take, List.getElem?_drop, List.getElem?_drop]
      have e3 : c + 1 + (i - min (c + 1) row.length) = i := by omega
      rw [e3, e1, e2]
    · rw [if_neg (fun z => hc z.1)]
      have e1 : row[i]? = some (row[i]'(by omega)) := List.getElem?_eq_getElem (by omega)
      rw [vf_at e1]
      refine vf_at ?_
      unfold redF
      rw [List.getElem?_append_left (by rw [List.length_take]; omega), List.getElem?_take, if_pos (by omega), e1]
  · rw [if_neg (fun z => hn z.2), vf_ge (by rw [red_len h1 h2]; omega), vf_ge (by omega)]
/-- multiples of units -/
theorem units_lat {G : Vec → Prop} {c n : Nat} {o k : Nat → Int} (h : ∀ j, c < j → j < n → G (unitV j (o j))) : ∀ m, m ≤ n → Lat G (fun i => if c < i ∧ i < m then k i * o i else 0)
  | 0, _ => Lat.zero.of_eq fun i => by simp
  | m + 1, hm => by
    have ih := units_lat (k := k) h m (by omega)
    by_cases hc : c < m
    · refine (ih.comb (Lat.gen (h m hc (by omega))) (-(k m))).of_eq fun i => ?_
      unfold unitV
      by_cases hi : i = m
      · subst hi
        rw [if_neg (by omega), if_pos rfl, if_pos (by omega)]
        grind
      · rw [if_neg hi]
        by_cases hj : c < i ∧ i < m
        · rw [if_pos hj, if_pos (by omega)]
          grind
        · rw [if_neg hj, if_neg (by omega)]
          grind
    · refine ih.of_eq fun i => ?_
      by_cases hj : c < i ∧ i < m
      · omega
      · rw [if_neg hj, if_neg (by omega)]
/-- a row and the reduced one: alike beside the units -/
theorem red_lat {G : Vec → Prop} {c n : Nat} {odds row : List Int} (h1 : odds.length = n) (h2 : row.length = n) (h : ∀ j, c < j → j < n → G (unitV j (vf odds j))) : Lat G (fun i => vf row i - vf (redF c odds row) i) := by
  refine (units_lat (k := fun i => vf row i / vf odds i) h n (Nat.le_refl _)).of_eq fun i => ?_
  rw [red_vf h1 h2]
  by_cases hi : c < i ∧ i < n
  · rw [if_pos hi, if_pos hi]
    have := Int.mul_ediv_add_emod (vf row i) (vf odds i)
    grind
  · rw [if_neg hi, if_neg hi]
    grind
/-- one row more in a column -/
def pivF (c : Nat) (odds : List Int) (st : List Int × List (List Int)) (row : List Int) : List Int × List (List Int) :=
  (redF c odds (combF c st.1 row).1, st.2 ++ [redF c odds (combF c st.1 row).2])
def unitL (n c : Nat) (x : Int) : List Int := (List.range n).map fun i => if i = c then x else 0
theorem unitL_vf {n c : Nat} {x : Int} (h : c < n) : vf (unitL n c x) = unitV c x := by
  funext i
  unfold unitV unitL
  by_cases hi : i < n
  · refine vf_at ?_
    rw [List.getElem?_map, List.getElem?_range hi]
    rfl
  · rw [vf_ge (by simp; omega), if_neg (by omega)]
def colF (odds : List Int) (c : Nat) (rows : List (List Int)) : List Int × List (List Int) := rows.foldl (pivF c odds) (unitL odds.length c (vf odds c), [])
/-- generators: rows done, a pivot, rows, units behind c -/
def gens (B : Vec → Prop) (p : List Int) (rows : List (List Int)) (c n : Nat) (odds : List Int) : Vec → Prop := fun g => B g ∨ g = vf p ∨ (∃ r ∈ rows, g = vf r) ∨ ∃ j, c < j ∧ j < n ∧ g = unitV j (vf odds j)
theorem lat_same {G G' : Vec → Prop} (h : ∀ g, G g → Lat G' g) (h' : ∀ g, G' g → Lat G g) (v : Vec) : Lat G v ↔ Lat G' v := ⟨Lat.le h, Lat.le h'⟩
/-- a row replaced by one that differs by the lattice of the others -/
theorem lat_swap {R : Vec → Prop} {a b : Vec} (h : Lat R (fun i => a i - b i)) (v : Vec) : Lat (fun g => g = a ∨ R g) v ↔ Lat (fun g => g = b ∨ R g) v := by
  have up : ∀ {c : Vec} {g : Vec}, Lat R g → Lat (fun g => g = c ∨ R g) g := fun z => Lat.le (fun g hg => Lat.gen (.inr hg)) z
  refine lat_same (fun g hg => ?_) (fun g hg => ?_) v
  · rcases hg with rfl | hg
    · exact ((up h).add (Lat.gen (G := fun g => g = b ∨ R g) (.inl rfl))).of_eq fun i => by grind
    · exact Lat.gen (.inr hg)
  · rcases hg with rfl | hg
    · exact ((Lat.gen (G := fun g => g = a ∨ R g) (.inl rfl)).comb (up h) 1).of_eq fun i => by grind
    · exact Lat.gen (.inr hg)
theorem lat_congr {G G' : Vec → Prop} (h : ∀ g, G g ↔ G' g) (v : Vec) : Lat G v ↔ Lat G' v := lat_same (fun g hg => Lat.gen ((h g).mp hg)) (fun g hg => Lat.gen ((h g).mpr hg)) v
theorem piv_lat {B : Vec → Prop} {c n : Nat} {odds : List Int} (h1 : odds.length = n) {p row : List Int} {os rest : List (List Int)} (lp : p.length = n) (lr : row.length = n) (v : Vec) :
    Lat (gens B p (os ++ row :: rest) c n odds) v ↔ Lat (gens B (redF c odds (combF c p row).1) (os ++ [redF c odds (combF c p row).2] ++ rest) c n odds) v := by
  obtain ⟨l1, l2, _⟩ := comb_len (c := c) lp lr
  let R : Vec → Prop := fun g => B g ∨ (∃ r ∈ os ++ rest, g = vf r) ∨ ∃ j, c < j ∧ j < n ∧ g = unitV j (vf odds j)
  have hR : ∀ j, c < j → j < n → R (unitV j (vf odds j)) := fun j a b => .inr (.inr ⟨j, a, b, rfl⟩)
  have s1 : Lat (gens B p (os ++ row :: rest) c n odds) v ↔ Lat (two R p row) v := by
    refine lat_congr (fun g => ?_) v
    unfold gens two
    simp only [R, List.mem_append, List.mem_cons]
    constructor
    · rintro (h | h | ⟨r, (h | h | h), rfl⟩ | h)
      · exact .inr (.inr (.inl h))
      · exact .inl h
      · exact .inr (.inr (.inr (.inl ⟨r, .inl h, rfl⟩)))
      · subst h; exact .inr (.inl rfl)
      · exact .inr (.inr (.inr (.inl ⟨r, .inr h, rfl⟩)))
      · exact .inr (.inr (.inr (.inr h)))
    · rintro (h | h | h | ⟨r, (h | h), rfl⟩ | h)
      · exact .inr (.inl h)
      · exact .inr (.inr (.inl ⟨row, .inr (.inl rfl), h⟩))
      · exact .inl h
      · exact .inr (.inr (.inl ⟨r, .inl h, rfl⟩))
      · exact .inr (.inr (.inl ⟨r, .inr (.inr h), rfl⟩))
      · exact .inr (.inr (.inr h))
  have s2 := comb_lat (c := c) lp lr R v
  have s3 : Lat (two R (combF c p row).1 (combF c p row).2) v ↔ Lat (two R (redF c odds (combF c p row).1) (combF c p row).2) v :=
    lat_swap (R := fun g => g = vf (combF c p row).2 ∨ R g) (red_lat h1 l1 fun j a b => .inr (hR j a b)) v
  have s4 : Lat (two R (redF c odds (combF c p row).1) (combF c p row).2) v ↔ Lat (fun g => g = vf (redF c odds (combF c p row).2) ∨ g = vf (redF c odds (combF c p row).1) ∨ R g) v := by
    refine (lat_congr (G' := fun g => g = vf (combF c p row).2 ∨ g = vf (redF c odds (combF c p row).1) ∨ R g) (fun g => ?_) v).trans (lat_swap (R := fun g => g = vf (redF c odds (combF c p row).1) ∨ R g) (red_lat h1 l2 fun j a b => .inr (hR j a b)) v)
    unfold two
    constructor
    · rintro (h | h | h)
      · exact .inr (.inl h)
      · exact .inl h
      · exact .inr (.inr h)
    · rintro (h | h | h)
      · exact .inr (.inl h)
      · exact .inl h
      · exact .inr (.inr h)
  refine s1.trans (s2.trans (s3.trans (s4.trans (lat_congr (fun g => ?_) v))))
  unfold gens
  simp only [R, List.mem_append, List.mem_singleton]
  constructor
  · rintro (h | h | h | ⟨r, (h | h), rfl⟩ | h)
    · exact .inr (.inr (.inl ⟨_, .inl (.inr rfl), h⟩))
    · exact .inr (.inl h)
    · exact .inl h
    · exact .inr (.inr (.inl ⟨r, .inl (.inl h), rfl⟩))
    · exact .inr (.inr (.inl ⟨r, .inr h, rfl⟩))
    · exact .inr (.inr (.inr h))
  · rintro (h | h | ⟨r, ((h | h) | h), rfl⟩ | h)
    · exact .inr (.inr (.inl h))
    · exact .inr (.inl h)
    · exact .inr (.inr (.inr (.inl ⟨r, .inl h, rfl⟩)))
    · subst h; exact .inl rfl
    · exact .inr (.inr (.inr (.inl ⟨r, .inr h, rfl⟩)))
    · exact .inr (.inr (.inr (.inr h)))
/-- what a column leaves -/
theorem col_fold {B : Vec → Prop} {c n : Nat} {odds : List Int} (h1 : odds.length = n) (hc : c < n) (L : Vec → Prop) : ∀ (rows : List (List Int)) (p : List Int) (os : List (List Int)),
    (∀ r ∈ rows, r.length = n ∧ ∀ j, j < c → vf r j = 0) → p.length = n → (∀ j, j < c → vf p j = 0) → vf p c ≠ 0 → (∀ r ∈ os, r.length = n ∧ ∀ j, j ≤ c → vf r j = 0) → (∀ v, Lat (gens B p (os ++ rows) c n odds) v ↔ L v) →
    let q := rows.foldl (pivF c odds) (p, os)
    q.1.length = n ∧ (∀ j, j < c → vf q.1 j = 0) ∧ vf q.1 c ≠ 0 ∧ (∀ r ∈ q.2, r.length = n ∧ ∀ j, j ≤ c → vf r j = 0) ∧ (∀ v, Lat (gens B q.1 q.2 c n odds) v ↔ L v)
  | [], p, os, _, lp, zp, nz, zo, hl => ⟨lp, zp, nz, zo, fun v => by have := hl v; rwa [List.append_nil] at this⟩
  | row :: rows, p, os, hr, lp, zp, nz, zo, hl => by
    obtain ⟨lr, zr⟩ := hr row List.mem_cons_self
    obtain ⟨l1, l2, z2⟩ := comb_len (c := c) lp lr
    refine col_fold h1 hc L rows (redF c odds (combF c p row).1) (os ++ [redF c odds (combF c p row).2]) (fun r h => hr r (List.mem_cons_of_mem _ h)) (red_len h1 l1) (fun j hj => ?_) ?_ (fun r h => ?_) (fun v => (piv_lat h1 lp lr v).symm.trans (hl v))
    · rw [red_vf h1 l1, if_neg (by omega)]
      exact (comb_zero lp lr (zp j hj) (zr j hj)).1
    · rw [red_vf h1 l1, if_neg (by omega)]
      exact comb_nz lp lr nz
    · rcases List.mem_append.mp h with h | h
      · exact zo r h
      · rw [List.mem_singleton.mp h]
        refine ⟨red_len h1 l2, fun j hj => ?_⟩
        rw [red_vf h1 l2, if_neg (by omega)]
        by_cases e : j = c
        · rw [e]; exact z2
        · exact (comb_zero lp lr (zp j (by omega)) (zr j (by omega))).2

/-- the pivot with a positive entry -/
def posF (c : Nat) (p : List Int) : List Int := if 0 < vf p c then p else p.map fun x => -x
theorem neg_vf (p : List Int) : vf (p.map fun x => -x) = fun i => - vf p i := by
  funext i
  by_cases hi : i < p.length
  · have e : p[i]? = some p[i] := List.getElem?_eq_getElem hi
    rw [vf_at e]
    exact vf_at (by rw [List.getElem?_map, e]; rfl)
  · rw [vf_ge (by simp; omega), vf_ge (by omega)]
    rfl
theorem pos_len (c : Nat) (p : List Int) : (posF c p).length = p.length := by
  unfold posF
  split <;> simp
theorem pos_pos {c : Nat} {p : List Int} (h : vf p c ≠ 0) : 0 < vf (posF c p) c := by
  unfold posF
  split
  · assumption
  · rw [neg_vf]
    show 0 < - vf p c
    omega
theorem pos_zero {c j : Nat} {p : List Int} (h : vf p j = 0) : vf (posF c p) j = 0 := by
  unfold posF
  split
  · exact h
  · rw [neg_vf]
    show - vf p j = 0
    omega
theorem pos_lat {R : Vec → Prop} (c : Nat) (p : List Int) (v : Vec) : Lat (fun g => g = vf p ∨ R g) v ↔ Lat (fun g => g = vf (posF c p) ∨ R g) v := by
  unfold posF
  split
  · exact Iff.rfl
  · rw [neg_vf]
    refine lat_same (fun g hg => ?_) (fun g hg => ?_) v
    · rcases hg with rfl | hg
      · exact ((Lat.gen (G := fun g => g = (fun i => - vf p i) ∨ R g) (.inl rfl)).mul (-1)).of_eq fun i => by grind
      · exact Lat.gen (.inr hg)
    · rcases hg with rfl | hg
      · exact ((Lat.gen (G := fun g => g = vf p ∨ R g) (.inl rfl)).mul (-1)).of_eq fun i => by grind
      · exact Lat.gen (.inr hg)
/-- one column more -/
def nextF (odds : List Int) (st : List (List Int) × List (List Int)) (c : Nat) : List (List Int) × List (List Int) := (st.1 ++ [posF c (colF odds c st.2).1], (colF odds c st.2).2)
def basisF (odds : List Int) (rows : List (List Int)) : List (List Int) := ((List.range odds.length).foldl (nextF odds) ([], rows)).1
/-- the i-th row begins at i, with a positive entry -/
def Tri (n : Nat) (B : List (List Int)) : Prop := ∀ i (r : List Int), B[i]? = some r → r.length = n ∧ (∀ j, j < i → vf r j = 0) ∧ 0 < vf r i
def rowsG (B : List (List Int)) : Vec → Prop := fun g => ∃ r ∈ B, g = vf r
/-- free shifts: of rows and units -/
def shG (rows : List (List Int)) (c n : Nat) (odds : List Int) : Vec → Prop := fun g => (∃ r ∈ rows, g = vf r) ∨ ∃ j, c ≤ j ∧ j < n ∧ g = unitV j (vf odds j)
theorem next_inv {n : Nat} {odds : List Int} (h1 : odds.length = n) (ho : ∀ i, i < n → vf odds i ≠ 0) (L : Vec → Prop) {c : Nat} (hc : c < n) {B rows : List (List Int)} (lB : B.length = c) (tri : Tri n B) (hr : ∀ r ∈ rows, r.length = n ∧ ∀ j, j < c → vf r j = 0)
    (hl : ∀ v, Lat (fun g => rowsG B g ∨ shG rows c n odds g) v ↔ L v) :
    let q := nextF odds (B, rows) c
    q.1.length = c + 1 ∧ Tri n q.1 ∧ (∀ r ∈ q.2, r.length = n ∧ ∀ j, j < c + 1 → vf r j = 0) ∧ (∀ v, Lat (fun g => rowsG q.1 g ∨ shG q.2 (c + 1) n odds g) v ↔ L v) := by
  have lu : (unitL odds.length c (vf odds c)).length = n := by simp [unitL, h1]
  have uv : vf (unitL odds.length c (vf odds c)) = unitV c (vf odds c) := unitL_vf (by omega)
  have key := col_fold (B := rowsG B) h1 hc L rows (unitL odds.length c (vf odds c)) [] hr lu (fun j hj => by rw [uv]; unfold unitV; rw [if_neg (by omega)]) (by rw [uv]; unfold unitV; rw [if_pos rfl]; exact ho c hc) (by simp) (fun v => by
    refine (lat_congr (fun g => ?_) v).trans (hl v)
    unfold gens shG
    rw [uv, List.nil_append]
    constructor
    · rintro (h | h | h | ⟨j, a, b, rfl⟩)
      · exact .inl h
      · exact .inr (.inr ⟨c, Nat.le_refl _, hc, h⟩)
      · exact .inr (.inl h)
      · exact .inr (.inr ⟨j, by omega, b, rfl⟩)
    · rintro (h | h | ⟨j, a, b, rfl⟩)
      · exact .inl h
      · exact .inr (.inr (.inl h))
      · by_cases e : j = c
        · subst e; exact .inr (.inl rfl)
        · exact .inr (.inr (.inr ⟨j, by omega, b, rfl⟩)))
  obtain ⟨k1, k2, k3, k4, k5⟩ := key
  show (B ++ [posF c (colF odds c rows).1]).length = c + 1 ∧ Tri n (B ++ [posF c (colF odds c rows).1]) ∧ (∀ r ∈ (colF odds c rows).2, r.length = n ∧ ∀ j, j < c + 1 → vf r j = 0) ∧ (∀ v, Lat (fun g => rowsG (B ++ [posF c (colF odds c rows).1]) g ∨ shG (colF odds c rows).2 (c + 1) n odds g) v ↔ L v)
  refine ⟨by rw [List.length_append, lB]; rfl, fun i r hi => ?_, fun r hr => ⟨(k4 r hr).1, fun j hj => (k4 r hr).2 j (by omega)⟩, fun v => ?_⟩
  · by_cases hlt : i < c
    · rw [List.getElem?_append_left (by omega)] at hi
      exact tri i r hi
    · rw [List.getElem?_append_right (by omega), lB] at hi
      have : i - c = 0 := by
        rcases Nat.eq_zero_or_pos (i - c) with z | z
        · exact z
        · rw [List.getElem?_eq_none (by simp; omega)] at hi
          cases hi
      rw [this] at hi
      obtain rfl : posF c (colF odds c rows).1 = r := by simpa using hi
      have : i = c := by omega
      subst this
      exact ⟨by rw [pos_len]; exact k1, fun j hj => pos_zero (k2 j hj), pos_pos k3⟩
  · refine Iff.trans ?_ (k5 v)
    refine Iff.trans (lat_congr (G' := fun g => g = vf (posF c (colF odds c rows).1) ∨ (rowsG B g ∨ shG (colF odds c rows).2 (c + 1) n odds g)) (fun g => ?_) v) ((pos_lat c _ v).symm.trans (lat_congr (fun g => ?_) v))
    · unfold rowsG
      simp only [List.mem_append, List.mem_singleton]
      constructor
      · rintro (⟨r, (h | h), rfl⟩ | h)
        · exact .inr (.inl ⟨r, h, rfl⟩)
        · subst h; exact .inl rfl
        · exact .inr (.inr h)
      · rintro (h | ⟨r, h, rfl⟩ | h)
        · exact .inl ⟨_, .inr rfl, h⟩
        · exact .inl ⟨r, .inl h, rfl⟩
        · exact .inr h
    · unfold gens shG colF
      constructor
      · rintro (h | h | h | ⟨j, a, b, rfl⟩)
        · exact .inr (.inl h)
        · exact .inl h
        · exact .inr (.inr (.inl h))
        · exact .inr (.inr (.inr ⟨j, by omega, b, rfl⟩))
      · rintro (h | h | h | ⟨j, a, b, rfl⟩)
        · exact .inr (.inl h)
        · exact .inl h
        · exact .inr (.inr (.inl h))
        · exact .inr (.inr (.inr ⟨j, by omega, b, rfl⟩))
theorem fold_inv {n : Nat} {odds : List Int} (h1 : odds.length = n) (ho : ∀ i, i < n → vf odds i ≠ 0) {rows : List (List Int)} (hr : ∀ r ∈ rows, r.length = n) : ∀ c, c ≤ n →
    let q := (List.range c).foldl (nextF odds) ([], rows)
    q.1.length = c ∧ Tri n q.1 ∧ (∀ r ∈ q.2, r.length = n ∧ ∀ j, j < c → vf r j = 0) ∧ (∀ v, Lat (fun g => rowsG q.1 g ∨ shG q.2 c n odds g) v ↔ Lat (shG rows 0 n odds) v)
  | 0, _ => ⟨rfl, fun i r h => by simp at h, fun r h => ⟨hr r h, fun j hj => absurd hj (by omega)⟩, fun v => lat_congr (fun g => ⟨fun h => h.elim (fun ⟨r, z, _⟩ => nomatch z) id, .inr⟩) v⟩
  | c + 1, hc => by
    obtain ⟨a1, a2, a3, a4⟩ := fold_inv h1 ho hr c (by omega)
    rw [List.range_succ, List.foldl_append]
    exact next_inv h1 ho _ (by omega) a1 a2 a3 a4
/-- the basis: triangular, and of the same lattice -/
theorem basis_ok {n : Nat} {odds : List Int} (h1 : odds.length = n) (ho : ∀ i, i < n → vf odds i ≠ 0) {rows : List (List Int)} (hr : ∀ r ∈ rows, r.length = n) :
    (basisF odds rows).length = n ∧ Tri n (basisF odds rows) ∧ ∀ v, Lat (rowsG (basisF odds rows)) v ↔ Lat (shG rows 0 n odds) v := by
  obtain ⟨a1, a2, a3, a4⟩ := fold_inv h1 ho hr n (Nat.le_refl _)
  unfold basisF
  rw [h1]
  refine ⟨a1, a2, fun v => Iff.trans ?_ (a4 v)⟩
  refine lat_same (fun g hg => Lat.gen (.inl hg)) (fun g hg => ?_) v
  rcases hg with hg | ⟨r, hr2, rfl⟩ | ⟨j, b, c, _⟩
  · exact Lat.gen hg
  · refine Lat.zero.of_eq fun i => ?_
    by_cases hi : i < n
    · exact ((a3 r hr2).2 i hi).symm
    · exact (vf_ge (by rw [(a3 r hr2).1]; omega)).symm
  · omega
/-! ### what a triangular basis tells -/
/-- rows from i on -/
theorem tri_step {n i : Nat} {B : List (List Int)} {b : List Int} (tri : Tri n B) (hb : B[i]? = some b) {v : Vec} (h : Lat (rowsG (B.drop i)) v) : vf b i ∣ v i ∧ Lat (rowsG (B.drop (i + 1))) (fun j => v j - v i / vf b i * vf b j) := by
  obtain ⟨lb, zb, pb⟩ := tri i b hb
  have hd : B.drop i = b :: B.drop (i + 1) := by
    obtain ⟨hi, e⟩ := List.getElem?_eq_some_iff.mp hb
    rw [List.drop_eq_getElem_cons hi, e]
  rw [hd] at h
  induction h with
  | zero => exact ⟨Int.dvd_zero _, Lat.zero.of_eq fun j => by simp⟩
  | @step u g k hu hg ih =>
    obtain ⟨ih1, ih2⟩ := ih
    obtain ⟨r, hr, rfl⟩ := hg
    rcases List.mem_cons.mp hr with rfl | hr
    · refine ⟨Int.dvd_sub ih1 (Int.dvd_mul_left _ _), ih2.of_eq fun j => ?_⟩
      have e : (u i - k * vf r i) / vf r i = u i / vf r i - k := by
        rw [Int.sub_ediv_of_dvd _ (Int.dvd_mul_left _ _), Int.mul_ediv_cancel _ (by omega)]
      rw [e]
      grind
    · obtain ⟨m, hm⟩ := List.getElem?_of_mem hr
      rw [List.getElem?_drop] at hm
      have z := (tri _ r hm).2.1 i (by omega)
      dsimp only
      rw [z]
      refine ⟨by simpa using ih1, (ih2.comb (Lat.gen ⟨r, hr, rfl⟩) k).of_eq fun j => ?_⟩
      have e : u i - k * 0 = u i := by simp
      rw [e]
      grind
/-- a vector of the lattice that begins at i -/
theorem tri_from {n : Nat} {B : List (List Int)} (tri : Tri n B) {v : Vec} (h : Lat (rowsG B) v) : ∀ i, i ≤ B.length → (∀ j, j < i → v j = 0) → Lat (rowsG (B.drop i)) v
  | 0, _, _ => by rwa [List.drop_zero]
  | i + 1, hi, hz => by
    have hb : B[i]? = some (B[i]'(by omega)) := List.getElem?_eq_getElem (by omega)
    obtain ⟨_, g⟩ := tri_step tri hb (tri_from tri h i (by omega) fun j hj => hz j (by omega))
    refine g.of_eq fun j => ?_
    rw [hz i (by omega)]
    simp
theorem lat_drop {B : List (List Int)} {i : Nat} {v : Vec} (h : Lat (rowsG (B.drop i)) v) : Lat (rowsG B) v := h.le fun g ⟨r, hr, e⟩ => Lat.gen ⟨r, List.mem_of_mem_drop hr, e⟩
/-- is_free, from i on -/
def freeF : Nat → List (List Int) → List Int → Bool
  | _, [], _ => true
  | i, b :: B, v => if vf v i % vf b i ≠ 0 then false else freeF (i + 1) B (axpy (vf v i / vf b i) v b)
theorem free_ok {n : Nat} {B : List (List Int)} (lB : B.length = n) (tri : Tri n B) : ∀ (k i : Nat) (v : List Int), i + k = n → v.length = n → (∀ j, j < i → vf v j = 0) → (freeF i (B.drop i) v = true ↔ Lat (rowsG (B.drop i)) (vf v))
  | 0, i, v, hk, lv, hz => by
    have : B.drop i = [] := List.drop_eq_nil_of_le (by omega)
    rw [this]
    refine ⟨fun _ => Lat.zero.of_eq fun j => ?_, fun _ => rfl⟩
    by_cases hj : j < i
    · exact (hz j hj).symm
    · exact (vf_ge (by omega)).symm
  | k + 1, i, v, hk, lv, hz => by
    have hb : B[i]? = some (B[i]'(by omega)) := List.getElem?_eq_getElem (by omega)
    have hd : B.drop i = B[i]'(by omega) :: B.drop (i + 1) := List.drop_eq_getElem_cons (by omega)
    generalize B[i]'(by omega) = b at hb hd
    obtain ⟨l1, z1, p1⟩ := tri i b hb
    have la : (axpy (vf v i / vf b i) v b).length = n := by rw [axpy_len (by omega), l1]
    have va := axpy_vf (k := vf v i / vf b i) (a := v) (b := b) (by omega)
    constructor
    · intro h
      rw [hd] at h
      unfold freeF at h
      by_cases hm : vf v i % vf b i ≠ 0
      · rw [if_pos hm] at h
        cases h
      · rw [if_neg hm] at h
        have hm2 : vf v i % vf b i = 0 := Decidable.byContradiction hm
        have ih := (free_ok lB tri k (i + 1) _ (by omega) la (fun j hj => by
          rw [va]
          by_cases e : j = i
          · subst e
            show vf v j - vf v j / vf b j * vf b j = 0
            have := Int.mul_ediv_add_emod (vf v j) (vf b j)
            grind
          · show vf v j - vf v i / vf b i * vf b j = 0
            rw [hz j (by omega), z1 j (by omega)]
            simp)).mp h
        rw [va] at ih
        rw [hd]
        refine ((ih.le fun g ⟨r, hr, e⟩ => Lat.gen ⟨r, List.mem_cons_of_mem _ hr, e⟩).comb (Lat.gen (G := rowsG (b :: B.drop (i + 1))) ⟨b, List.mem_cons_self, rfl⟩) (-(vf v i / vf b i))).of_eq fun j => ?_
        grind
    · intro h
      obtain ⟨d1, d2⟩ := tri_step tri hb h
      have hm2 : vf v i % vf b i = 0 := Int.emod_eq_zero_of_dvd d1
      rw [hd]
      unfold freeF
      rw [if_neg (by simpa using hm2)]
      refine (free_ok lB tri k (i + 1) _ (by omega) la (fun j hj => ?_)).mpr ?_
      · rw [va]
        by_cases e : j = i
        · subst e
          show vf v j - vf v j / vf b j * vf b j = 0
          have := Int.mul_ediv_add_emod (vf v j) (vf b j)
          grind
        · show vf v j - vf v i / vf b i * vf b j = 0
          rw [hz j (by omega), z1 j (by omega)]
          simp
      · rw [va]
        exact d2
theorem free_iff {n : Nat} {B : List (List Int)} (lB : B.length = n) (tri : Tri n B) {v : List Int} (lv : v.length = n) : freeF 0 B v = true ↔ Lat (rowsG B) (vf v) := by
  have := free_ok lB tri n 0 v (by omega) lv (fun j hj => absurd hj (by omega))
  rwa [List.drop_zero] at this

/-! ### two lattices, one in the other -/
def diagP : Nat → List (List Int) → Int
  | _, [] => 1
  | i, b :: B => vf b i * diagP (i + 1) B
theorem diag_pos {n : Nat} {B : List (List Int)} (tri : Tri n B) : ∀ (k i : Nat), i + k = B.length → 0 < diagP i (B.drop i)
  | 0, i, h => by
    rw [List.drop_eq_nil_of_le (by omega)]
    exact Int.zero_lt_one
  | k + 1, i, h => by
    rw [List.drop_eq_getElem_cons (by omega)]
    exact Int.mul_pos (tri i _ (List.getElem?_eq_getElem (by omega))).2.2 (diag_pos tri k (i + 1) (by omega))
theorem diag_each {n : Nat} {B C : List (List Int)} (lB : B.length = n) (lC : C.length = n) (tB : Tri n B) (tC : Tri n C) (h : ∀ v, Lat (rowsG B) v → Lat (rowsG C) v) {i : Nat} {b c : List Int} (hb : B[i]? = some b) (hc : C[i]? = some c) : vf c i ∣ vf b i := by
  obtain ⟨hi, _⟩ := List.getElem?_eq_some_iff.mp hb
  have g1 : Lat (rowsG C) (vf b) := h _ (Lat.gen ⟨b, List.mem_of_getElem? hb, rfl⟩)
  exact (tri_step tC hc (tri_from tC g1 i (by omega) (tB i b hb).2.1)).1
theorem diag_dvd {n : Nat} {B C : List (List Int)} (lB : B.length = n) (lC : C.length = n) (tB : Tri n B) (tC : Tri n C) (h : ∀ v, Lat (rowsG B) v → Lat (rowsG C) v) : ∀ (k i : Nat), i + k = n → diagP i (C.drop i) ∣ diagP i (B.drop i)
  | 0, i, hk => by
    rw [List.drop_eq_nil_of_le (by omega), List.drop_eq_nil_of_le (by omega)]
    exact Int.dvd_refl _
  | k + 1, i, hk => by
    rw [List.drop_eq_getElem_cons (l := B) (by omega), List.drop_eq_getElem_cons (l := C) (by omega)]
    exact Int.mul_dvd_mul (diag_each lB lC tB tC h (List.getElem?_eq_getElem (by omega)) (List.getElem?_eq_getElem (by omega))) (diag_dvd lB lC tB tC h k (i + 1) (by omega))
theorem eq_of_prods {a b c d : Int} (h1 : 0 < a) (h2 : 0 < b) (h3 : 0 < c) (h4 : 0 < d) (x : c ∣ a) (y : d ∣ b) (e : a * b = c * d) : a = c ∧ b = d := by
  have x1 := Int.le_of_dvd h1 x
  have y1 := Int.le_of_dvd h2 y
  have e1 : c * d ≤ a * d := Int.mul_le_mul_of_nonneg_right x1 (by omega)
  have e2 : a * d ≤ a * b := Int.mul_le_mul_of_nonneg_left y1 (by omega)
  have e3 : a * d = a * b := by omega
  have e4 : c * d = a * d := by omega
  exact ⟨(Int.eq_of_mul_eq_mul_right (by omega) e4).symm, (Int.eq_of_mul_eq_mul_left (by omega) e3).symm⟩
theorem diag_same {n : Nat} {B C : List (List Int)} (lB : B.length = n) (lC : C.length = n) (tB : Tri n B) (tC : Tri n C) (h : ∀ v, Lat (rowsG B) v → Lat (rowsG C) v) : ∀ (k i : Nat), i + k = n → diagP i (B.drop i) = diagP i (C.drop i) → ∀ (m : Nat) (b c : List Int), i ≤ m → B[m]? = some b → C[m]? = some c → vf b m = vf c m
  | 0, i, hk, _ => fun m b c hm hb _ => by
    obtain ⟨hi, _⟩ := List.getElem?_eq_some_iff.mp hb
    omega
  | k + 1, i, hk, e => fun m b c hm hb hc => by
    have dB := diag_pos tB k (i + 1) (by omega)
    have dC := diag_pos tC k (i + 1) (by omega)
    rw [List.drop_eq_getElem_cons (l := B) (by omega), List.drop_eq_getElem_cons (l := C) (by omega)] at e
    have hb0 : B[i]? = some (B[i]'(by omega)) := List.getElem?_eq_getElem (by omega)
    have hc0 : C[i]? = some (C[i]'(by omega)) := List.getElem?_eq_getElem (by omega)
    obtain ⟨e1, e2⟩ := eq_of_prods (tB i _ hb0).2.2 dB (tC i _ hc0).2.2 dC (diag_each lB lC tB tC h hb0 hc0) (diag_dvd lB lC tB tC h k (i + 1) (by omega)) e
    by_cases z : m = i
    · subst z
      rw [hb] at hb0
      rw [hc] at hc0
      rw [Option.some.inj hb0, Option.some.inj hc0]
      exact e1
    · exact diag_same lB lC tB tC h k (i + 1) (by omega) e2 m b c (by omega) hb hc
/-- the same product: the same lattice -/
theorem lat_back {n : Nat} {B C : List (List Int)} (lB : B.length = n) (lC : C.length = n) (tB : Tri n B) (tC : Tri n C) (h : ∀ v, Lat (rowsG B) v → Lat (rowsG C) v) (e : diagP 0 B = diagP 0 C) : ∀ (k i : Nat) (v : Vec), i + k = n → (∀ j, j < i → v j = 0) → Lat (rowsG C) v → Lat (rowsG B) v
  | 0, i, v, hk, hz, hv => by
    have := tri_from tC hv i (by omega) hz
    rw [List.drop_eq_nil_of_le (by omega)] at this
    exact this.le fun g ⟨r, hr, _⟩ => nomatch hr
  | k + 1, i, v, hk, hz, hv => by
    have hb : B[i]? = some (B[i]'(by omega)) := List.getElem?_eq_getElem (by omega)
    have hc : C[i]? = some (C[i]'(by omega)) := List.getElem?_eq_getElem (by omega)
    generalize B[i]'(by omega) = b at hb
    generalize C[i]'(by omega) = c at hc
    have hd := (tri_step tC hc (tri_from tC hv i (by omega) hz)).1
    have eq : vf b i = vf c i := diag_same lB lC tB tC h n 0 (by omega) (by rw [List.drop_zero, List.drop_zero]; exact e) i b c (by omega) hb hc
    rw [← eq] at hd
    have gb : Lat (rowsG B) (vf b) := Lat.gen ⟨b, List.mem_of_getElem? hb, rfl⟩
    have ih := lat_back lB lC tB tC h e k (i + 1) (fun j => v j - v i / vf b i * vf b j) (by omega) (fun j hj => by
      by_cases z : j = i
      · subst z
        show v j - v j / vf b j * vf b j = 0
        rw [Int.ediv_mul_cancel hd]
        omega
      · show v j - v i / vf b i * vf b j = 0
        rw [hz j (by omega), (tB i b hb).2.1 j (by omega)]
        simp) (hv.comb (h _ gb) _)
    exact (ih.comb gb (-(v i / vf b i))).of_eq fun j => by grind
/-! ### coordinates -/
def comboV : List Int → List (List Int) → Vec
  | k :: ks, b :: B => fun j => k * vf b j + comboV ks B j
  | _, _ => fun _ => 0
theorem combo_lat : ∀ (ks : List Int) (B : List (List Int)), Lat (rowsG B) (comboV ks B)
  | [], _ => Lat.zero.of_eq fun _ => by cases ‹List (List Int)› <;> rfl
  | _ :: _, [] => Lat.zero
  | k :: ks, b :: B => (((combo_lat ks B).le fun g ⟨r, hr, e⟩ => Lat.gen ⟨r, List.mem_cons_of_mem _ hr, e⟩).comb (Lat.gen (G := rowsG (b :: B)) ⟨b, List.mem_cons_self, rfl⟩) (-k)).of_eq fun j => by
    show comboV ks B j - -k * vf b j = k * vf b j + comboV ks B j
    grind
def coordF : Nat → List (List Int) → List Int → List Int
  | _, [], _ => []
  | i, b :: B, v => vf v i / vf b i :: coordF (i + 1) B (axpy (vf v i / vf b i) v b)
theorem coord_len : ∀ (i : Nat) (B : List (List Int)) (v : List Int), (coordF i B v).length = B.length
  | _, [], _ => rfl
  | i, b :: B, v => by
    show (coordF (i + 1) B _).length + 1 = B.length + 1
    rw [coord_len]
theorem coord_ok {n : Nat} {B : List (List Int)} (lB : B.length = n) (tri : Tri n B) : ∀ (k i : Nat) (v : List Int), i + k = n → v.length = n → Lat (rowsG (B.drop i)) (vf v) → ∀ j, vf v j = comboV (coordF i (B.drop i) v) (B.drop i) j
  | 0, i, v, hk, lv, h => fun j => by
    rw [List.drop_eq_nil_of_le (by omega)] at h ⊢
    have : ∀ {u : Vec}, Lat (rowsG []) u → u j = 0 := fun hu => by
      induction hu with
      | zero => rfl
      | step k _ hg _ => exact (nomatch hg.choose_spec.1)
    exact this h
  | k + 1, i, v, hk, lv, h => fun j => by
    have hb : B[i]? = some (B[i]'(by omega)) := List.getElem?_eq_getElem (by omega)
    have hd : B.drop i = B[i]'(by omega) :: B.drop (i + 1) := List.drop_eq_getElem_cons (by omega)
    generalize B[i]'(by omega) = b at hb hd
    obtain ⟨l1, z1, p1⟩ := tri i b hb
    have va := axpy_vf (k := vf v i / vf b i) (a := v) (b := b) (by omega)
    have ih := coord_ok lB tri k (i + 1) (axpy (vf v i / vf b i) v b) (by omega) (by rw [axpy_len (by omega), l1]) (by rw [va]; exact (tri_step tri hb h).2) j
    rw [hd]
    show vf v j = vf v i / vf b i * vf b j + comboV (coordF (i + 1) (B.drop (i + 1)) (axpy (vf v i / vf b i) v b)) (B.drop (i + 1)) j
    rw [← ih, va]
    grind
/-- coordinates are unique -/
theorem combo_inj {n : Nat} {B : List (List Int)} (tri : Tri n B) : ∀ (m i : Nat) (ks ls : List Int), i + m = B.length → ks.length = m → ls.length = m → (∀ j, comboV ks (B.drop i) j = comboV ls (B.drop i) j) → ks = ls
  | 0, _, ks, ls, _, h1, h2, _ => by rw [List.length_eq_zero_iff.mp h1, List.length_eq_zero_iff.mp h2]
  | m + 1, i, k :: ks, l :: ls, hm, h1, h2, h => by
    have hb : B[i]? = some (B[i]'(by omega)) := List.getElem?_eq_getElem (by omega)
    have hd : B.drop i = B[i]'(by omega) :: B.drop (i + 1) := List.drop_eq_getElem_cons (by omega)
    generalize B[i]'(by omega) = b at hb hd
    obtain ⟨l1, z1, p1⟩ := tri i b hb
    rw [hd] at h
    have z : ∀ ks : List Int, comboV ks (B.drop (i + 1)) i = 0 := fun ks => by
      have : ∀ {u : Vec}, Lat (rowsG (B.drop (i + 1))) u → u i = 0 := fun hu => by
        induction hu with
        | zero => rfl
        | step k _ hg ih =>
          obtain ⟨r, hr, rfl⟩ := hg
          obtain ⟨q, hq⟩ := List.getElem?_of_mem hr
          rw [List.getElem?_drop] at hq
          show _ - k * vf r i = 0
          rw [ih, (tri _ r hq).2.1 i (by omega)]
          simp
      exact this (combo_lat ks _)
    have e := h i
    have e2 : k * vf b i + comboV ks (B.drop (i + 1)) i = l * vf b i + comboV ls (B.drop (i + 1)) i := e
    rw [z, z] at e2
    have kl : k = l := Int.eq_of_mul_eq_mul_right (a := vf b i) (by omega) (by omega)
    subst kl
    rw [combo_inj tri m (i + 1) ks ls (by omega) (Nat.succ.inj h1) (Nat.succ.inj h2) fun j => by
      have e3 : k * vf b j + comboV ks (B.drop (i + 1)) j = k * vf b j + comboV ls (B.drop (i + 1)) j := h j
      omega]
/-- multiples of units are in the lattice -/
theorem unit_in {n : Nat} {B : List (List Int)} (lB : B.length = n) (tri : Tri n B) : ∀ (k i : Nat), i + k = n → ∀ j, i ≤ j → j < n → Lat (rowsG (B.drop i)) (unitV j (diagP i (B.drop i)))
  | 0, i, hk => fun j h1 h2 => by omega
  | k + 1, i, hk => fun j h1 h2 => by
    have hb : B[i]? = some (B[i]'(by omega)) := List.getElem?_eq_getElem (by omega)
    have hd : B.drop i = B[i]'(by omega) :: B.drop (i + 1) := List.drop_eq_getElem_cons (by omega)
    generalize B[i]'(by omega) = b at hb hd
    obtain ⟨l1, z1, p1⟩ := tri i b hb
    have up : ∀ {u : Vec}, Lat (rowsG (B.drop (i + 1))) u → Lat (rowsG (b :: B.drop (i + 1))) u := fun hu => hu.le fun g ⟨r, hr, e⟩ => Lat.gen ⟨r, List.mem_cons_of_mem _ hr, e⟩
    have ih := unit_in lB tri k (i + 1) (by omega)
    rw [hd]
    show Lat (rowsG (b :: B.drop (i + 1))) (unitV j (vf b i * diagP (i + 1) (B.drop (i + 1))))
    by_cases e : j = i
    · subst e
      have hs : Lat (rowsG (b :: B.drop (j + 1))) (fun m => if j < m ∧ m < n then vf b m * diagP (j + 1) (B.drop (j + 1)) else 0) := by
        refine (up (Lat.le (G := fun g => ∃ m, j < m ∧ m < n ∧ g = unitV m (diagP (j + 1) (B.drop (j + 1)))) (fun g ⟨m, a, c, e⟩ => by rw [e]; exact ih m (by omega) c) (units_lat (c := j) (n := n) (o := fun _ => diagP (j + 1) (B.drop (j + 1))) (k := fun m => vf b m) (fun m a c => ⟨m, a, c, rfl⟩) n (Nat.le_refl _))))
      refine (((Lat.gen (G := rowsG (b :: B.drop (j + 1))) ⟨b, List.mem_cons_self, rfl⟩).mul (diagP (j + 1) (B.drop (j + 1)))).comb hs 1).of_eq fun m => ?_
      unfold unitV
      by_cases h3 : m = j
      · subst h3
        rw [if_pos rfl, if_neg (by omega)]
        grind
      · rw [if_neg h3]
        by_cases h4 : j < m ∧ m < n
        · rw [if_pos h4]
          grind
        · rw [if_neg h4]
          have : vf b m = 0 := by
            by_cases h5 : m < j
            · exact z1 m h5
            · exact vf_ge (by omega)
          rw [this]
          simp
    · refine ((up (ih j (by omega) h2)).mul (vf b i)).of_eq fun m => ?_
      unfold unitV
      split
      · rfl
      · simp

/-! ### sums, and what separates -/
def sumN : Nat → (Nat → Int) → Int
  | 0, _ => 0
  | n + 1, f => sumN n f + f n
theorem sumN_congr {f g : Nat → Int} : ∀ {n : Nat}, (∀ i, i < n → f i = g i) → sumN n f = sumN n g
  | 0, _ => rfl
  | n + 1, h => by
    show sumN n f + f n = sumN n g + g n
    rw [sumN_congr fun i hi => h i (by omega), h n (by omega)]
theorem sumN_add (f g : Nat → Int) : ∀ n, sumN n (fun i => f i + g i) = sumN n f + sumN n g
  | 0 => rfl
  | n + 1 => by
    show sumN n (fun i => f i + g i) + (f n + g n) = (sumN n f + f n) + (sumN n g + g n)
    rw [sumN_add f g n]
    omega
theorem sumN_mul (k : Int) (f : Nat → Int) : ∀ n, sumN n (fun i => k * f i) = k * sumN n f
  | 0 => by simp [sumN]
  | n + 1 => by
    show sumN n _ + _ = k * (sumN n f + f n)
    rw [sumN_mul k f n, Int.mul_add]
theorem sumN_zero : ∀ n, sumN n (fun _ => 0) = 0
  | 0 => rfl
  | n + 1 => by
    show sumN n _ + 0 = 0
    rw [sumN_zero n]
    rfl
theorem sumN_swap (f : Nat → Nat → Int) (m : Nat) : ∀ n, sumN n (fun i => sumN m fun k => f i k) = sumN m fun k => sumN n fun i => f i k
  | 0 => (sumN_zero m).symm
  | n + 1 => by
    show sumN n _ + sumN m _ = sumN m fun k => sumN n (fun i => f i k) + f n k
    rw [sumN_swap f m n, sumN_add]
theorem sumN_head (f : Nat → Int) : ∀ n, sumN (n + 1) f = f 0 + sumN n fun i => f (i + 1)
  | 0 => by simp [sumN]
  | n + 1 => by
    show sumN (n + 1) f + f (n + 1) = f 0 + (sumN n (fun i => f (i + 1)) + f (n + 1))
    rw [sumN_head f n]
    omega
theorem sumN_unit {n j : Nat} (f : Nat → Int) (h : j < n) : sumN n (fun k => f k * unitV k 1 j) = f j := by
  have key : ∀ m, sumN m (fun k => f k * unitV k 1 j) = if j < m then f j else 0 := by
    intro m
    induction m with
    | zero => rfl
    | succ m ih =>
      show sumN m _ + f m * unitV m 1 j = _
      rw [ih]
      unfold unitV
      by_cases e : j = m
      · subst e
        rw [if_neg (Nat.lt_irrefl _), if_pos rfl, if_pos (Nat.lt_succ_self _)]
        simp
      · rw [if_neg e]
        by_cases h2 : j < m
        · rw [if_pos h2, if_pos (by omega)]
          simp
        · rw [if_neg h2, if_neg (by omega)]
          simp
  rw [key n, if_pos h]
theorem dvd_sumN {d : Int} {f : Nat → Int} : ∀ {n : Nat}, (∀ i, i < n → d ∣ f i) → d ∣ sumN n f
  | 0, _ => Int.dvd_zero _
  | n + 1, h => Int.dvd_add (dvd_sumN fun i hi => h i (by omega)) (h n (by omega))
theorem combo_sum : ∀ (ks : List Int) (B : List (List Int)) (j : Nat), ks.length = B.length → comboV ks B j = sumN B.length fun i => vf ks i * vf (B.getD i []) j
  | [], [], _, _ => rfl
  | k :: ks, b :: B, j, h => by
    show k * vf b j + comboV ks B j = sumN (B.length + 1) _
    rw [sumN_head, combo_sum ks B j (Nat.succ.inj h)]
    rfl
theorem lat_sum {B : List (List Int)} (m : Nat → Int) : ∀ n, n ≤ B.length → Lat (rowsG B) (fun j => sumN n fun i => m i * vf (B.getD i []) j)
  | 0, _ => Lat.zero
  | n + 1, h => by
    have hb : B[n]? = some (B[n]'(by omega)) := List.getElem?_eq_getElem (by omega)
    have e : B.getD n [] = B[n]'(by omega) := by rw [List.getD_eq_getElem?_getD, hb]; rfl
    refine ((lat_sum m n (by omega)).comb (Lat.gen (G := rowsG B) ⟨B[n]'(by omega), List.getElem_mem _, rfl⟩) (-(m n))).of_eq fun j => ?_
    show _ = sumN n (fun i => m i * vf (B.getD i []) j) + m n * vf (B.getD n []) j
    rw [e]
    grind
/-- the coordinates of multiples of the units -/
def colsF (B : List (List Int)) (n k : Nat) : List Int := coordF 0 B (unitL n k (diagP 0 B))
/-- what is told of a vector at i -/
def tellF (B : List (List Int)) (n : Nat) (v : Vec) (i : Nat) : Int := sumN n fun k => v k * vf (colsF B n k) i
section
variable {n : Nat} {B : List (List Int)} (lB : B.length = n) (tri : Tri n B)
include lB tri
theorem cols_ok {k : Nat} (hk : k < n) (j : Nat) : unitV k (diagP 0 B) j = sumN n fun i => vf (colsF B n k) i * vf (B.getD i []) j := by
  have h1 := unit_in lB tri n 0 (by omega) k (by omega) hk
  rw [List.drop_zero] at h1
  have lu : (unitL n k (diagP 0 B)).length = n := by simp [unitL]
  have uv := unitL_vf (n := n) (x := diagP 0 B) hk
  have h2 := coord_ok lB tri n 0 (unitL n k (diagP 0 B)) (by omega) lu (by rw [List.drop_zero, uv]; exact h1) j
  rw [List.drop_zero, uv] at h2
  rw [h2, combo_sum _ _ _ (coord_len _ _ _), lB]
  rfl
theorem tell_combo {v : Vec} (hv : ∀ j, n ≤ j → v j = 0) (j : Nat) : diagP 0 B * v j = sumN n fun i => tellF B n v i * vf (B.getD i []) j := by
  have e1 : (sumN n fun i => tellF B n v i * vf (B.getD i []) j) = sumN n fun i => sumN n fun k => v k * (vf (colsF B n k) i * vf (B.getD i []) j) := sumN_congr fun i _ => by
    unfold tellF
    rw [Int.mul_comm, ← sumN_mul]
    exact sumN_congr fun k _ => by grind
  rw [e1, sumN_swap]
  have e2 : (sumN n fun k => sumN n fun i => v k * (vf (colsF B n k) i * vf (B.getD i []) j)) = sumN n fun k => (v k * diagP 0 B) * unitV k 1 j := sumN_congr fun k hk => by
    rw [sumN_mul, ← cols_ok lB tri hk j]
    unfold unitV
    split <;> simp
  rw [e2]
  by_cases hj : j < n
  · rw [sumN_unit (fun k => v k * diagP 0 B) hj, Int.mul_comm]
  · rw [hv j (by omega)]
    have : (sumN n fun k => (v k * diagP 0 B) * unitV k 1 j) = sumN n fun _ => 0 := sumN_congr fun k hk => by
      unfold unitV
      rw [if_neg (by omega)]
      simp
    rw [this, sumN_zero]
    simp
/-- all told 0: in the lattice -/
theorem tell_in {v : Vec} (hv : ∀ j, n ≤ j → v j = 0) (h : ∀ i, i < n → diagP 0 B ∣ tellF B n v i) : Lat (rowsG B) v := by
  have D0 : 0 < diagP 0 B := by
    have := diag_pos tri n 0 (by omega)
    rwa [List.drop_zero] at this
  refine (lat_sum (B := B) (fun i => tellF B n v i / diagP 0 B) n (by omega)).of_eq fun j => ?_
  refine Int.eq_of_mul_eq_mul_left (a := diagP 0 B) (by omega) ?_
  rw [tell_combo lB tri hv j, ← sumN_mul]
  refine sumN_congr fun i hi => ?_
  rw [← Int.mul_assoc, Int.mul_ediv_cancel' (h i hi)]
theorem tell_of {v : List Int} (lv : v.length = n) (h : Lat (rowsG B) (vf v)) {i : Nat} (hi : i < n) : diagP 0 B ∣ tellF B n (vf v) i := by
  have h2 := fun j => coord_ok lB tri n 0 v (by omega) lv (by rw [List.drop_zero]; exact h) j
  rw [List.drop_zero] at h2
  have lc : (coordF 0 B v).length = n := by rw [coord_len, lB]
  have key := combo_inj tri n 0 ((List.range n).map fun i => tellF B n (vf v) i) ((coordF 0 B v).map fun x => diagP 0 B * x) (by omega) (by simp) (by simp [lc]) (fun j => by
    rw [List.drop_zero, combo_sum _ _ _ (by simp [lB]), combo_sum _ _ _ (by rw [List.length_map, lc, lB]), lB]
    have e1 : (sumN n fun i => vf ((List.range n).map fun i => tellF B n (vf v) i) i * vf (B.getD i []) j) = diagP 0 B * vf v j := by
      rw [tell_combo lB tri (v := vf v) (fun j hj => vf_ge (by omega)) j]
      refine sumN_congr fun i hi => ?_
      rw [vf_at (v := (List.range n).map fun i => tellF B n (vf v) i) (x := tellF B n (vf v) i) (by rw [List.getElem?_map, List.getElem?_range hi]; rfl)]
    rw [e1, h2 j, combo_sum _ _ _ (by rw [lc, lB]), lB, ← sumN_mul]
    refine sumN_congr fun i hi => ?_
    have e3 : (coordF 0 B v)[i]? = some ((coordF 0 B v)[i]'(by omega)) := List.getElem?_eq_getElem (by omega)
    rw [vf_at e3, vf_at (v := (coordF 0 B v).map fun x => diagP 0 B * x) (by rw [List.getElem?_map, e3]; rfl), Int.mul_assoc])
  have e4 : ((List.range n).map fun i => tellF B n (vf v) i)[i]? = some (tellF B n (vf v) i) := by rw [List.getElem?_map, List.getElem?_range hi]; rfl
  rw [key, List.getElem?_map] at e4
  cases e5 : (coordF 0 B v)[i]? with
  | none => rw [e5] at e4; cases e4
  | some x =>
    rw [e5] at e4
    rw [← Option.some.inj e4]
    exact Int.dvd_mul_right _ _
end

/-! ### how large the rows are -/
theorem fdiv_step {x y : Int} (h : y ≠ 0) : (0 ≤ x * y → (x.fdiv y).natAbs * y.natAbs + (x - x.fdiv y * y).natAbs = x.natAbs) ∧ (x.fdiv y).natAbs * y.natAbs + (x - x.fdiv y * y).natAbs ≤ x.natAbs + 2 * y.natAbs ∧ 0 ≤ y * (x - x.fdiv y * y) := by
  have sm := fmod_small (x := x) h
  have e := Int.fmod_def x y
  have e2 : x - x.fdiv y * y = x.fmod y := by rw [e, Int.mul_comm]
  have em : (x.fdiv y).natAbs * y.natAbs = (x.fdiv y * y).natAbs := (Int.natAbs_mul _ _).symm
  have sg : (0 < y → 0 ≤ x.fmod y) ∧ (y < 0 → x.fmod y ≤ 0) := by
    refine ⟨fun p => ?_, fun p => ?_⟩
    · exact Int.fmod_nonneg_of_pos x p
    · rw [Int.fmod_eq_emod]
      have a := Int.emod_nonneg x h
      have b := Int.emod_lt x h
      split
      · rename_i hn
        rcases hn with z | z
        · omega
        · have := Int.emod_eq_zero_of_dvd z
          omega
      · omega
  rw [em]
  rw [e2] at sm ⊢
  have e3 : x.fdiv y * y = x - x.fmod y := by omega
  rw [e3]
  generalize x.fmod y = r at *
  refine ⟨fun hp => ?_, by omega, ?_⟩
  · rcases Int.lt_or_gt_of_ne h with hy | hy
    · have hx : x ≤ 0 := by
        rcases Int.lt_or_le 0 x with z | z
        · have := Int.mul_neg_of_pos_of_neg z hy
          omega
        · exact z
      have := sg.2 hy
      -- the quotient is not negative
      rcases Int.lt_or_le x r with z | z
      · omega
      · have : x = r ∨ r < x := by omega
        rcases this with z | z
        · omega
        · -- x - r is a positive multiple of y < 0, smaller than |y|
          exfalso
          have d : y ∣ x - r := ⟨x.fdiv y, by rw [Int.mul_comm]; omega⟩
          have := Int.le_of_dvd (by omega) (Int.neg_dvd.mpr d)
          omega
    · have hx : 0 ≤ x := by
        rcases Int.lt_or_le x 0 with z | z
        · have := Int.mul_neg_of_neg_of_pos z hy
          omega
        · exact z
      have := sg.1 hy
      rcases Int.lt_or_le x r with z | z
      · exfalso
        have d : y ∣ r - x := ⟨-(x.fdiv y), by rw [Int.mul_neg, Int.mul_comm]; omega⟩
        have := Int.le_of_dvd (by omega) d
        omega
      · omega
  · rcases Int.lt_or_gt_of_ne h with hy | hy
    · exact Int.mul_nonneg_of_nonpos_of_nonpos (by omega) (sg.2 hy)
    · exact Int.mul_nonneg (by omega) (sg.1 hy)
/-- the rows of Euclid stay small: all entries below M at first -/
structure EuB (M c : Nat) (f s : List Int) : Prop where
  x : (vf f c).natAbs < M
  y : (vf s c).natAbs < M
  fb : ∀ j, (vf f j).natAbs ≤ 4 * M * M
  sb : ∀ j, (vf s j).natAbs ≤ 4 * M * M
  go : (∀ j, (vf f j).natAbs < M ∧ (vf s j).natAbs < M) ∨ (0 ≤ vf f c * vf s c ∧ ∀ j, (vf s c).natAbs * (vf f j).natAbs + (vf f c).natAbs * (vf s j).natAbs ≤ 4 * M * M)
theorem EuB.start {M c : Nat} {f s : List Int} (h1 : ∀ j, (vf f j).natAbs < M) (h2 : ∀ j, (vf s j).natAbs < M) : EuB M c f s := by
  have q : ∀ a : Nat, a < M → a ≤ 4 * M * M := fun a h => by
    have : M ≤ 4 * M * M := by
      have : 1 * M ≤ 4 * M * M := Nat.mul_le_mul_right M (by omega)
      omega
    omega
  exact ⟨h1 c, h2 c, fun j => q _ (h1 j), fun j => q _ (h2 j), .inl fun j => ⟨h1 j, h2 j⟩⟩
theorem EuB.next {M c : Nat} {f s : List Int} (l : f.length = s.length) (nz : vf s c ≠ 0) (h : EuB M c f s) : EuB M c s (axpy ((vf f c).fdiv (vf s c)) f s) := by
  obtain ⟨a1, a2, a3⟩ := fdiv_step (x := vf f c) nz
  have sm := fmod_small (x := vf f c) nz
  have va := axpy_vf (k := (vf f c).fdiv (vf s c)) l
  have hx := h.x
  have hy := h.y
  have key : ∀ j, (vf f c - (vf f c).fdiv (vf s c) * vf s c).natAbs * (vf s j).natAbs + (vf s c).natAbs * (vf f j - (vf f c).fdiv (vf s c) * vf s j).natAbs ≤ 4 * M * M := fun j => by
    have t1 : (vf f j - (vf f c).fdiv (vf s c) * vf s j).natAbs ≤ (vf f j).natAbs + ((vf f c).fdiv (vf s c)).natAbs * (vf s j).natAbs := by
      rw [← Int.natAbs_mul]
      omega
    have t2 := Nat.mul_le_mul_left (vf s c).natAbs t1
    rw [Nat.mul_add] at t2
    have t3 : (vf s c).natAbs * (((vf f c).fdiv (vf s c)).natAbs * (vf s j).natAbs) = ((vf f c).fdiv (vf s c)).natAbs * (vf s c).natAbs * (vf s j).natAbs := by
      rw [← Nat.mul_assoc, Nat.mul_comm (vf s c).natAbs]
    rw [t3] at t2
    have t4 : (vf f c - (vf f c).fdiv (vf s c) * vf s c).natAbs * (vf s j).natAbs + ((vf f c).fdiv (vf s c)).natAbs * (vf s c).natAbs * (vf s j).natAbs = (((vf f c).fdiv (vf s c)).natAbs * (vf s c).natAbs + (vf f c - (vf f c).fdiv (vf s c) * vf s c).natAbs) * (vf s j).natAbs := by
      rw [Nat.add_mul]
      omega
    rcases h.go with g | ⟨g1, g2⟩
    · obtain ⟨g3, g4⟩ := g j
      have t5 : (((vf f c).fdiv (vf s c)).natAbs * (vf s c).natAbs + (vf f c - (vf f c).fdiv (vf s c) * vf s c).natAbs) * (vf s j).natAbs ≤ (3 * M) * M := Nat.mul_le_mul (by omega) (by omega)
      have t6 : (vf s c).natAbs * (vf f j).natAbs ≤ M * M := Nat.mul_le_mul (by omega) (by omega)
      have t7 : 4 * M * M = 3 * M * M + M * M := by
        rw [Nat.mul_assoc, Nat.mul_assoc]
        omega
      omega
    · rw [a1 g1] at t4
      have := g2 j
      omega
  refine ⟨hy, by rw [va]; show (vf f c - (vf f c).fdiv (vf s c) * vf s c).natAbs < M; omega, h.sb, fun j => ?_, .inr ⟨by rw [va]; exact a3, fun j => by rw [va]; exact key j⟩⟩
  rw [va]
  show (vf f j - (vf f c).fdiv (vf s c) * vf s j).natAbs ≤ 4 * M * M
  have k1 := key j
  have p1 : 1 ≤ (vf s c).natAbs := by omega
  have k2 : 1 * (vf f j - (vf f c).fdiv (vf s c) * vf s j).natAbs ≤ (vf s c).natAbs * (vf f j - (vf f c).fdiv (vf s c) * vf s j).natAbs := Nat.mul_le_mul_right _ p1
  omega
theorem comb_eu {M c n : Nat} {f s : List Int} (lf : f.length = n) (ls : s.length = n) (h : EuB M c f s) : EuB M c (combF c f s).1 (combF c f s).2 :=
  (comb_ind (c := c) (n := n) (P := EuB M c) (fun a b la lb nz ih => ih.next (by omega) nz) _ f s (Nat.le_refl _) lf ls h).1
/-- reduced rows are small again -/
theorem red_small {M c n : Nat} {odds row : List Int} (h1 : odds.length = n) (h2 : row.length = n) (ho : ∀ j, j < n → 0 < vf odds j ∧ (vf odds j).natAbs < M) (hz : ∀ j, j < c → vf row j = 0) (hc : (vf row c).natAbs < M) (hM : 0 < M) (j : Nat) : (vf (redF c odds row) j).natAbs < M := by
  rw [red_vf h1 h2]
  split
  · rename_i h
    obtain ⟨o1, o2⟩ := ho j h.2
    have a := Int.emod_nonneg (vf row j) (show vf odds j ≠ 0 by omega)
    have b := Int.emod_lt_of_pos (vf row j) o1
    omega
  · rename_i h
    by_cases e : j = c
    · rw [e]; exact hc
    · by_cases e2 : j < c
      · rw [hz j e2]
        exact hM
      · rw [vf_ge (by omega)]
        exact hM

/-- a row that begins at c, of small entries -/
structure RowB (M n c : Nat) (r : List Int) : Prop where
  len : r.length = n
  zero : ∀ j, j < c → vf r j = 0
  small : ∀ j, (vf r j).natAbs < M
structure OddB (M n : Nat) (odds : List Int) : Prop where
  len : odds.length = n
  pos : ∀ j, j < n → 0 < vf odds j
  small : ∀ j, (vf odds j).natAbs < M
  m0 : 0 < M
theorem piv_b {M n c : Nat} {odds p row : List Int} (o : OddB M n odds) (hp : RowB M n c p) (hr : RowB M n c row) : RowB M n c (redF c odds (combF c p row).1) ∧ RowB M n (c + 1) (redF c odds (combF c p row).2) := by
  obtain ⟨l1, l2, z2⟩ := comb_len (c := c) hp.len hr.len
  have eu := comb_eu (c := c) hp.len hr.len (EuB.start (M := M) (c := c) hp.small hr.small)
  have oo : ∀ j, j < n → 0 < vf odds j ∧ (vf odds j).natAbs < M := fun j hj => ⟨o.pos j hj, o.small j⟩
  have zz := fun j (hj : j < c) => comb_zero (c := c) hp.len hr.len (hp.zero j hj) (hr.zero j hj)
  refine ⟨⟨red_len o.len l1, fun j hj => ?_, red_small o.len l1 oo (fun j hj => (zz j hj).1) eu.x o.m0⟩, ⟨red_len o.len l2, fun j hj => ?_, red_small o.len l2 oo (fun j hj => (zz j hj).2) eu.y o.m0⟩⟩
  · rw [red_vf o.len l1, if_neg (by omega)]
    exact (zz j hj).1
  · rw [red_vf o.len l2, if_neg (by omega)]
    by_cases e : j = c
    · rw [e]; exact z2
    · exact (zz j (by omega)).2
theorem fold_b {M n c : Nat} {odds : List Int} (o : OddB M n odds) : ∀ (rows : List (List Int)) (p : List Int) (os : List (List Int)), (∀ r ∈ rows, RowB M n c r) → RowB M n c p → (∀ r ∈ os, RowB M n (c + 1) r) →
    RowB M n c (rows.foldl (pivF c odds) (p, os)).1 ∧ (∀ r ∈ (rows.foldl (pivF c odds) (p, os)).2, RowB M n (c + 1) r) ∧ (rows.foldl (pivF c odds) (p, os)).2.length = os.length + rows.length
  | [], p, os, _, hp, ho => ⟨hp, ho, rfl⟩
  | row :: rows, p, os, hr, hp, ho => by
    obtain ⟨a1, a2⟩ := piv_b o hp (hr row List.mem_cons_self)
    obtain ⟨b1, b2, b3⟩ := fold_b o rows (redF c odds (combF c p row).1) (os ++ [redF c odds (combF c p row).2]) (fun r h => hr r (List.mem_cons_of_mem _ h)) a1 (fun r h => by
      rcases List.mem_append.mp h with h | h
      · exact ho r h
      · rw [List.mem_singleton.mp h]; exact a2)
    refine ⟨b1, b2, ?_⟩
    show (rows.foldl (pivF c odds) (redF c odds (combF c p row).1, os ++ [redF c odds (combF c p row).2])).2.length = _
    rw [b3, List.length_append, List.length_singleton, List.length_cons]
    omega
theorem unit_b {M n c : Nat} {odds : List Int} (o : OddB M n odds) (hc : c < n) : RowB M n c (unitL odds.length c (vf odds c)) := by
  have uv : vf (unitL odds.length c (vf odds c)) = unitV c (vf odds c) := unitL_vf (by rw [o.len]; exact hc)
  refine ⟨by simp [unitL, o.len], fun j hj => ?_, fun j => ?_⟩
  · rw [uv]; unfold unitV; rw [if_neg (by omega)]
  · rw [uv]
    unfold unitV
    split
    · exact o.small c
    · exact o.m0
theorem col_b {M n c : Nat} {odds : List Int} (o : OddB M n odds) (hc : c < n) {rows : List (List Int)} (hr : ∀ r ∈ rows, RowB M n c r) : RowB M n c (colF odds c rows).1 ∧ (∀ r ∈ (colF odds c rows).2, RowB M n (c + 1) r) ∧ (colF odds c rows).2.length = rows.length := by
  have := fold_b o rows _ [] hr (unit_b o hc) (by simp)
  simpa [colF] using this
theorem neg_b {M n c : Nat} {p : List Int} (h : RowB M n c p) : RowB M n c (posF c p) := by
  refine ⟨by rw [pos_len, h.len], fun j hj => pos_zero (h.zero j hj), fun j => ?_⟩
  unfold posF
  split
  · exact h.small j
  · rw [neg_vf]
    show (- vf p j).natAbs < M
    rw [Int.natAbs_neg]
    exact h.small j
theorem next_b {M n : Nat} {odds : List Int} (o : OddB M n odds) {rows : List (List Int)} (hr : ∀ r ∈ rows, RowB M n 0 r) : ∀ c, c ≤ n →
    ((List.range c).foldl (nextF odds) ([], rows)).1.length = c ∧ (∀ r ∈ ((List.range c).foldl (nextF odds) ([], rows)).1, RowB M n 0 r) ∧ (∀ r ∈ ((List.range c).foldl (nextF odds) ([], rows)).2, RowB M n c r) ∧ ((List.range c).foldl (nextF odds) ([], rows)).2.length = rows.length
  | 0, _ => ⟨rfl, by simp, hr, rfl⟩
  | c + 1, h => by
    obtain ⟨a1, a2, a3, a4⟩ := next_b o hr c (by omega)
    rw [List.range_succ, List.foldl_append]
    generalize (List.range c).foldl (nextF odds) ([], rows) = st at a1 a2 a3 a4
    obtain ⟨b1, b2, b3⟩ := col_b o (by omega) a3
    refine ⟨by show (st.1 ++ [_]).length = _; rw [List.length_append, a1]; rfl, fun r hr => ?_, b2, b3.trans a4⟩
    rcases List.mem_append.mp (show r ∈ st.1 ++ [posF c (colF odds c st.2).1] from hr) with h | h
    · exact a2 r h
    · rw [List.mem_singleton.mp h]
      have := neg_b b1
      exact ⟨this.len, fun j hj => absurd hj (by omega), this.small⟩
theorem basis_b {M n : Nat} {odds : List Int} (o : OddB M n odds) {rows : List (List Int)} (hr : ∀ r ∈ rows, RowB M n 0 r) : ∀ r ∈ basisF odds rows, RowB M n 0 r := by
  unfold basisF
  rw [o.len]
  exact (next_b o hr n (Nat.le_refl _)).2.1
theorem nz_of {M n : Nat} {odds : List Int} (o : OddB M n odds) : ∀ i, i < n → vf odds i ≠ 0 := fun i hi => by
  have := o.pos i hi
  omega

/-- the bound of sizes here -/
abbrev MB : Nat := 2 ^ 270
theorem mb_pos : 0 < MB := Nat.pos_of_neZero _
/-- a list of ints stands at a -/
abbrev IL (H : Hp) (a : Addr) (xs : List Int) : Prop := H a = some (.lst (xs.map V.int))
theorem atI_vf {xs : List Int} {c : Nat} (h : c < xs.length) : atI (xs.map V.int) (c : Int) = some (.int (vf xs c)) := by
  unfold atI ixN
  rw [if_pos (by omega), if_pos (by rw [List.length_map]; omega)]
  show (xs.map V.int)[(c : Int).toNat]? = _
  rw [Int.toNat_natCast, List.getElem?_map, List.getElem?_eq_getElem h, vf_at (List.getElem?_eq_getElem h)]
  rfl
theorem lt_pow {a b c : Nat} (h : a < 2 ^ b) (hbc : b ≤ c) : a < 2 ^ c := Nat.lt_of_lt_of_le h (Nat.pow_le_pow_right (by decide) hbc)
theorem four_mb : 4 * MB * MB < 2 ^ 543 := by decide +kernel
section
variable {P : Program} {w : World} {K : PySem.W.Frag} {mg : Str → Option Value} {base : Heap}
def sp_combined : Sp := fun vs H Q _ => ∃ (a b : Addr) (c n : Nat) (f s : List Int), vs = [.ref a, .ref b, .int (c : Int)] ∧ IL H a f ∧ IL H b s ∧ f.length = n ∧ s.length = n ∧ n ≤ 4 ∧ c < n ∧ EuB MB c f s ∧
  ∀ t a2 b2 H2, Ex H H2 → H2 t = some (.tup [.ref a2, .ref b2]) → IL H2 a2 (combF c f s).1 → IL H2 b2 (combF c f s).2 → Q (.ref t) H2
theorem ok_combined (T : TX K mg) : FnOk P w K mg base CX0 1 T.f_combined T.fd_combined ["first", "second", "column"] sp_combined := by
  refine T.F_combined.ok sc_combined (fun vs H Q E h => ?_) (fun cdv A outer s H vs Q E hr h => ?_)
  · obtain ⟨a, b, c, n, f, s, rfl, _⟩ := h
    rfl
  · obtain ⟨a, b, c, n, f, s, rfl, ha, hb, lf, ls, n4, cn, eu, k⟩ := h
    refine ⟨_, (pss_cons (ps_while PassesOwn.never (pt_cmpR op_ne (pe_ix ix_list (pv 1) (pv 2) (fun _ _ => rfl)) pe_int (nomark _)) (pss_cons (ps_set (i := 3) sc_combined.nd rfl (Or.inr rfl) (pe_op op_fdivNW (pe_ix ix_list (pv 0) (pv 2) (fun _ _ => rfl)) (pe_ix ix_list (pv 1) (pv 2) (fun _ _ => rfl)))) (pss_one (ps_par (i := 0) (j := 1) rfl sc_combined.nd rfl rfl (by decide) rfl rfl (pa_cons (pv 1) (pa_cons (pe_lc (own := [("one", 4), ("other", 5)]) (g := (gTup K 2 (gCons (gName 4) (gCons (gName 5) gNil)))) rfl sc_combined.nd (CZ.pi_z2s (fl := [false, false]) rfl (by rfl) T.z_zip (pa_cons (pv 0) (pa_cons (pv 1) pa_nil))) (blkOk_by (N := N_combined) (sc := defScope s_combined) (by decide +kernel)) (fun _ _ _ _ _ => (pg_tup rfl (pgs_cons (pg_name (i := 4) sc_combined.nd rfl (Or.inl rfl)) (pgs_cons (pg_name (i := 5) sc_combined.nd rfl (Or.inl rfl)) pgs_nil)))) (fun _ _ _ _ _ => pts_nil) (fun _ _ _ _ _ => (pe_op op_sub (pv 4) (pe_op op_mulI (pv 3) (pv 5))))) pa_nil)) (by rfl))))) (pss_one (ps_ret (pe_tup (pa_cons (pv 0) (pa_cons (pv 1) pa_nil)))))), ?_⟩
    refine ⟨fun m σ H1 => ∃ (a1 b1 : Addr) (f1 s1 : List Int) (y3 y4 y5 : Option V), σ = [some (.ref a1), some (.ref b1), some (.int (c : Int)), y3, y4, y5] ∧ Ex H H1 ∧ IL H1 a1 f1 ∧ IL H1 b1 s1 ∧ f1.length = n ∧ s1.length = n ∧ EuB MB c f1 s1 ∧ combF c f1 s1 = combF c f s ∧ m = (vf s1 c).natAbs, ⟨_, a, b, f, s, _, _, _, rfl, exr, ha, hb, lf, ls, eu, rfl, rfl⟩, ?_⟩
    rintro m σ H1 ⟨a1, b1, f1, s1, y3, y4, y5, rfl, e1, ha1, hb1, lf1, ls1, eu1, ec, rfl⟩
    refine ⟨_, rfl, _, rfl, b1, _, _, _, rfl, rfl, SqL.of hb1, atI_vf (by omega), rfl, _, rfl, ?_⟩
    rw [combF_eq] at ec
    refine ite2 (fun hc => ?_) (fun hc => ?_)
    · have nz : vf s1 c ≠ 0 := fun z => by rw [z] at hc; simp at hc
      rw [if_neg nz] at ec
      have sy : (vf s1 c).natAbs < 2 ^ 270 := eu1.y
      refine ⟨_, fun _ _ h => h, ?_⟩
      refine ⟨_, rfl, _, rfl, a1, _, _, _, rfl, rfl, SqL.of ha1, atI_vf (by omega), _, rfl, _, rfl, b1, _, _, _, rfl, rfl, SqL.of hb1, atI_vf (by omega), _, _, rfl, rfl, wide_divN nz sy (by decide) (by decide), ?_⟩
      have nx := eu1.next (by omega) nz
      have qb : ((vf f1 c).fdiv (vf s1 c)).natAbs < 2 ^ 273 := by
        have h1 := (fdiv_step (x := vf f1 c) nz).2.1
        have h2 : 1 * ((vf f1 c).fdiv (vf s1 c)).natAbs ≤ ((vf f1 c).fdiv (vf s1 c)).natAbs * (vf s1 c).natAbs := by
          rw [Nat.mul_comm]
          exact Nat.mul_le_mul_left _ (by omega)
        have h3 : (vf f1 c).natAbs < 2 ^ 270 := eu1.x
        have h4 : (2 : Nat) ^ 273 = 8 * 2 ^ 270 := by decide +kernel
        omega
      dsimp only
      generalize hq : (vf f1 c).fdiv (vf s1 c) = q at ec nx qb ⊢
      refine ⟨_, rfl, _, rfl, _, rfl, [a1, b1], rfl, rfl, all2 (sqL ha1) (sqL hb1), fun D hD => ?_⟩
      have la : (axpy q f1 s1).length = n := by rw [axpy_len (by omega), ls1]
      refine lc_vals (CZ.walk_rows (xss := [f1.map V.int, s1.map V.int]) (n := n) (lens2 (by rw [List.length_map, lf1]) (by rw [List.length_map, ls1]))) ((axpy q f1 s1).map V.int) (by rw [List.length_map, la]) (by omega) hD (fun H3 e => .cons (sqL (e _ _ ha1)) (.cons (sqL (e _ _ hb1)) .nil)) ?_ (gmono_tup (gmono_cons gmono_name (gmono_cons gmono_name gmono_nil))) ?_
      · intro i y H3 H4 R hi e yy kk
        obtain ⟨Ta, p, d, rfl, hT, rfl, hp, hd⟩ := yints2 yy
        have db : d.natAbs < 2 ^ 543 := by
          rw [← vf_at hd]
          exact Nat.lt_of_le_of_lt (eu1.sb i) four_mb
        refine ⟨Ta, _, rfl, SqT.of upd_same, rfl, _, _, rfl, _, _, rfl, rfl, ?_⟩
        refine ⟨rfl, _, rfl, _, rfl, _, rfl, _, _, rfl, rfl, (wide_mul qb db (by decide) (by decide) (by decide)).ok, _, _, rfl, rfl, ?_⟩
        refine kk _ _ (exn hT) ?_
        rw [List.getElem?_map]
        unfold axpy
        rw [List.getElem?_zipWith, hp, hd]
        rfl
      · intro H3 e3 hD3
        refine ⟨_, _, rfl, ?_⟩
        refine ⟨_, ?_, b1, D, s1, axpy q f1 s1, _, _, _, rfl, ext e1 e3, e3 _ _ hb1, hD3, ls1, la, nx, ec, rfl⟩
        have sm := fmod_small (x := vf f1 c) nz
        rw [hq] at sm
        rw [axpy_vf (by omega)]
        exact sm
    · have z : vf s1 c = 0 := by
        have := eqN hc
        exact this
      rw [if_pos z] at ec
      refine ⟨_, rfl, _, rfl, slen rfl, ?_⟩
      (intro t nt; generalize hGt : upd _ t _ = H2; have eH2 := exG hGt nt; have ht := atG hGt; clear hGt)
      refine k t a1 b1 _ (ext e1 eH2) ht ?_ ?_
      · rw [← ec]
        exact eH2 _ _ ha1
      · rw [← ec]
        exact eH2 _ _ hb1
end

/-! ### lists of lists of ints -/
def LRows (H : Hp) (xs : List V) (rows : List (List Int)) : Prop := Paired (fun x hs => ∃ r, x = V.ref r ∧ H r = some (.lst (hs.map V.int)) ∧ hs ≠ []) xs rows
theorem LRows.mono {H H2 : Hp} (e : Ex H H2) : ∀ {xs : List V} {rows : List (List Int)}, LRows H xs rows → LRows H2 xs rows
  | _, _, .nil => .nil
  | _, _, .cons ⟨r, h1, h2, h3⟩ t => .cons ⟨r, h1, e _ _ h2, h3⟩ (LRows.mono e t)
theorem LRows.len {H : Hp} : ∀ {xs : List V} {rows : List (List Int)}, LRows H xs rows → xs.length = rows.length
  | _, _, .nil => rfl
  | _, _, .cons _ t => by rw [List.length_cons, List.length_cons, LRows.len t]
theorem LRows.get {H : Hp} {xs : List V} {rows : List (List Int)} {i : Nat} {x : V} (h : LRows H xs rows) (hx : xs[i]? = some x) : ∃ hs r, rows[i]? = some hs ∧ x = V.ref r ∧ H r = some (.lst (hs.map V.int)) ∧ hs ≠ [] := by
  obtain ⟨hs, h1, r, h2, h3, h4⟩ := paired_get h hx
  exact ⟨hs, r, h1, h2, h3, h4⟩
theorem LRows.snoc {H : Hp} {r : Addr} {hs : List Int} (h : H r = some (.lst (hs.map V.int))) (ne : hs ≠ []) : ∀ {xs : List V} {rows : List (List Int)}, LRows H xs rows → LRows H (xs ++ [.ref r]) (rows ++ [hs])
  | _, _, .nil => .cons ⟨r, rfl, h, ne⟩ .nil
  | _, _, .cons q t => .cons q (LRows.snoc h ne t)
/-- a list of rows is no row -/
theorem LRows.ne {H : Hp} {D r : Addr} {ys : List V} {rows : List (List Int)} {hs : List Int} (hD : H D = some (.lst ys)) (h : LRows H ys rows) (hr : H r = some (.lst (hs.map V.int))) (ne : hs ≠ []) : r ≠ D := by
  intro e
  rw [e, hD] at hr
  injection hr with hr
  injection hr with hr
  cases hs with
  | nil => exact ne rfl
  | cons x xs =>
    rw [List.map_cons] at hr
    rw [hr] at h
    cases h with
    | cons q _ =>
      obtain ⟨r, e, _⟩ := q
      cases e
theorem LRows.upd {H : Hp} {D : Addr} {ys zs : List V} {rows0 : List (List Int)} (hD : H D = some (.lst ys)) (h0 : LRows H ys rows0) : ∀ {xs : List V} {rows : List (List Int)}, LRows H xs rows → LRows (upd H D (.lst zs)) xs rows
  | _, _, .nil => .nil
  | _, _, .cons ⟨r, h1, h2, h3⟩ t => .cons ⟨r, h1, by rw [upd_ne (LRows.ne hD h0 h2 h3)]; exact h2, h3⟩ (LRows.upd hD h0 t)
def LAt (H : Hp) (D : Addr) (rows : List (List Int)) : Prop := ∃ xs, H D = some (.lst xs) ∧ LRows H xs rows
theorem LAt.mono {H H2 : Hp} {D : Addr} {rows : List (List Int)} (e : Ex H H2) (h : LAt H D rows) : LAt H2 D rows := by
  obtain ⟨xs, h1, h2⟩ := h
  exact ⟨xs, e _ _ h1, h2.mono e⟩
theorem lrows_push {H : Hp} {D u : Addr} {rows : List (List Int)} {ks : List Int} (h : LAt H D rows) (hu : H u = some (.lst (ks.map V.int))) (ne : ks ≠ []) : ∃ acc, H D = some (.lst acc) ∧ acc.length = rows.length ∧ LAt (upd H D (.lst (acc ++ [.ref u]))) D (rows ++ [ks]) := by
  obtain ⟨xs, h1, h2⟩ := h
  refine ⟨xs, h1, h2.len, _, upd_same, ?_⟩
  exact LRows.snoc (by rw [upd_ne (LRows.ne h1 h2 hu ne)]; exact hu) ne (h2.upd h1 h2)
theorem LAt.other {H : Hp} {D E : Addr} {rows rowsE : List (List Int)} {zs : List V} (h : LAt H D rows) (hE : LAt H E rowsE) (ne : E ≠ D) : LAt (upd H D (.lst zs)) E rowsE := by
  obtain ⟨xs, h1, h2⟩ := h
  obtain ⟨ys, g1, g2⟩ := hE
  exact ⟨ys, by rw [upd_ne ne]; exact g1, LRows.upd h1 h2 g2⟩
theorem LAt.row {H : Hp} {D r : Addr} {rows : List (List Int)} {hs : List Int} {zs : List V} (h : LAt H D rows) (hr : IL H r hs) (ne : hs ≠ []) : IL (upd H D (.lst zs)) r hs := by
  obtain ⟨xs, h1, h2⟩ := h
  show upd H D _ r = _
  rw [upd_ne (LRows.ne h1 h2 hr ne)]
  exact hr
theorem atI_zero {α : Type} (x : α) (xs : List α) : atI (x :: xs) 0 = some x := by
  unfold atI ixN
  rw [if_pos (Int.le_refl 0), if_pos (by rw [List.length_cons]; omega)]
  rfl
/-- an if that ends the def or leaves all names as they are -/
theorem ifs_ex {c : TT} {t u : TS} {D : Ends} {σ : L2.St} {H : Hp} (h : ∀ N : L2.St → Hp → Prop, (∀ H2, Ex H H2 → N σ H2) → tIfS c t u { D with nx := N } σ H) (hR : ∀ H2, Ex H H2 → D.nx σ H2) : tIfS c t u D σ H :=
  ifs_cutG (fun σ2 H2 => σ2 = σ ∧ Ex H H2) (by rintro σ2 H2 ⟨rfl, e⟩; exact hR H2 e) (fun N hN => h N fun H2 e => hN σ H2 ⟨rfl, e⟩)
theorem sif_ex {c : TT} {t u r : TS} {D : Ends} {σ : L2.St} {H : Hp} (h : ∀ N : L2.St → Hp → Prop, (∀ H2, Ex H H2 → N σ H2) → tIfS c t u { D with nx := N } σ H) (hR : ∀ H2, Ex H H2 → r D σ H2) : tSeq (tIfS c t u) r D σ H :=
  ifs_ex (D := { D with nx := r D }) h hR

theorem drop_ints (xs : List Int) (k : Nat) : (xs.map V.int).drop k = (xs.drop k).map V.int := by rw [List.map_drop]
theorem take_ints (xs : List Int) (k : Nat) : (xs.map V.int).take k = (xs.take k).map V.int := by rw [List.map_take]
theorem cut_to1 (xs : List Int) (c : Nat) : cutV (xs.map V.int) none (some ((c : Int) + 1)) = (xs.take (c + 1)).map V.int := by
  rw [show ((c : Int) + 1) = ((c + 1 : Nat) : Int) from rfl, cut_to, take_ints]
theorem cut_from1 (xs : List Int) (c : Nat) : cutV (xs.map V.int) (some ((c : Int) + 1)) none = (xs.drop (c + 1)).map V.int := by
  rw [show ((c : Int) + 1) = ((c + 1 : Nat) : Int) from rfl, cut_from, drop_ints]
theorem red_ne {c n : Nat} {odds row : List Int} (h1 : odds.length = n) (h2 : row.length = n) (h : 0 < n) : redF c odds row ≠ [] := fun z => by
  have := red_len (c := c) h1 h2
  rw [z] at this
  simp at this
  omega
section
variable {P : Program} {w : World} {K : PySem.W.Frag} {mg : Str → Option Value} {base : Heap}
def sp_reduced : Sp := fun vs H Q _ => ∃ (a b : Addr) (c n : Nat) (row odds : List Int), vs = [.ref a, .int (c : Int), .ref b] ∧ IL H a row ∧ IL H b odds ∧ row.length = n ∧ odds.length = n ∧ n ≤ 4 ∧ (∀ j, j < n → 0 < vf odds j) ∧
  ∀ q H2, Ex H H2 → H q = none → IL H2 q (redF c odds row) → Q (.ref q) H2
theorem ok_reduced (T : TX K mg) : FnOk P w K mg base CX0 1 T.f_reduced T.fd_reduced ["row", "column", "odds"] sp_reduced := by
  refine T.F_reduced.ok sc_reduced (fun vs H Q E h => ?_) (fun cdv A outer s H vs Q E hr h => ?_)
  · obtain ⟨a, b, c, n, row, odds, rfl, _⟩ := h
    rfl
  · obtain ⟨a, b, c, n, row, odds, rfl, ha, hb, lr, lo, n4, op, k⟩ := h
    refine ⟨_, (pss_one (ps_ret (pe_op (r := rCatR K) op_catR (pe_slice sl_list (pv 0) po_none (po_some (pe_op op_add (pv 1) pe_int))) (pe_lc (own := [("one", 3), ("odd", 4)]) (g := (gTup K 2 (gCons (gName 3) (gCons (gName 4) gNil)))) rfl sc_reduced.nd (CZ.pi_z2s (fl := [false, false]) rfl (by rfl) T.z_zip (pa_cons (pe_slice sl_list (pv 0) (po_some (pe_op op_add (pv 1) pe_int)) po_none) (pa_cons (pe_slice sl_list (pv 2) (po_some (pe_op op_add (pv 1) pe_int)) po_none) pa_nil))) (blkOk_by (N := N_reduced) (sc := defScope s_reduced) (by decide +kernel)) (fun _ _ _ _ _ => (pg_tup rfl (pgs_cons (pg_name (i := 3) sc_reduced.nd rfl (Or.inl rfl)) (pgs_cons (pg_name (i := 4) sc_reduced.nd rfl (Or.inl rfl)) pgs_nil)))) (fun _ _ _ _ _ => pts_nil) (fun _ _ _ _ _ => (pe_op op_mod (pv 3) (pv 4))))))), ?_⟩
    (repeat (first | refine ⟨rfl, ?_⟩ | refine ⟨_, rfl, ?_⟩ | refine ⟨_, _, rfl, rfl, ?_⟩ | refine ⟨_, _, rfl, ?_⟩ | refine ⟨slen rfl, ?_⟩ | refine ⟨⟨by decide, by decide +kernel⟩, ?_⟩ | refine ⟨⟨by decide, by decide, by decide⟩, ?_⟩ | refine ⟨(by show (0 : Int) < _; first | decide | assumption | omega), ?_⟩ | refine ⟨mul_ok (by first | exact .inr (by decide) | exact .inl (by decide)), ?_⟩))
    refine ⟨a, _, rfl, SqL.of ha, ?_⟩
    dsimp only
    rw [cut_to1]
    (intro q1 nq1; generalize hGq1 : upd _ q1 _ = H1; have eH1 := exG hGq1 nq1; have hq1 := atG hGq1; clear hGq1)
    (repeat (first | refine ⟨rfl, ?_⟩ | refine ⟨_, rfl, ?_⟩ | refine ⟨_, _, rfl, rfl, ?_⟩ | refine ⟨_, _, rfl, ?_⟩ | refine ⟨slen rfl, ?_⟩ | refine ⟨⟨by decide, by decide +kernel⟩, ?_⟩ | refine ⟨⟨by decide, by decide, by decide⟩, ?_⟩ | refine ⟨(by show (0 : Int) < _; first | decide | assumption | omega), ?_⟩ | refine ⟨mul_ok (by first | exact .inr (by decide) | exact .inl (by decide)), ?_⟩))
    refine ⟨a, _, rfl, SqL.of (eH1 _ _ ha), ?_⟩
    dsimp only
    rw [cut_from1]
    (intro q2 nq2; generalize hGq2 : upd _ q2 _ = H2; have eH2 := exG hGq2 nq2; have hq2 := atG hGq2; clear hGq2)
    (repeat (first | refine ⟨rfl, ?_⟩ | refine ⟨_, rfl, ?_⟩ | refine ⟨_, _, rfl, rfl, ?_⟩ | refine ⟨_, _, rfl, ?_⟩ | refine ⟨slen rfl, ?_⟩ | refine ⟨⟨by decide, by decide +kernel⟩, ?_⟩ | refine ⟨⟨by decide, by decide, by decide⟩, ?_⟩ | refine ⟨(by show (0 : Int) < _; first | decide | assumption | omega), ?_⟩ | refine ⟨mul_ok (by first | exact .inr (by decide) | exact .inl (by decide)), ?_⟩))
    refine ⟨b, _, rfl, SqL.of (eH2 _ _ (eH1 _ _ hb)), ?_⟩
    dsimp only
    rw [cut_from1]
    (intro q3 nq3; generalize hGq3 : upd _ q3 _ = H3; have eH3 := exG hGq3 nq3; have hq3 := atG hGq3; clear hGq3)
    have ld1 : (row.drop (c + 1)).length = n - (c + 1) := by rw [List.length_drop, lr]
    have ld2 : (odds.drop (c + 1)).length = n - (c + 1) := by rw [List.length_drop, lo]
    refine ⟨[q2, q3], rfl, rfl, all2 (sqL (eH3 _ _ hq2)) (sqL hq3), fun D hD => ?_⟩
    refine lc_vals (CZ.walk_rows (xss := [(row.drop (c + 1)).map V.int, (odds.drop (c + 1)).map V.int]) (n := n - (c + 1)) (lens2 (by rw [List.length_map, ld1]) (by rw [List.length_map, ld2]))) ((List.zipWith (fun x y => x % y) (row.drop (c + 1)) (odds.drop (c + 1))).map V.int) (by rw [List.length_map, List.length_zipWith, ld1, ld2, Nat.min_self]) (by omega) hD (fun H3 e => .cons (sqL (e _ _ (eH3 _ _ hq2))) (.cons (sqL (e _ _ hq3)) .nil)) ?_ (gmono_tup (gmono_cons gmono_name (gmono_cons gmono_name gmono_nil))) ?_
    · intro i y H4 H5 R hi e yy kk
      obtain ⟨Ta, p, d, rfl, hT, rfl, hp, hd⟩ := yints2 yy
      have d0 : 0 < d := by
        rw [List.getElem?_drop] at hd
        rw [← vf_at hd]
        exact op _ (by omega)
      refine ⟨Ta, _, rfl, SqT.of upd_same, rfl, _, _, rfl, _, _, rfl, rfl, ?_⟩
      refine ⟨rfl, _, rfl, _, rfl, _, _, rfl, rfl, d0, ?_⟩
      refine kk _ _ (exn hT) ?_
      rw [List.getElem?_map, List.getElem?_zipWith, hp, hd]
      rfl
    · intro H4 e4 hD4
      refine ⟨q1, D, _, _, rfl, rfl, SqL.of (e4 _ _ (eH3 _ _ (eH2 _ _ hq1))), SqL.of hD4, ?_, fun q hq => ?_⟩
      · rw [List.length_map, List.length_map, List.length_take, List.length_zipWith, ld1, ld2]
        exact Nat.le_trans (show _ ≤ 8 by omega) (by decide)
      · have e14 : Ex H H4 := ext eH1 (ext eH2 (ext eH3 e4))
        refine k q _ (ext e14 (exn hq)) (Evl.fresh_back e14 hq) ?_
        show upd H4 q _ q = _
        rw [upd_same, ← List.map_append]
        rfl
end

/-- the odd part -/
def oddN (n : Nat) : Nat := if h : 0 < n ∧ n % 2 = 0 then oddN (n / 2) else n
termination_by n
decreasing_by omega
theorem odd_eq (n : Nat) : oddN n = if 0 < n ∧ n % 2 = 0 then oddN (n / 2) else n := by
  rw [oddN]
  split <;> rfl
theorem odd_ok : ∀ (m n : Nat), n ≤ m → 0 < n → (∃ k, n = 2 ^ k * oddN n) ∧ oddN n % 2 = 1 ∧ 0 < oddN n ∧ oddN n ≤ n
  | 0, n, h, p => by omega
  | m + 1, n, h, p => by
    rw [odd_eq]
    by_cases e : 0 < n ∧ n % 2 = 0
    · rw [if_pos e]
      obtain ⟨⟨k, hk⟩, a, b, c⟩ := odd_ok m (n / 2) (by omega) (by omega)
      refine ⟨⟨k + 1, ?_⟩, a, b, by omega⟩
      rw [Nat.pow_succ, Nat.mul_comm (2 ^ k), Nat.mul_assoc, ← hk]
      omega
    · rw [if_neg e]
      exact ⟨⟨0, by simp⟩, by omega, p, Nat.le_refl _⟩
def oddI (n : Int) : Int := (oddN n.toNat : Nat)
/-- differences from the first target -/
def diffL (a b : List Int) : List Int := List.zipWith (fun x y => x - y) a b
def rowsF (t0 : List Int) (ts : List (List Int)) : List (List Int) := ts.map fun t => diffL t t0
/-- all free shifts, by a triangular basis -/
def shiftB (ns : List Int) (tss : List (List Int)) : List (List Int) := basisF (ns.map oddI) (rowsF (tss.headD []) tss.tail)
theorem pow2_inj : ∀ (k j : Nat) (a b : Int), a % 2 = 1 → b % 2 = 1 → 2 ^ k * a = 2 ^ j * b → a = b
  | 0, 0, a, b, _, _, h => by simpa using h
  | 0, j + 1, a, b, ha, _, h => by
    rw [Int.pow_succ, Int.mul_comm ((2 : Int) ^ j), Int.mul_assoc] at h
    simp at h
    omega
  | k + 1, 0, a, b, _, hb, h => by
    rw [Int.pow_succ, Int.mul_comm ((2 : Int) ^ k), Int.mul_assoc] at h
    simp at h
    omega
  | k + 1, j + 1, a, b, ha, hb, h => by
    rw [Int.pow_succ, Int.pow_succ, Int.mul_comm ((2 : Int) ^ k), Int.mul_comm ((2 : Int) ^ j), Int.mul_assoc, Int.mul_assoc] at h
    exact pow2_inj k j a b ha hb (by omega)
theorem oddI_ok {n : Int} (h : 1 ≤ n) : (∃ k : Nat, n = 2 ^ k * oddI n) ∧ oddI n % 2 = 1 ∧ 0 < oddI n ∧ oddI n ≤ n := by
  obtain ⟨⟨k, hk⟩, a, b, c⟩ := odd_ok n.toNat n.toNat (Nat.le_refl _) (by omega)
  refine ⟨⟨k, ?_⟩, by unfold oddI; omega, by unfold oddI; omega, by unfold oddI; omega⟩
  have : (n.toNat : Int) = ((2 ^ k * oddN n.toNat : Nat) : Int) := congrArg Nat.cast hk
  rw [Int.natCast_mul, Int.natCast_pow] at this
  unfold oddI
  rw [← show ((2 : Nat) : Int) = 2 from rfl, ← this]
  omega
theorem oddI_uniq {n o : Int} {k : Nat} (h : 1 ≤ n) (e : n = 2 ^ k * o) (ho : o % 2 = 1) : o = oddI n := by
  obtain ⟨⟨j, hj⟩, a, _, _⟩ := oddI_ok h
  exact pow2_inj k j o (oddI n) ho a (by rw [← e, ← hj])
theorem mb80 {n : Int} (h0 : 0 ≤ n) (h : n ≤ 10 ^ 80) : n.natAbs < MB := by
  have : (10 : Int) ^ 80 < 2 ^ 270 := by decide +kernel
  have e : ((2 ^ 270 : Nat) : Int) = (2 : Int) ^ 270 := by simp
  show n.natAbs < 2 ^ 270
  omega
abbrev SzC (ns : List Int) : Prop := ∀ n ∈ ns, n ≤ 10 ^ 80
theorem odds_b {ns : List Int} (ok : SzOk ns) (hB : SzC ns) : OddB MB ns.length (ns.map oddI) := by
  refine ⟨by simp, fun j hj => ?_, fun j => ?_, mb_pos⟩
  · have e : (ns.map oddI)[j]? = some (oddI ns[j]) := by rw [List.getElem?_map, List.getElem?_eq_getElem hj]; rfl
    rw [vf_at e]
    exact (oddI_ok (ok.one _ (List.getElem_mem hj))).2.2.1
  · by_cases hj : j < ns.length
    · have e : (ns.map oddI)[j]? = some (oddI ns[j]) := by rw [List.getElem?_map, List.getElem?_eq_getElem hj]; rfl
      rw [vf_at e]
      have o := oddI_ok (ok.one _ (List.getElem_mem hj))
      exact mb80 (by omega) (Int.le_trans o.2.2.2 (hB _ (List.getElem_mem hj)))
    · rw [vf_ge (by simp; omega)]
      exact mb_pos
theorem diff_len {a b : List Int} {n : Nat} (h1 : a.length = n) (h2 : b.length = n) : (diffL a b).length = n := by simp [diffL, h1, h2]
theorem diff_vf {a b : List Int} (h : a.length = b.length) : vf (diffL a b) = fun i => vf a i - vf b i := by
  have e : diffL a b = axpy 1 a b := by
    unfold diffL axpy
    congr 1
    funext x y
    simp
  rw [e, axpy_vf h]
  funext i
  simp
theorem seat_vf {ns ps : List Int} (sk : SeatOk ns ps) (hB : SzC ns) (j : Nat) : 0 ≤ vf ps j ∧ (vf ps j).natAbs < MB ∧ vf ps j ≤ 10 ^ 80 := by
  by_cases hj : j < ps.length
  · have hn : ns[j]? = some (ns[j]'(by rw [← sk.len]; exact hj)) := List.getElem?_eq_getElem _
    have hp : ps[j]? = some ps[j] := List.getElem?_eq_getElem hj
    obtain ⟨a, b⟩ := sk.at hn hp
    rw [vf_at hp]
    have := hB _ (List.mem_of_getElem? hn)
    exact ⟨a, mb80 a (by omega), by omega⟩
  · rw [vf_ge (by omega)]
    exact ⟨Int.le_refl _, mb_pos, by decide⟩
theorem diff_b {ns ps qs : List Int} (sp : SeatOk ns ps) (sq : SeatOk ns qs) (hB : SzC ns) : RowB MB ns.length 0 (diffL ps qs) := by
  have lp := sp.len
  have lq := sq.len
  refine ⟨diff_len lp lq, fun j hj => absurd hj (by omega), fun j => ?_⟩
  rw [diff_vf (by omega)]
  obtain ⟨a, b, c⟩ := seat_vf sp hB j
  obtain ⟨d, e, f⟩ := seat_vf sq hB j
  show (vf ps j - vf qs j).natAbs < MB
  omega
theorem rows_b {ns : List Int} {tss : List (List Int)} (hB : SzC ns) (ne : tss ≠ []) (sks : ∀ ts ∈ tss, SeatOk ns ts) : ∀ r ∈ rowsF (tss.headD []) tss.tail, RowB MB ns.length 0 r := by
  intro r hr
  obtain ⟨t, ht, rfl⟩ := List.mem_map.mp hr
  cases tss with
  | nil => exact absurd rfl ne
  | cons t0 ts => exact diff_b (sks t (List.mem_cons_of_mem _ ht)) (sks t0 List.mem_cons_self) hB
/-- what the law of a basis needs -/
theorem shift_ok {ns : List Int} {tss : List (List Int)} (ok : SzOk ns) (hB : SzC ns) (ne : tss ≠ []) (sks : ∀ ts ∈ tss, SeatOk ns ts) :
    (shiftB ns tss).length = ns.length ∧ Tri ns.length (shiftB ns tss) ∧ (∀ v, Lat (rowsG (shiftB ns tss)) v ↔ Lat (shG (rowsF (tss.headD []) tss.tail) 0 ns.length (ns.map oddI)) v) ∧ ∀ r ∈ shiftB ns tss, RowB MB ns.length 0 r := by
  have o := odds_b ok hB
  have rb := rows_b hB ne sks
  obtain ⟨a, b, c⟩ := basis_ok o.len (nz_of o) fun r hr => (rb r hr).len
  exact ⟨a, b, c, basis_b o rb⟩

section
variable {P : Program} {w : World} {K : PySem.W.Frag} {mg : Str → Option Value} {base : Heap}
def sp_odd_part : Sp := fun vs H Q _ => ∃ (n : Int), vs = [.int n] ∧ 1 ≤ n ∧ n ≤ 10 ^ 80 ∧ Q (.int (oddI n)) H
theorem ok_odd_part (T : TX K mg) : FnOk P w K mg base CX0 1 T.f_odd_part T.fd_odd_part ["number"] sp_odd_part := by
  refine T.F_odd_part.ok sc_odd_part (fun vs H Q E h => ?_) (fun cdv A outer s H vs Q E hr h => ?_)
  · obtain ⟨n, rfl, _⟩ := h
    rfl
  · obtain ⟨n, rfl, n1, n2, k⟩ := h
    refine ⟨_, (pss_one (ps_ret (pe_op op_fdivW (pv 0) (pe_op op_and (pv 0) (pe_un un_neg (pv 0)))))), ?_⟩
    obtain ⟨⟨j, hj⟩, o1, o2, o3⟩ := oddI_ok n1
    have ea : oddI n = 2 * (oddI n / 2) + 1 := by omega
    have eb : Builtin.bitAnd n (-n) = 2 ^ j := by
      have := PySem.W.kbt_low j (oddI n / 2)
      rw [← ea, ← hj] at this
      exact this
    have p0 : (0 : Int) < 2 ^ j := Int.pow_pos (by decide)
    have pl : (2 : Int) ^ j ≤ n := by
      have := Int.mul_le_mul_of_nonneg_left (show 1 ≤ oddI n by omega) (show 0 ≤ (2 : Int) ^ j by omega)
      omega
    refine ⟨_, rfl, _, rfl, _, rfl, _, rfl, _, _, rfl, rfl, _, _, rfl, rfl, ?_, ?_⟩
    · rw [eb]
      exact wide_div (by omega) (mb80 (by omega) (by omega)) (by decide) (by decide)
    · dsimp only
      have e2 : n / Builtin.bitAnd n (-n) = oddI n := by
        rw [eb]
        conv => lhs; lhs; rw [hj]
        exact Int.mul_ediv_cancel_left _ (by omega)
      rw [e2]
      exact k
def sp_shift_basis : Sp := fun vs H Q _ => ∃ (t : Addr) (q : Bool × Addr) (ns : List Int) (tss : List (List Int)), vs = [.ref t, .ref q.2] ∧ H t = some (.tup (ns.map V.int)) ∧ SzOk ns ∧ SzC ns ∧ RowsQ H q tss ∧ tss ≠ [] ∧ tss.length ≤ 1000 ∧ (∀ ts ∈ tss, SeatOk ns ts) ∧
  ∀ D H2, Ex H H2 → H D = none → LAt H2 D (shiftB ns tss) → Q (.ref D) H2
theorem ok_shift_basis (T : TX K mg) : FnOk P w K mg base CX0 2 T.f_shift_basis T.fd_shift_basis ["sizes", "targets"] sp_shift_basis := by
  refine T.F_shift_basis.ok sc_shift_basis (fun vs H Q E h => ?_) (fun cdv A outer s H vs Q E hr h => ?_)
  · obtain ⟨t, q, ns, tss, rfl, _⟩ := h
    rfl
  · obtain ⟨t, ⟨bq, q⟩, ns, tss, rfl, ht, ok, hB, ⟨xs, hq, rr⟩, ne, lt, sks, k⟩ := h
    refine ⟨_, (pss_cons (ps_setLc (own := [("size", 11)]) (g := (gName 11)) (i := 2) rfl sc_shift_basis.nd rfl rfl (sw_true rfl rfl rfl (by decide +kernel)) (pi_tup (pv 0)) (blkOk_by (N := N_shift_basis) (sc := defScope s_shift_basis) (by decide +kernel)) (fun _ _ _ _ _ => (pg_name (i := 11) sc_shift_basis.nd rfl (Or.inl rfl))) (fun _ _ _ _ _ => pts_nil) (fun _ _ _ _ _ => (pe_call (ok_odd_part T) hr rfl T.m_odd_part T.F_odd_part.kp T.b_odd_part .nil pass0 (pa_cons (pv 11) pa_nil)))) (pss_cons (ps_setLc (own := [("seat", 12)]) (g := (gName 12)) (i := 3) rfl sc_shift_basis.nd rfl rfl (sw_true rfl rfl rfl (by decide +kernel)) (pi_seq (pe_slice (r := rSlQ) sl_q (pv 1) (po_some pe_int) po_none)) (blkOk_by (N := N_shift_basis) (sc := defScope s_shift_basis) (by decide +kernel)) (fun _ _ _ _ _ => (pg_name (i := 12) sc_shift_basis.nd rfl (Or.inl rfl))) (fun _ _ _ _ _ => pts_nil) (fun _ _ _ _ _ => (pe_lc (wi := CZ.iZ K [true, true] _) (own := [("one", 13), ("other", 14)]) (g := (gTup K 2 (gCons (gName 13) (gCons (gName 14) gNil)))) rfl sc_shift_basis.nd (CZ.pi_z2s (fl := [true, true]) rfl (by rfl) T.z_zip (pa_cons (pv 12) (pa_cons (pe_ix (r := rIxQ K) ix_q (pv 1) pe_int (fun _ _ => rfl)) pa_nil))) (blkOk_by (N := N_shift_basis) rfl) (fun _ _ _ _ _ => (pg_tup rfl (pgs_cons (pg_name (i := 13) sc_shift_basis.nd rfl (Or.inl rfl)) (pgs_cons (pg_name (i := 14) sc_shift_basis.nd rfl (Or.inl rfl)) pgs_nil)))) (fun _ _ _ _ _ => pts_nil) (fun _ _ _ _ _ => (pe_op op_sub (pv 13) (pv 14)))))) (pss_cons (ps_set (i := 4) sc_shift_basis.nd rfl (Or.inl rfl) (pe_lst pa_nil)) (pss_cons (ps_for PassesOwn.never rfl (CE.pi_e rfl T.z_enumerate (pa_cons (pv 2) pa_nil)) (pg_tup rfl (pgs_cons (pg_name (i := 5) sc_shift_basis.nd rfl (Or.inr rfl)) (pgs_cons (pg_name (i := 6) sc_shift_basis.nd rfl (Or.inr rfl)) pgs_nil))) (pss_cons (ps_par (i := 7) (j := 8) rfl sc_shift_basis.nd rfl rfl (by decide) rfl rfl (pa_cons (pe_lc (own := [("index", 15)]) (g := (gName 15)) rfl sc_shift_basis.nd (pi_range1 rfl T.z_range (pa_cons (pe_callB call_len_seq (by rfl) T.z_len (by decide +kernel) (pa_cons (pv 0) pa_nil)) pa_nil)) (blkOk_by (N := N_shift_basis) (sc := defScope s_shift_basis) (by decide +kernel)) (fun _ _ _ _ _ => (pg_name (i := 15) sc_shift_basis.nd rfl (Or.inl rfl))) (fun _ _ _ _ _ => pts_nil) (fun _ _ _ _ _ => (pe_op op_mulI (pv 6) (pe_callTy call_int1 (by rfl) T.z_int (by decide +kernel) (pa_cons (pe_cmpR op_eq (pv 15) (pv 5) (nomark _)) pa_nil))))) (pa_cons (pe_lst pa_nil) pa_nil)) (by rfl)) (pss_cons (ps_for PassesOwn.never rfl (pi_list (pv 3)) (pg_name (i := 9) sc_shift_basis.nd rfl (Or.inl rfl)) (pss_cons (ps_asg (pe_call (ok_combined T) hr rfl T.m_combined T.F_combined.kp T.b_combined .nil pass0 (pa_cons (pv 7) (pa_cons (pv 9) (pa_cons (pv 5) pa_nil)))) (pg_tup rfl (pgs_cons (pg_name (i := 7) sc_shift_basis.nd rfl (Or.inl rfl)) (pgs_cons (pg_name (i := 10) sc_shift_basis.nd rfl (Or.inl rfl)) pgs_nil)))) (pss_cons (ps_expr (pe_bm PySem.F.plainAttrs_list PySem.F.slot_list_append PySem.F.type_list_append mt_append (pv 8) (pa_cons (pe_call (ok_reduced T) hr rfl T.m_reduced T.F_reduced.kp T.b_reduced .nil pass0 (pa_cons (pv 10) (pa_cons (pv 5) (pa_cons (pv 2) pa_nil)))) pa_nil))) (pss_one (ps_set (i := 7) sc_shift_basis.nd rfl (Or.inl rfl) (pe_call (ok_reduced T) hr rfl T.m_reduced T.F_reduced.kp T.b_reduced .nil pass0 (pa_cons (pv 7) (pa_cons (pv 5) (pa_cons (pv 2) pa_nil))))))))) (pss_cons (ps_expr (pe_bm PySem.F.plainAttrs_list PySem.F.slot_list_append PySem.F.type_list_append mt_append (pv 4) (pa_cons (pe_ifExp (pt_cmpR op_gt (pe_ix ix_list (pv 7) (pv 5) (fun _ _ => rfl)) pe_int (nomark _)) (pv 7) (pe_lc (own := [("one", 13)]) (g := (gName 13)) rfl sc_shift_basis.nd (pi_list (pv 7)) (blkOk_by (N := N_shift_basis) (sc := defScope s_shift_basis) (by decide +kernel)) (fun _ _ _ _ _ => (pg_name (i := 13) sc_shift_basis.nd rfl (Or.inl rfl))) (fun _ _ _ _ _ => pts_nil) (fun _ _ _ _ _ => (pe_un un_neg (pv 13))))) pa_nil))) (pss_one (ps_set (i := 3) sc_shift_basis.nd rfl (Or.inl rfl) (pv 8))))))) (pss_one (ps_ret (pv 4))))))), ?_⟩
    have n4 := ok.le
    have npos : 1 ≤ ns.length := List.length_pos_iff.mpr ok.pos
    have ob := odds_b ok hB
    have rb := rows_b hB ne sks
    have lx := rr.len
    -- odds
    refine ⟨_, rfl, t, rfl, ⟨_, SqT.of ht⟩, fun D1 hD1 => ?_⟩
    refine lc_vals (walk_tup (xs := ns.map V.int)) ((ns.map oddI).map V.int) (by simp) (by rw [List.length_map]; omega) hD1 (fun H3 e => SqT.of (e _ _ ht)) ?_ gmono_name ?_
    · rintro i x _ H3 R hi e ⟨rfl, hx⟩ kk
      obtain ⟨n, hn, rfl⟩ := map_get hx
      exact ⟨rfl, _, rfl, n, rfl, ok.one n (List.mem_of_getElem? hn), hB n (List.mem_of_getElem? hn), kk _ _ exr (by rw [List.getElem?_map, List.getElem?_map, hn]; rfl)⟩
    intro H1 e1 hD1'
    obtain ⟨t0, ts, rfl⟩ : ∃ t0 ts, tss = t0 :: ts := by
      cases tss with
      | nil => exact absurd rfl ne
      | cons a b => exact ⟨a, b, rfl⟩
    obtain ⟨x0, xs, rfl⟩ : ∃ x0 xs', xs = x0 :: xs' := by
      cases xs with
      | nil => cases rr
      | cons a b => exact ⟨a, b, rfl⟩
    obtain ⟨h0, r0, eh0, rfl, hr0⟩ := rr.get (i := 0) rfl
    obtain rfl : t0 = h0 := Option.some.inj eh0
    have rt : RowsR H xs ts := by
      cases rr with
      | cons _ h => exact h
    have sk0 := sks t0 List.mem_cons_self
    -- rows
    refine ⟨_, rfl, 1, rfl, (bq, q), _, rfl, hq.mono e1, fun sl H2 e2 hsl => ?_⟩
    rw [show (1 : Int) = ((1 : Nat) : Int) from rfl, cut_from] at hsl
    have hsl2 : SqH H2 (bq, sl) xs := hsl
    have e02 : Ex H H2 := ext e1 e2
    refine ⟨(bq, sl), rfl, ⟨_, hsl2.sq⟩, fun D2 hD2 => ?_⟩
    refine lc_it (walk_seq (xs := xs)) (fun i H3 => Ex H2 H3 ∧ LAt H3 D2 ((ts.take i).map fun t => diffL t t0)) ⟨exn hD2, _, upd_same, .nil⟩ (fun i H3 _ p => (hsl2.mono p.1).sq) ?_ ?_
    · rintro i x _ H3 hi ⟨e3, la⟩ ⟨rfl, hx⟩
      obtain ⟨hs, r, hhs, rfl, hrr⟩ := rt.get hx
      have sk := sks hs (List.mem_cons_of_mem _ (List.mem_of_getElem? hhs))
      have ld := diff_len sk.len sk0.len
      have e03 : Ex H H3 := ext e02 e3
      refine ⟨rfl, _, rfl, _, rfl, (bq, q), _, 0, _, rfl, rfl, (hq.mono e03).sq, ?_, [r, r0], rfl, rfl, all2 (sqT (e03 _ _ hrr)) (sqT (e03 _ _ hr0)), fun D3 hD3 => ?_⟩
      · unfold atI ixN
        rw [if_pos (Int.le_refl 0), if_pos (by rw [List.length_cons]; omega)]
        rfl
      refine lc_vals (CZ.walk_rows (xss := [hs.map V.int, t0.map V.int]) (n := ns.length) (lens2 (by rw [List.length_map, sk.len]) (by rw [List.length_map, sk0.len]))) ((diffL hs t0).map V.int) (by rw [List.length_map, ld]) (by omega) hD3 (fun H4 e => .cons (sqT (e _ _ (e03 _ _ hrr))) (.cons (sqT (e _ _ (e03 _ _ hr0))) .nil)) ?_ (gmono_tup (gmono_cons gmono_name (gmono_cons gmono_name gmono_nil))) ?_
      · intro j y H4 H5 R hj e yy kk
        obtain ⟨Ta, p, d, rfl, hT, rfl, hp, hd⟩ := yints2 yy
        refine ⟨Ta, _, rfl, SqT.of upd_same, rfl, _, _, rfl, _, _, rfl, rfl, ?_⟩
        refine ⟨rfl, _, rfl, _, rfl, _, _, rfl, rfl, ?_⟩
        refine kk _ _ (exn hT) ?_
        rw [List.getElem?_map]
        unfold diffL
        rw [List.getElem?_zipWith, hp, hd]
        rfl
      · intro H4 e4 hD4
        have nd : diffL hs t0 ≠ [] := fun z => by rw [z] at ld; simp at ld; omega
        obtain ⟨acc, p1, p2, p3⟩ := lrows_push (la.mono e4) hD4 nd
        refine ⟨acc, p1, ?_, ex_upd (ext e3 e4) hD2, ?_⟩
        · rw [p2, List.length_map, List.length_take]
          exact Nat.lt_of_le_of_lt (show _ ≤ 1000 by rw [List.length_cons] at lt; omega) (by decide)
        · rw [take_more hhs, List.map_append]
          exact p3
    rintro H3 ⟨e3, la3⟩
    have lxs := rt.len
    rw [lxs, List.take_length] at la3
    (repeat (first | refine ⟨rfl, ?_⟩ | refine ⟨_, rfl, ?_⟩ | refine ⟨_, _, rfl, rfl, ?_⟩ | refine ⟨_, _, rfl, ?_⟩ | refine ⟨slen rfl, ?_⟩ | refine ⟨⟨by decide, by decide +kernel⟩, ?_⟩ | refine ⟨⟨by decide, by decide, by decide⟩, ?_⟩ | refine ⟨(by show (0 : Int) < _; first | decide | assumption | omega), ?_⟩ | refine ⟨mul_ok (by first | exact .inr (by decide) | exact .inl (by decide)), ?_⟩))
    (intro Bs nBs; generalize hGBs : upd _ Bs _ = H4; have eH4 := exG hGBs nBs; have hBs := atG hGBs; clear hGBs)
    have e04 : Ex H H4 := ext e02 (ext e3 eH4)
    have hod : IL H4 D1 (ns.map oddI) := eH4 _ _ (e3 _ _ (e2 _ _ hD1'))
    have nB0 : H Bs = none := Evl.fresh_back e02 (Evl.fresh_back e3 nBs)
    refine ⟨_, rfl, (false, D1), rfl, ⟨_, sqL hod⟩, ?_⟩
    have lo : (ns.map oddI).length = ns.length := by simp
    have nD1R : ns.map oddI ≠ [] := fun z => by have := congrArg List.length z; simp at this; exact ok.pos this
    have nRB : D2 ≠ Bs := by
      obtain ⟨ys, g1, _⟩ := la3
      exact ne_of_none g1 nBs
    have lR : (rowsF t0 ts).length = ts.length := by simp [rowsF]
    have rb : ∀ r ∈ rowsF t0 ts, RowB MB ns.length 0 r := rb
    refine for_it (CE.walk_e (xs := (ns.map oddI).map V.int)) (fun c σ Hx => ∃ (R : Addr) (y5 y6 y7 y8 y9 y10 y11 y12 y13 y14 y15 : Option V), σ = [some (.ref t), some (.ref q), some (.ref D1), some (.ref R), some (.ref Bs), y5, y6, y7, y8, y9, y10, y11, y12, y13, y14, y15] ∧ Ex H Hx ∧ IL Hx D1 (ns.map oddI) ∧ LAt Hx Bs ((List.range c).foldl (nextF (ns.map oddI)) ([], rowsF t0 ts)).1 ∧ LAt Hx R ((List.range c).foldl (nextF (ns.map oddI)) ([], rowsF t0 ts)).2 ∧ R ≠ Bs) ⟨D2, _, _, _, _, _, _, _, _, _, _, _, rfl, e04, hod, ⟨_, hBs, .nil⟩, la3.mono eH4, nRB⟩ (fun c σ Hx _ ⟨_, _, _, _, _, _, _, _, _, _, _, _, _, _, h, _⟩ => sqL h) ?_ ?_
    · rintro c x σ H5 H6 hi ⟨R, y5, y6, y7, y8, y9, y10, y11, y12, y13, y14, y15, rfl, e5, ho5, lb5, lr5, nRB5⟩ ⟨Ta, x1, x2, rfl, hT, rfl, hx1, hx2⟩
      cases hx1
      obtain ⟨od, hod1, rfl⟩ := map_get hx2
      have cn : c < ns.length := by
        obtain ⟨h, _⟩ := List.getElem?_eq_some_iff.mp hod1
        rw [lo] at h
        exact h
      have eod : od = vf (ns.map oddI) c := (vf_at hod1).symm
      obtain ⟨sb1, sb2, sb3, sb4⟩ := next_b ob rb c (by omega)
      generalize hst : (List.range c).foldl (nextF (ns.map oddI)) ([], rowsF t0 ts) = st at lb5 lr5 sb1 sb2 sb3 sb4
      have sb4' : st.2.length = ts.length := sb4.trans lR
      have e6 := exn (o := .tup [.int (c : Nat), .int od]) hT
      refine ⟨Ta, _, rfl, SqT.of upd_same, rfl, _, _, rfl, _, _, rfl, rfl, ?_⟩
      have e6H := ext e5 e6
      have ho6 : IL _ D1 (ns.map oddI) := e6 _ _ ho5
      have lb6 := lb5.mono e6
      have lr6 := lr5.mono e6
      generalize upd H5 Ta (.tup [.int (c : Nat), .int od]) = H6 at e6H ho6 lb6 lr6
      -- the pivot
      (repeat (first | refine ⟨rfl, ?_⟩ | refine ⟨_, rfl, ?_⟩ | refine ⟨_, _, rfl, rfl, ?_⟩ | refine ⟨_, _, rfl, ?_⟩ | refine ⟨slen rfl, ?_⟩ | refine ⟨⟨by decide, by decide +kernel⟩, ?_⟩ | refine ⟨⟨by decide, by decide, by decide⟩, ?_⟩ | refine ⟨(by show (0 : Int) < _; first | decide | assumption | omega), ?_⟩ | refine ⟨mul_ok (by first | exact .inr (by decide) | exact .inl (by decide)), ?_⟩))
      refine ⟨t, _, rfl, .inr (SqT.of (e6H _ _ ht)), ?_⟩
      refine ⟨_, rfl, by rw [List.length_map]; omega, by rw [List.length_map]; omega, fun D3 hD3 => ?_⟩
      refine lc_vals walk_range ((unitL (ns.map oddI).length c od).map V.int) (by simp [unitL]) (by rw [List.length_map]; omega) hD3 (fun _ _ => True.intro) ?_ gmono_name ?_
      · rintro j x _ H7 RR hj e7 ⟨rfl, hx⟩ kk
        obtain rfl : x = .int (j : Int) := hx.trans (congrArg V.int (Int.zero_add _))
        have hj2 : j < ns.length := by
          have : j < ((ns.map V.int).length : Int).toNat := hj
          rw [List.length_map] at this
          omega
        refine ⟨rfl, _, rfl, _, rfl, _, rfl, rfl, .inr ⟨_, rfl, _, _, rfl, rfl, mul_ok (.inr (by split <;> decide)), ?_⟩⟩
        refine kk _ _ exr ?_
        unfold unitL
        rw [List.getElem?_map, List.getElem?_map, List.getElem?_range (by rw [lo]; exact hj2)]
        show some (V.int (if j = c then od else 0)) = some (V.int (od * if decide (V.int (j : Int) = V.int (c : Int)) = true then 1 else 0))
        by_cases e : j = c
        · subst e
          simp
        · have : ¬ (j : Int) = (c : Int) := by omega
          simp [e, this]
      intro H7 e7 hD7
      (repeat (first | refine ⟨rfl, ?_⟩ | refine ⟨_, rfl, ?_⟩ | refine ⟨_, _, rfl, rfl, ?_⟩ | refine ⟨_, _, rfl, ?_⟩ | refine ⟨slen rfl, ?_⟩ | refine ⟨⟨by decide, by decide +kernel⟩, ?_⟩ | refine ⟨⟨by decide, by decide, by decide⟩, ?_⟩ | refine ⟨(by show (0 : Int) < _; first | decide | assumption | omega), ?_⟩ | refine ⟨mul_ok (by first | exact .inr (by decide) | exact .inl (by decide)), ?_⟩))
      (intro O nO; generalize hGO : upd _ O _ = H8; have eH8 := exG hGO nO; have hO := atG hGO; clear hGO)
      refine ⟨_, _, rfl, ?_⟩
      have e8 : Ex H6 H8 := ext e7 eH8
      have hp8 : IL H8 D3 (unitL (ns.map oddI).length c (vf (ns.map oddI) c)) := by
        rw [← eod]
        exact eH8 _ _ hD7
      obtain ⟨xr, hR8, rR8⟩ := lr6.mono e8
      have lb8 := lb6.mono e8
      have nOB : O ≠ Bs := by
        obtain ⟨ys, g1, _⟩ := lb6.mono e7
        exact (ne_of_none g1 nO).symm
      have nOR : O ≠ R := by
        obtain ⟨ys, g1, _⟩ := lr6.mono e7
        exact (ne_of_none g1 nO).symm
      have nO0 : H O = none := Evl.fresh_back e6H (Evl.fresh_back e7 nO)
      have lxr := rR8.len
      refine ⟨_, rfl, R, rfl, ⟨_, SqL.of hR8⟩, ?_⟩
      refine for_it (walk_list (xs := xr)) (fun j σ Hx => ∃ (Pa : Addr) (y9 y10 y11 y12 y13 y14 y15 : Option V), σ = [some (.ref t), some (.ref q), some (.ref D1), some (.ref R), some (.ref Bs), some (.int (c : Nat)), some (.int od), some (.ref Pa), some (.ref O), y9, y10, y11, y12, y13, y14, y15] ∧ Ex H Hx ∧ IL Hx D1 (ns.map oddI) ∧ LAt Hx Bs st.1 ∧ Hx R = some (.lst xr) ∧ LRows Hx xr st.2 ∧ IL Hx Pa ((st.2.take j).foldl (pivF c (ns.map oddI)) (unitL (ns.map oddI).length c (vf (ns.map oddI) c), [])).1 ∧ LAt Hx O ((st.2.take j).foldl (pivF c (ns.map oddI)) (unitL (ns.map oddI).length c (vf (ns.map oddI) c), [])).2) ⟨D3, _, _, _, _, _, _, _, rfl, ext e6H e8, e8 _ _ ho6, lb8, hR8, rR8, hp8, ⟨_, hO, .nil⟩⟩ (fun j σ Hx _ ⟨_, _, _, _, _, _, _, _, _, _, _, _, h, _⟩ => SqL.of h) ?_ ?_
      · rintro j x σ _ H9 hj ⟨Pa, y9, y10, y11, y12, y13, y14, y15, rfl, e9, ho9, lb9, hR9, rR9, hp9, lO9⟩ ⟨rfl, hx⟩
        obtain ⟨row, r, hrow, rfl, hr9, nr9⟩ := rR9.get hx
        have rbb := sb3 row (List.mem_of_getElem? hrow)
        obtain ⟨fb1, fb2, fb3⟩ := fold_b ob (st.2.take j) (unitL (ns.map oddI).length c (vf (ns.map oddI) c)) [] (fun r h => sb3 r (List.mem_of_mem_take h)) (unit_b ob cn) (by simp)
        have estep : (st.2.take (j + 1)).foldl (pivF c (ns.map oddI)) (unitL (ns.map oddI).length c (vf (ns.map oddI) c), []) = pivF c (ns.map oddI) ((st.2.take j).foldl (pivF c (ns.map oddI)) (unitL (ns.map oddI).length c (vf (ns.map oddI) c), [])) row := by
          rw [take_more hrow, List.foldl_append]
          rfl
        generalize (st.2.take j).foldl (pivF c (ns.map oddI)) (unitL (ns.map oddI).length c (vf (ns.map oddI) c), []) = pq at hp9 lO9 fb1 fb2 fb3 estep
        obtain ⟨pp, os⟩ := pq
        obtain ⟨l1, l2, _⟩ := comb_len (c := c) fb1.len rbb.len
        refine ⟨_, rfl, _, rfl, _, rfl, Pa, r, c, ns.length, pp, row, rfl, hp9, hr9, fb1.len, rbb.len, n4, cn, EuB.start fb1.small rbb.small, fun tp a2 b2 Ha ea htp ha2 hb2 => ?_⟩
        refine ⟨tp, _, rfl, SqT.of htp, rfl, _, _, rfl, _, _, rfl, rfl, ?_⟩
        obtain ⟨ys, hOa, rOa⟩ := lO9.mono ea
        refine ⟨_, rfl, .inl ⟨rfl, _, SqL.of hOa⟩, _, rfl, _, rfl, _, rfl, b2, D1, c, ns.length, _, _, rfl, hb2, ea _ _ ho9, l2, lo, n4, ob.pos, fun q2 Hb eb nq2 hq2 => ?_⟩
        have nr2 : redF c (ns.map oddI) (combF c pp row).2 ≠ [] := red_ne lo l2 (by omega)
        have eab : Ex H9 Hb := ext ea eb
        have lOb := lO9.mono eab
        obtain ⟨acc, p1, p2, p3⟩ := lrows_push lOb hq2 nr2
        refine ⟨O, _, _, rfl, rfl, p1, ?_, ?_⟩
        · have fb3' : os.length = 0 + (st.2.take j).length := fb3
          rw [p2, fb3', List.length_take]
          exact Nat.lt_of_le_of_lt (show _ ≤ 1000 by rw [List.length_cons] at lt; omega) (by decide)
        have ha2b : IL Hb a2 (combF c pp row).1 := eb _ _ ha2
        have nc1 : (combF c pp row).1 ≠ [] := fun z => by rw [z] at l1; exact absurd l1 (by simp; omega)
        refine ⟨_, rfl, _, rfl, _, rfl, a2, D1, c, ns.length, _, _, rfl, lOb.row ha2b nc1, lOb.row (eab _ _ ho9) nD1R, l1, lo, n4, ob.pos, fun q3 Hc ec nq3 hq3 => ?_⟩
        have hRb : LAt Hb R st.2 := ⟨xr, eab _ _ hR9, rR9.mono eab⟩
        obtain ⟨xr2, hR2, rR2⟩ := lOb.other (zs := acc ++ [.ref q2]) hRb nOR.symm
        obtain rfl : xr2 = xr := by
          have h1 : (upd Hb O (.lst (acc ++ [.ref q2]))) R = some (.lst xr) := by rw [upd_ne nOR.symm]; exact eab _ _ hR9
          rw [h1] at hR2
          injection hR2 with hR2
          injection hR2 with hR2
          exact hR2.symm
        refine ⟨q3, _, _, _, _, _, _, _, rfl, ext (ex_upd (ext e9 eab) nO0) ec, ec _ _ (lOb.row (eab _ _ ho9) nD1R), (lOb.other (lb9.mono eab) nOB.symm).mono ec, ec _ _ hR2, rR2.mono ec, ?_, ?_⟩
        · rw [estep]
          exact hq3
        · rw [estep]
          exact p3.mono ec
      · rintro σ H9 ⟨Pa, y9, y10, y11, y12, y13, y14, y15, rfl, e9, ho9, lb9, hR9, rR9, hp9, lO9⟩
        rw [lxr, List.take_length] at hp9 lO9
        obtain ⟨cb1, cb2, cb3⟩ := col_b ob cn sb3
        have hp : IL H9 Pa (colF (ns.map oddI) c st.2).1 := hp9
        have lO : LAt H9 O (colF (ns.map oddI) c st.2).2 := lO9
        clear hp9 lO9
        have enext : (List.range (c + 1)).foldl (nextF (ns.map oddI)) ([], rowsF t0 ts) = (st.1 ++ [posF c (colF (ns.map oddI) c st.2).1], (colF (ns.map oddI) c st.2).2) := by
          rw [List.range_succ, List.foldl_append, hst]
          rfl
        obtain ⟨zs, hB9, rB9⟩ := id lb9
        have fin : ∀ (u : Addr) (Hx : Hp) (y9 y10 y11 y12 y13 y14 y15 : Option V), Ex H9 Hx → IL Hx u (posF c (colF (ns.map oddI) c st.2).1) → ∃ acc, Hx Bs = some (.lst acc) ∧ acc.length < sizeLine ∧ Ex H (upd Hx Bs (.lst (acc ++ [.ref u]))) ∧ IL (upd Hx Bs (.lst (acc ++ [.ref u]))) D1 (ns.map oddI) ∧ LAt (upd Hx Bs (.lst (acc ++ [.ref u]))) Bs ((List.range (c + 1)).foldl (nextF (ns.map oddI)) ([], rowsF t0 ts)).1 ∧ LAt (upd Hx Bs (.lst (acc ++ [.ref u]))) O ((List.range (c + 1)).foldl (nextF (ns.map oddI)) ([], rowsF t0 ts)).2 := fun u Hx _ _ _ _ _ _ _ ex hu => by
          have np : posF c (colF (ns.map oddI) c st.2).1 ≠ [] := fun z => by
            have := congrArg List.length z
            rw [pos_len, cb1.len] at this
            have this2 : ns.length = 0 := this
            omega
          have lbx := lb9.mono ex
          obtain ⟨acc, p1, p2, p3⟩ := lrows_push lbx hu np
          refine ⟨acc, p1, ?_, ex_upd (ext e9 ex) nB0, lbx.row (ex _ _ ho9) nD1R, ?_, ?_⟩
          · rw [p2, sb1]
            exact Nat.lt_of_le_of_lt (show c ≤ 4 by omega) (by decide)
          · rw [enext]
            exact p3
          · rw [enext]
            exact lbx.other (lO.mono ex) nOB
        refine ⟨_, rfl, .inl ⟨rfl, _, SqL.of hB9⟩, ?_⟩
        refine ⟨_, rfl, _, rfl, Pa, _, _, _, rfl, rfl, SqL.of hp, atI_vf (by rw [cb1.len]; exact cn), _, _, rfl, rfl, _, rfl, ?_⟩
        by_cases hpos : 0 < vf (colF (ns.map oddI) c st.2).1 c
        · refine itt (decide_eq_true hpos) ?_
          have epos : posF c (colF (ns.map oddI) c st.2).1 = (colF (ns.map oddI) c st.2).1 := by unfold posF; rw [if_pos hpos]
          rw [← epos] at hp
          obtain ⟨acc, q1, q2, q3, q4, q5, q6⟩ := fin Pa H9 none none none none none none none exr hp
          exact ⟨_, rfl, Bs, _, _, rfl, rfl, q1, q2, _, rfl, O, _, _, _, _, _, _, _, _, _, _, _, rfl, q3, q4, q5, q6, nOB⟩
        · refine itf (decide_eq_false hpos) ?_
          have epos : posF c (colF (ns.map oddI) c st.2).1 = (colF (ns.map oddI) c st.2).1.map fun x => -x := by unfold posF; rw [if_neg hpos]
          refine ⟨_, rfl, Pa, rfl, ⟨_, SqL.of hp⟩, fun D4 hD4 => ?_⟩
          refine lc_vals (walk_list (xs := (colF (ns.map oddI) c st.2).1.map V.int)) ((posF c (colF (ns.map oddI) c st.2).1).map V.int) (by rw [List.length_map, List.length_map, pos_len]) (by rw [List.length_map, cb1.len]; omega) hD4 (fun H3 e => SqL.of (e _ _ hp)) ?_ gmono_name ?_
          · rintro j x _ Ha RR hj ea ⟨rfl, hx⟩ kk
            obtain ⟨z, hz, rfl⟩ := map_get hx
            refine ⟨rfl, _, rfl, _, rfl, kk _ _ exr ?_⟩
            rw [epos, List.getElem?_map, List.getElem?_map, hz]
            rfl
          · intro Ha ea hDa
            obtain ⟨acc, q1, q2, q3, q4, q5, q6⟩ := fin D4 Ha none none none none none none none ea hDa
            exact ⟨Bs, _, _, rfl, rfl, q1, q2, _, rfl, O, _, _, _, _, _, _, _, _, _, _, _, rfl, q3, q4, q5, q6, nOB⟩
    · rintro σ H5 ⟨R, y5, y6, y7, y8, y9, y10, y11, y12, y13, y14, y15, rfl, e5, ho5, lb5, lr5, nRB5⟩
      rw [List.length_map, lo] at lb5
      refine ⟨_, rfl, k Bs H5 e5 nB0 ?_⟩
      show LAt H5 Bs (basisF (ns.map oddI) (rowsF t0 ts))
      unfold basisF
      rw [lo]
      exact lb5
end

theorem lget {rows : List (List Int)} {i : Nat} {r : List Int} (h : rows[i]? = some r) : rows.getD i [] = r := by rw [List.getD_eq_getElem?_getD, h]; rfl
def dpre (B : List (List Int)) : Nat → Int
  | 0 => 1
  | k + 1 => dpre B k * vf (B.getD k []) k
theorem dpre_all (B : List (List Int)) : ∀ k, k ≤ B.length → dpre B k * diagP k (B.drop k) = diagP 0 B
  | 0, _ => by rw [List.drop_zero]; show 1 * _ = _; rw [Int.one_mul]
  | k + 1, h => by
    have hd : B.drop k = B[k]'(by omega) :: B.drop (k + 1) := List.drop_eq_getElem_cons (by omega)
    have ih := dpre_all B k (by omega)
    rw [hd] at ih
    rw [← ih]
    show dpre B k * vf (B.getD k []) k * _ = dpre B k * (vf (B[k]'(by omega)) k * _)
    rw [lget (List.getElem?_eq_getElem (show k < B.length by omega)), Int.mul_assoc]
theorem dpre_full (B : List (List Int)) : dpre B B.length = diagP 0 B := by
  have := dpre_all B B.length (Nat.le_refl _)
  rw [List.drop_length] at this
  show dpre B B.length = _
  rw [← this]
  show _ = _ * 1
  rw [Int.mul_one]
theorem dpre_small {B : List (List Int)} {n : Nat} (hb : ∀ r ∈ B, RowB MB n 0 r) : ∀ k, (dpre B k).natAbs < 2 ^ (1 + 270 * k)
  | 0 => by show (1 : Int).natAbs < 2 ^ 1; decide
  | k + 1 => by
    show (dpre B k * vf (B.getD k []) k).natAbs < _
    have h1 := dpre_small hb k
    have h2 : (vf (B.getD k []) k).natAbs < 2 ^ 270 := by
      by_cases hk : k < B.length
      · rw [lget (List.getElem?_eq_getElem hk)]
        exact (hb _ (List.getElem_mem hk)).small k
      · rw [List.getD_eq_getElem?_getD, List.getElem?_eq_none (by omega)]
        show (vf [] k).natAbs < _
        rw [vf_nil]
        exact Nat.pos_of_neZero _
    have := wide_lt h1 h2
    rw [show 1 + 270 * (k + 1) = 1 + 270 * k + 270 by omega]
    exact this
/-- one step of an elimination stays small -/
theorem axpy_small {a : Nat} {q : Int} {v b : List Int} (l : v.length = b.length) (hv : ∀ j, (vf v j).natAbs < 2 ^ a) (hq : q.natAbs < 2 ^ a) (hb : ∀ j, (vf b j).natAbs < 2 ^ 270) (j : Nat) : (vf (axpy q v b) j).natAbs < 2 ^ (a + 271) := by
  rw [axpy_vf l]
  show (vf v j - q * vf b j).natAbs < _
  have h1 := wide_lt hq (hb j)
  have h2 := hv j
  have h3 : (2 : Nat) ^ (a + 271) = 2 ^ (a + 270) + 2 ^ (a + 270) := by
    rw [show a + 271 = a + 270 + 1 from rfl, Nat.pow_succ]
    omega
  have h4 : (2 : Nat) ^ a ≤ 2 ^ (a + 270) := Nat.pow_le_pow_right (by decide) (by omega)
  omega
theorem div_small {x y : Int} {a : Nat} (h : x.natAbs < 2 ^ a) (hy : 0 < y) : (x / y).natAbs < 2 ^ a := by
  refine Nat.lt_of_le_of_lt ?_ h
  have h1 := Int.mul_ediv_add_emod x y
  have h2 := Int.emod_nonneg x (show y ≠ 0 by omega)
  have h3 := Int.emod_lt_of_pos x hy
  rcases Int.lt_or_le x 0 with hx | hx
  · have h4 : x / y < 0 := Int.ediv_neg_of_neg_of_pos hx hy
    have h5 : x ≤ x / y := by
      have : y * (x / y) ≤ 1 * (x / y) := Int.mul_le_mul_of_nonpos_right (by omega) (by omega)
      have h6 : x - y < y * (x / y) := by omega
      have h7 : y * (x / y + 1) = y * (x / y) + y := by rw [Int.mul_add, Int.mul_one]
      rcases Int.lt_or_le (x / y) x with z | z
      · exfalso
        have h8 : x / y + 1 ≤ x := by omega
        have h9 : y * (x / y + 1) ≤ 1 * (x / y + 1) := Int.mul_le_mul_of_nonpos_right (by omega) (by omega)
        omega
      · exact z
    omega
  · have h4 : 0 ≤ x / y := Int.ediv_nonneg hx (by omega)
    have h5 : x / y ≤ x := Int.ediv_le_self y hx
    omega
theorem free_cons (i : Nat) (b : List Int) (B : List (List Int)) (v : List Int) : freeF i (b :: B) v = if vf v i % vf b i ≠ 0 then false else freeF (i + 1) B (axpy (vf v i / vf b i) v b) := rfl
section
variable {P : Program} {w : World} {K : PySem.W.Frag} {mg : Str → Option Value} {base : Heap}
def sp_diagonal_product : Sp := fun vs H Q _ => ∃ (D : Addr) (B : List (List Int)) (n : Nat), vs = [.ref D] ∧ LAt H D B ∧ B.length = n ∧ n ≤ 4 ∧ (∀ r ∈ B, RowB MB n 0 r) ∧ ∀ H2, Ex H H2 → Q (.int (diagP 0 B)) H2
theorem ok_diagonal_product (T : TX K mg) : FnOk P w K mg base CX0 1 T.f_diagonal_product T.fd_diagonal_product ["basis"] sp_diagonal_product := by
  refine T.F_diagonal_product.ok sc_diagonal_product (fun vs H Q E h => ?_) (fun cdv A outer s H vs Q E hr h => ?_)
  · obtain ⟨D, B, n, rfl, _⟩ := h
    rfl
  · obtain ⟨D, B, n, rfl, ⟨xs, hD, rr⟩, lB, n4, hb, k⟩ := h
    refine ⟨_, (pss_cons (ps_set (i := 1) sc_diagonal_product.nd rfl (Or.inl rfl) pe_int) (pss_cons (ps_for PassesOwn.never rfl (CE.pi_e rfl T.z_enumerate (pa_cons (pv 0) pa_nil)) (pg_tup rfl (pgs_cons (pg_name (i := 2) sc_diagonal_product.nd rfl (Or.inl rfl)) (pgs_cons (pg_name (i := 3) sc_diagonal_product.nd rfl (Or.inl rfl)) pgs_nil))) (pss_one (ps_set (i := 1) sc_diagonal_product.nd rfl (Or.inl rfl) (pe_op op_mulI (pv 1) (pe_ix ix_list (pv 3) (pv 2) (fun _ _ => rfl)))))) (pss_one (ps_ret (pv 1))))), ?_⟩
    have lx := rr.len
    refine ⟨_, rfl, (false, D), rfl, ⟨_, sqL hD⟩, ?_⟩
    refine for_it (CE.walk_e (xs := xs)) (fun i σ H3 => (∃ (y2 y3 : Option V), σ = [some (.ref D), some (.int (dpre B i)), y2, y3]) ∧ Ex H H3) ⟨⟨_, _, rfl⟩, exr⟩ (fun i σ H2 _ ⟨_, e⟩ => sqL (e _ _ hD)) ?_ ?_
    · rintro i x σ H3 H4 hi ⟨⟨y2, y3, rfl⟩, e3⟩ ⟨Ta, x1, x2, rfl, hT, rfl, hx1, hx2⟩
      cases hx1
      obtain ⟨hs, r, hhs, rfl, hr0, _⟩ := rr.get hx2
      have e4 : Ex H (upd H3 Ta (.tup [.int (i : Nat), .ref r])) := ext e3 (exn hT)
      have lh := (hb hs (List.mem_of_getElem? hhs)).len
      refine ⟨Ta, _, rfl, SqT.of upd_same, rfl, _, _, rfl, _, _, rfl, rfl, ?_⟩
      refine ⟨_, rfl, _, rfl, _, rfl, r, _, _, _, rfl, rfl, SqL.of (e4 _ _ hr0), atI_vf (by omega), _, _, rfl, rfl, ?_, ?_⟩
      · have h1 := dpre_small hb i
        have h2 : (vf hs i).natAbs < 2 ^ 270 := (hb hs (List.mem_of_getElem? hhs)).small i
        exact (wide_mul h1 h2 (by omega) (by decide) (by omega)).ok
      · refine ⟨⟨some (.int (i : Nat)), some (.ref r), ?_⟩, e4⟩
        show _ = [some (V.ref D), some (V.int (dpre B i * vf (B.getD i []) i)), _, _]
        rw [lget hhs]
        rfl
    · rintro σ H3 ⟨⟨y2, y3, rfl⟩, e3⟩
      refine ⟨_, rfl, ?_⟩
      rw [lx, dpre_full]
      exact k _ e3
def sp_is_free : Sp := fun vs H Q _ => ∃ (D V0 : Addr) (B : List (List Int)) (v : List Int) (n : Nat), vs = [.ref D, .ref V0] ∧ LAt H D B ∧ B.length = n ∧ n ≤ 4 ∧ Tri n B ∧ (∀ r ∈ B, RowB MB n 0 r) ∧ IL H V0 v ∧ v.length = n ∧ (∀ j, (vf v j).natAbs < 2 ^ 271) ∧ ∀ H2, Ex H H2 → Q (.bl (freeF 0 B v)) H2
theorem ok_is_free (T : TX K mg) : FnOk P w K mg base CX0 1 T.f_is_free T.fd_is_free ["basis", "vector"] sp_is_free := by
  refine T.F_is_free.ok sc_is_free (fun vs H Q E h => ?_) (fun cdv A outer s H vs Q E hr h => ?_)
  · obtain ⟨D, V0, B, v, n, rfl, _⟩ := h
    rfl
  · obtain ⟨D, V0, B, v, n, rfl, ⟨xs, hD, rr⟩, lB, n4, tri, hb, hv, lv, sv, k⟩ := h
    refine ⟨_, (pss_cons (ps_for PassesOwn.never rfl (CE.pi_e rfl T.z_enumerate (pa_cons (pv 0) pa_nil)) (pg_tup rfl (pgs_cons (pg_name (i := 2) sc_is_free.nd rfl (Or.inl rfl)) (pgs_cons (pg_name (i := 3) sc_is_free.nd rfl (Or.inl rfl)) pgs_nil))) (pss_cons (ps_if (pt_cmpR op_ne (pe_op op_mod (pe_ix ix_list (pv 1) (pv 2) (fun _ _ => rfl)) (pe_ix ix_list (pv 3) (pv 2) (fun _ _ => rfl))) pe_int (nomark _)) (pss_one (ps_ret pe_bl)) pss_nil) (pss_cons (ps_set (i := 4) sc_is_free.nd rfl (Or.inr rfl) (pe_op op_fdivW (pe_ix ix_list (pv 1) (pv 2) (fun _ _ => rfl)) (pe_ix ix_list (pv 3) (pv 2) (fun _ _ => rfl)))) (pss_one (ps_setLc (own := [("one", 5), ("other", 6)]) (g := (gTup K 2 (gCons (gName 5) (gCons (gName 6) gNil)))) (i := 1) rfl sc_is_free.nd rfl rfl (sw_true rfl rfl rfl (by decide +kernel)) (CZ.pi_z2s (fl := [false, false]) rfl (by rfl) T.z_zip (pa_cons (pv 1) (pa_cons (pv 3) pa_nil))) (blkOk_by (N := N_is_free) (sc := defScope s_is_free) (by decide +kernel)) (fun _ _ _ _ _ => (pg_tup rfl (pgs_cons (pg_name (i := 5) sc_is_free.nd rfl (Or.inl rfl)) (pgs_cons (pg_name (i := 6) sc_is_free.nd rfl (Or.inl rfl)) pgs_nil)))) (fun _ _ _ _ _ => pts_nil) (fun _ _ _ _ _ => (pe_op op_sub (pv 5) (pe_op op_mulI (pv 4) (pv 6))))))))) (pss_one (ps_ret pe_bl))), ?_⟩
    have lx := rr.len
    refine ⟨_, rfl, (false, D), rfl, ⟨_, sqL hD⟩, ?_⟩
    refine for_it (CE.walk_e (xs := xs)) (fun i σ H3 => ∃ (V1 : Addr) (u : List Int) (y2 y3 y4 y5 y6 : Option V), σ = [some (.ref D), some (.ref V1), y2, y3, y4, y5, y6] ∧ Ex H H3 ∧ IL H3 V1 u ∧ u.length = n ∧ (∀ j, (vf u j).natAbs < 2 ^ (271 * (i + 1))) ∧ freeF i (B.drop i) u = freeF 0 B v) ⟨V0, v, _, _, _, _, _, rfl, exr, hv, lv, sv, rfl⟩ (fun i σ H2 _ ⟨_, _, _, _, _, _, _, _, e, _⟩ => sqL (e _ _ hD)) ?_ ?_
    · rintro i x σ H3 H4 hi ⟨V1, u, y2, y3, y4, y5, y6, rfl, e3, hu, lu, su, ef⟩ ⟨Ta, x1, x2, rfl, hT, rfl, hx1, hx2⟩
      cases hx1
      obtain ⟨hs, r, hhs, rfl, hr0, _⟩ := rr.get hx2
      have hib : i < B.length := by
        rw [← lx]
        exact hi
      have e4 : Ex H (upd H3 Ta (.tup [.int (i : Nat), .ref r])) := ext e3 (exn hT)
      have hu4 : IL (upd H3 Ta (.tup [.int (i : Nat), .ref r])) V1 u := exn hT _ _ hu
      have rbb := hb hs (List.mem_of_getElem? hhs)
      have lh := rbb.len
      have pos := (tri i hs hhs).2.2
      have hd : B.drop i = hs :: B.drop (i + 1) := by
        rw [List.drop_eq_getElem_cons hib]
        congr 1
        exact Option.some.inj ((List.getElem?_eq_getElem hib).symm.trans hhs)
      rw [hd] at ef
      rw [free_cons] at ef
      have hr4 := e4 _ _ hr0
      refine ⟨Ta, _, rfl, SqT.of upd_same, rfl, _, _, rfl, _, _, rfl, rfl, ?_⟩
      generalize upd H3 Ta (.tup [.int (i : Nat), .ref r]) = H4 at e4 hu4 hr4
      refine ⟨_, rfl, _, rfl, V1, _, _, _, rfl, rfl, SqL.of hu4, atI_vf (by omega), _, rfl, _, rfl, r, _, _, _, rfl, rfl, SqL.of hr4, atI_vf (by omega), _, _, rfl, rfl, pos, rfl, _, rfl, ?_⟩
      by_cases hm : vf u i % vf hs i ≠ 0
      · rw [if_pos hm] at ef
        refine itt (by simp [hm]) ?_
        rw [← ef] at k
        exact k _ e4
      · rw [if_neg hm] at ef
        refine itf (by simpa using hm) ?_
        have sb : (vf hs i).natAbs < 2 ^ 270 := rbb.small i
        refine ⟨_, rfl, _, rfl, V1, _, _, _, rfl, rfl, SqL.of hu4, atI_vf (by omega), _, rfl, _, rfl, r, _, _, _, rfl, rfl, SqL.of hr4, atI_vf (by omega), _, _, rfl, rfl, wide_div pos sb (by decide) (by decide), ?_⟩
        have qs : (vf u i / vf hs i).natAbs < 2 ^ (271 * (i + 1)) := div_small (su i) pos
        have nxs := axpy_small (q := vf u i / vf hs i) (v := u) (b := hs) (by omega) su qs rbb.small
        dsimp only
        generalize vf u i / vf hs i = fq at ef qs nxs
        refine ⟨_, rfl, _, rfl, [V1, r], rfl, rfl, all2 (sqL hu4) (sqL hr4), fun D2 hD2 => ?_⟩
        have la : (axpy fq u hs).length = n := by rw [axpy_len (by omega), lh]
        refine lc_vals (CZ.walk_rows (xss := [u.map V.int, hs.map V.int]) (n := n) (lens2 (by rw [List.length_map, lu]) (by rw [List.length_map, lh]))) ((axpy fq u hs).map V.int) (by rw [List.length_map, la]) (by omega) hD2 (fun H3 e => .cons (sqL (e _ _ hu4)) (.cons (sqL (e _ _ hr4)) .nil)) ?_ (gmono_tup (gmono_cons gmono_name (gmono_cons gmono_name gmono_nil))) ?_
        · intro j y H5 H6 R hj e yy kk
          obtain ⟨Tb, p, d, rfl, hTb, rfl, hp, hdd⟩ := yints2 yy
          have db : d.natAbs < 2 ^ 270 := by
            rw [← vf_at hdd]
            exact rbb.small j
          refine ⟨Tb, _, rfl, SqT.of upd_same, rfl, _, _, rfl, _, _, rfl, rfl, ?_⟩
          refine ⟨rfl, _, rfl, _, rfl, _, rfl, _, _, rfl, rfl, (wide_mul qs db (by omega) (by decide) (by omega)).ok, _, _, rfl, rfl, ?_⟩
          refine kk _ _ (exn hTb) ?_
          rw [List.getElem?_map]
          unfold axpy
          rw [List.getElem?_zipWith, hp, hdd]
          rfl
        · intro H5 e5 hD5
          exact ⟨D2, axpy fq u hs, _, _, _, _, _, rfl, ext e4 e5, hD5, la, fun j => by have := nxs j; rwa [show 271 * (i + 1) + 271 = 271 * (i + 1 + 1) by omega] at this, ef⟩
    · rintro σ H3 ⟨V1, u, y2, y3, y4, y5, y6, rfl, e3, hu, lu, su, ef⟩
      rw [lx, List.drop_length] at ef
      have : freeF 0 B v = true := ef.symm
      rw [this] at k
      exact k _ e3
end

theorem coord_cons (i : Nat) (b : List Int) (B : List (List Int)) (v : List Int) : coordF i (b :: B) v = vf v i / vf b i :: coordF (i + 1) B (axpy (vf v i / vf b i) v b) := rfl
/-- Σ w * x -/
def wsum (ws xs : List Int) : Int := (List.zipWith (fun w x => w * x) ws xs).sum
section
variable {P : Program} {w : World} {K : PySem.W.Frag} {mg : Str → Option Value} {base : Heap}
def sp_coordinates : Sp := fun vs H Q _ => ∃ (D V0 : Addr) (B : List (List Int)) (v : List Int) (n : Nat), vs = [.ref D, .ref V0] ∧ LAt H D B ∧ B.length = n ∧ n ≤ 4 ∧ Tri n B ∧ (∀ r ∈ B, RowB MB n 0 r) ∧ IL H V0 v ∧ v.length = n ∧ (∀ j, (vf v j).natAbs < 2 ^ 1100) ∧ ∀ q H2, Ex H H2 → H q = none → IL H2 q (coordF 0 B v) → Q (.ref q) H2
theorem ok_coordinates (T : TX K mg) : FnOk P w K mg base CX0 1 T.f_coordinates T.fd_coordinates ["basis", "vector"] sp_coordinates := by
  refine T.F_coordinates.ok sc_coordinates (fun vs H Q E h => ?_) (fun cdv A outer s H vs Q E hr h => ?_)
  · obtain ⟨D, V0, B, v, n, rfl, _⟩ := h
    rfl
  · obtain ⟨D, V0, B, v, n, rfl, ⟨xs, hD, rr⟩, lB, n4, tri, hb, hv, lv, sv, k⟩ := h
    refine ⟨_, (pss_cons (ps_set (i := 2) sc_coordinates.nd rfl (Or.inl rfl) (pe_lst pa_nil)) (pss_cons (ps_for PassesOwn.never rfl (CE.pi_e rfl T.z_enumerate (pa_cons (pv 0) pa_nil)) (pg_tup rfl (pgs_cons (pg_name (i := 3) sc_coordinates.nd rfl (Or.inl rfl)) (pgs_cons (pg_name (i := 4) sc_coordinates.nd rfl (Or.inl rfl)) pgs_nil))) (pss_cons (ps_set (i := 5) sc_coordinates.nd rfl (Or.inr rfl) (pe_op op_fdivW (pe_ix ix_list (pv 1) (pv 3) (fun _ _ => rfl)) (pe_ix ix_list (pv 4) (pv 3) (fun _ _ => rfl)))) (pss_cons (ps_expr (pe_bm PySem.F.plainAttrs_list PySem.F.slot_list_append PySem.F.type_list_append mt_append (pv 2) (pa_cons (pv 5) pa_nil))) (pss_one (ps_setLc (own := [("one", 6), ("other", 7)]) (g := (gTup K 2 (gCons (gName 6) (gCons (gName 7) gNil)))) (i := 1) rfl sc_coordinates.nd rfl rfl (sw_true rfl rfl rfl (by decide +kernel)) (CZ.pi_z2s (fl := [false, false]) rfl (by rfl) T.z_zip (pa_cons (pv 1) (pa_cons (pv 4) pa_nil))) (blkOk_by (N := N_coordinates) (sc := defScope s_coordinates) (by decide +kernel)) (fun _ _ _ _ _ => (pg_tup rfl (pgs_cons (pg_name (i := 6) sc_coordinates.nd rfl (Or.inl rfl)) (pgs_cons (pg_name (i := 7) sc_coordinates.nd rfl (Or.inl rfl)) pgs_nil)))) (fun _ _ _ _ _ => pts_nil) (fun _ _ _ _ _ => (pe_op op_sub (pv 6) (pe_op op_mulI (pv 5) (pv 7))))))))) (pss_one (ps_ret (pv 2))))), ?_⟩
    have lx := rr.len
    (repeat (first | refine ⟨rfl, ?_⟩ | refine ⟨_, rfl, ?_⟩ | refine ⟨_, _, rfl, rfl, ?_⟩ | refine ⟨_, _, rfl, ?_⟩ | refine ⟨slen rfl, ?_⟩ | refine ⟨⟨by decide, by decide +kernel⟩, ?_⟩ | refine ⟨⟨by decide, by decide, by decide⟩, ?_⟩ | refine ⟨(by show (0 : Int) < _; first | decide | assumption | omega), ?_⟩ | refine ⟨mul_ok (by first | exact .inr (by decide) | exact .inl (by decide)), ?_⟩))
    (intro F nF; generalize hGF : upd _ F _ = H1; have eH1 := exG hGF nF; have hF := atG hGF; clear hGF)
    have nFD : D ≠ F := ne_of_none hD nF
    refine ⟨_, rfl, (false, D), rfl, ⟨_, sqL (eH1 _ _ hD)⟩, ?_⟩
    refine for_it (CE.walk_e (xs := xs)) (fun i σ H3 => ∃ (V1 : Addr) (u fs : List Int) (y3 y4 y5 y6 y7 : Option V), σ = [some (.ref D), some (.ref V1), some (.ref F), y3, y4, y5, y6, y7] ∧ Ex H H3 ∧ IL H3 V1 u ∧ V1 ≠ F ∧ u.length = n ∧ (∀ j, (vf u j).natAbs < 2 ^ (1100 + 271 * i)) ∧ IL H3 F fs ∧ fs.length = i ∧ fs ++ coordF i (B.drop i) u = coordF 0 B v) ⟨V0, v, [], _, _, _, _, _, rfl, eH1, eH1 _ _ hv, ne_of_none hv nF, lv, sv, hF, rfl, rfl⟩ (fun i σ H2 _ ⟨_, _, _, _, _, _, _, _, _, e, _⟩ => sqL (e _ _ hD)) ?_ ?_
    · rintro i x σ H3 H4 hi ⟨V1, u, fs, y3, y4, y5, y6, y7, rfl, e3, hu, nVF, lu, su, hF3, lfs, ef⟩ ⟨Ta, x1, x2, rfl, hT, rfl, hx1, hx2⟩
      cases hx1
      obtain ⟨hs, r, hhs, rfl, hr0, _⟩ := rr.get hx2
      have hib : i < B.length := by
        rw [← lx]
        exact hi
      have e4 : Ex H (upd H3 Ta (.tup [.int (i : Nat), .ref r])) := ext e3 (exn hT)
      have hu4 : IL (upd H3 Ta (.tup [.int (i : Nat), .ref r])) V1 u := exn hT _ _ hu
      have hF4 : IL (upd H3 Ta (.tup [.int (i : Nat), .ref r])) F fs := exn hT _ _ hF3
      have rbb := hb hs (List.mem_of_getElem? hhs)
      have lh := rbb.len
      have pos := (tri i hs hhs).2.2
      have hd : B.drop i = hs :: B.drop (i + 1) := by
        rw [List.drop_eq_getElem_cons hib]
        congr 1
        exact Option.some.inj ((List.getElem?_eq_getElem hib).symm.trans hhs)
      rw [hd, coord_cons] at ef
      have hr4 := e4 _ _ hr0
      refine ⟨Ta, _, rfl, SqT.of upd_same, rfl, _, _, rfl, _, _, rfl, rfl, ?_⟩
      generalize upd H3 Ta (.tup [.int (i : Nat), .ref r]) = H4 at e4 hu4 hr4 hF4
      have sb : (vf hs i).natAbs < 2 ^ 270 := rbb.small i
      refine ⟨_, rfl, _, rfl, V1, _, _, _, rfl, rfl, SqL.of hu4, atI_vf (by omega), _, rfl, _, rfl, r, _, _, _, rfl, rfl, SqL.of hr4, atI_vf (by omega), _, _, rfl, rfl, wide_div pos sb (by decide) (by decide), ?_⟩
      have qs : (vf u i / vf hs i).natAbs < 2 ^ (1100 + 271 * i) := div_small (su i) pos
      have nxs := axpy_small (q := vf u i / vf hs i) (v := u) (b := hs) (by omega) su qs rbb.small
      dsimp only
      generalize vf u i / vf hs i = fq at ef qs nxs
      refine ⟨_, rfl, .inl ⟨rfl, _, SqL.of hF4⟩, _, rfl, F, _, _, rfl, rfl, hF4, ?_, ?_⟩
      · rw [List.length_map, lfs]
        exact Nat.lt_of_le_of_lt (show i ≤ 4 by omega) (by decide)
      have e5 : Ex H (upd H4 F (.lst (fs.map V.int ++ [.int fq]))) := ex_upd e4 nF
      have hF5 : IL (upd H4 F (.lst (fs.map V.int ++ [.int fq]))) F (fs ++ [fq]) := by
        show upd H4 F _ F = _
        rw [upd_same, List.map_append]
        rfl
      have hu5 : IL (upd H4 F (.lst (fs.map V.int ++ [.int fq]))) V1 u := by
        show upd H4 F _ V1 = _
        rw [upd_ne nVF]
        exact hu4
      have hr5 := e5 _ _ hr0
      generalize upd H4 F (.lst (fs.map V.int ++ [.int fq])) = H5 at e5 hF5 hu5 hr5
      refine ⟨_, rfl, _, rfl, [V1, r], rfl, rfl, all2 (sqL hu5) (sqL hr5), fun D2 hD2 => ?_⟩
      have la : (axpy fq u hs).length = n := by rw [axpy_len (by omega), lh]
      refine lc_vals (CZ.walk_rows (xss := [u.map V.int, hs.map V.int]) (n := n) (lens2 (by rw [List.length_map, lu]) (by rw [List.length_map, lh]))) ((axpy fq u hs).map V.int) (by rw [List.length_map, la]) (by omega) hD2 (fun H3 e => .cons (sqL (e _ _ hu5)) (.cons (sqL (e _ _ hr5)) .nil)) ?_ (gmono_tup (gmono_cons gmono_name (gmono_cons gmono_name gmono_nil))) ?_
      · intro j y H6 H7 R hj e yy kk
        obtain ⟨Tb, p, d, rfl, hTb, rfl, hp, hdd⟩ := yints2 yy
        have db : d.natAbs < 2 ^ 270 := by
          rw [← vf_at hdd]
          exact rbb.small j
        refine ⟨Tb, _, rfl, SqT.of upd_same, rfl, _, _, rfl, _, _, rfl, rfl, ?_⟩
        refine ⟨rfl, _, rfl, _, rfl, _, rfl, _, _, rfl, rfl, (wide_mul qs db (by omega) (by decide) (by omega)).ok, _, _, rfl, rfl, ?_⟩
        refine kk _ _ (exn hTb) ?_
        rw [List.getElem?_map]
        unfold axpy
        rw [List.getElem?_zipWith, hp, hdd]
        rfl
      · intro H6 e6 hD6
        refine ⟨D2, axpy fq u hs, fs ++ [fq], _, _, _, _, _, rfl, ext e5 e6, hD6, (ne_of_none hF5 hD2).symm, la, fun j => ?_, e6 _ _ hF5, by rw [List.length_append, lfs]; rfl, ?_⟩
        · have := nxs j
          rwa [show 1100 + 271 * i + 271 = 1100 + 271 * (i + 1) by omega] at this
        · rw [List.append_assoc]
          exact ef
    · rintro σ H3 ⟨V1, u, fs, y3, y4, y5, y6, y7, rfl, e3, hu, nVF, lu, su, hF3, lfs, ef⟩
      rw [lx, List.drop_length] at ef
      have ef2 : fs = coordF 0 B v := by rw [← ef]; show fs = fs ++ []; rw [List.append_nil]
      rw [ef2] at hF3
      exact ⟨_, rfl, k F _ e3 nF hF3⟩
def sp_weighted : Sp := fun vs H Q _ => ∃ (m : Int) (a b : Addr) (ws ps : List Int), vs = [.int m, .ref a, .ref b] ∧ 0 < m ∧ H a = some (.tup (ws.map V.int)) ∧ H b = some (.tup (ps.map V.int)) ∧ ws.length = ps.length ∧ ps.length ≤ 4 ∧ (∀ w ∈ ws, w.natAbs < 2 ^ 5000) ∧ (∀ p ∈ ps, p.natAbs < 2 ^ 5000) ∧ ∀ H2, Ex H H2 → Q (.int (wsum ws ps % m)) H2
theorem ok_weighted (T : TX K mg) : FnOk P w K mg base CX0 1 T.f_weighted T.fd_weighted ["modulus", "weights", "seat"] sp_weighted := by
  refine T.F_weighted.ok sc_weighted (fun vs H Q E h => ?_) (fun cdv A outer s H vs Q E hr h => ?_)
  · obtain ⟨m, a, b, ws, ps, rfl, _⟩ := h
    rfl
  · obtain ⟨m, a, b, ws, ps, rfl, m0, ha, hb, l, l4, bw, bp, k⟩ := h
    refine ⟨_, (pss_one (ps_ret (pe_op op_mod (pe_callB (cr_sum rfl) (by rfl) T.z_sum (by decide +kernel) (pa_cons (pe_lc (own := [("weight", 3), ("place", 4)]) (g := (gTup K 2 (gCons (gName 3) (gCons (gName 4) gNil)))) rfl sc_weighted.nd (CZ.pi_z2s (fl := [true, true]) rfl (by rfl) T.z_zip (pa_cons (pv 1) (pa_cons (pv 2) pa_nil))) (blkOk_by (N := N_weighted) (sc := defScope s_weighted) (by decide +kernel)) (fun _ _ _ _ _ => (pg_tup rfl (pgs_cons (pg_name (i := 3) sc_weighted.nd rfl (Or.inl rfl)) (pgs_cons (pg_name (i := 4) sc_weighted.nd rfl (Or.inl rfl)) pgs_nil)))) (fun _ _ _ _ _ => pts_nil) (fun _ _ _ _ _ => (pe_op op_mulI (pv 3) (pv 4)))) pa_nil)) (pv 0)))), ?_⟩
    refine ⟨_, rfl, _, rfl, [a, b], rfl, rfl, all2 (sqT ha) (sqT hb), fun D hD => ?_⟩
    refine lc_vals (CZ.walk_rows (xss := [ws.map V.int, ps.map V.int]) (n := ps.length) (lens2 (by rw [List.length_map, l]) (by rw [List.length_map]))) ((List.zipWith (fun w x => w * x) ws ps).map V.int) (by rw [List.length_map, List.length_zipWith, l, Nat.min_self]) (by omega) hD (fun H3 e => .cons (sqT (e _ _ ha)) (.cons (sqT (e _ _ hb)) .nil)) ?_ (gmono_tup (gmono_cons gmono_name (gmono_cons gmono_name gmono_nil))) ?_
    · intro j y H6 H7 R hj e yy kk
      obtain ⟨Tb, p, d, rfl, hTb, rfl, hp, hdd⟩ := yints2 yy
      refine ⟨Tb, _, rfl, SqT.of upd_same, rfl, _, _, rfl, _, _, rfl, rfl, ?_⟩
      refine ⟨rfl, _, rfl, _, rfl, _, _, rfl, rfl, (wide_mul (bw p (List.mem_of_getElem? hp)) (bp d (List.mem_of_getElem? hdd)) (by decide) (by decide) (by decide)).ok, ?_⟩
      refine kk _ _ (exn hTb) ?_
      rw [List.getElem?_map, List.getElem?_zipWith, hp, hdd]
      rfl
    · intro H3 e3 hD3
      exact ⟨D, _, rfl, SqL.of hD3, _, rfl, _, _, rfl, rfl, m0, k _ e3⟩
end

def wtsF (B : List (List Int)) (n i : Nat) : List Int := (List.range n).map fun k => vf (colsF B n k) i % diagP 0 B
def gcdF (D : Int) (ws : List Int) : Int := ws.foldl (fun g w => gcdI g w) D
def sepI (B : List (List Int)) (n : Nat) (v : List Int) : Option Nat := (List.range n).find? fun i => decide (wsum (wtsF B n i) v % diagP 0 B ≠ 0)
def witM (B : List (List Int)) (n i : Nat) : Int := diagP 0 B / gcdF (diagP 0 B) (wtsF B n i)
def witW (B : List (List Int)) (n i : Nat) : List Int := (wtsF B n i).map fun w => w / gcdF (diagP 0 B) (wtsF B n i)
theorem wts_len (B : List (List Int)) (n i : Nat) : (wtsF B n i).length = n := by simp [wtsF]
theorem wts_at {B : List (List Int)} {n i k : Nat} (h : k < n) : (wtsF B n i)[k]? = some (vf (colsF B n k) i % diagP 0 B) := by
  unfold wtsF
  rw [List.getElem?_map, List.getElem?_range h]
  rfl
theorem wts_mem {B : List (List Int)} {n i : Nat} (h : 0 < diagP 0 B) {x : Int} (hx : x ∈ wtsF B n i) : 0 ≤ x ∧ x < diagP 0 B := by
  obtain ⟨k, _, rfl⟩ := List.mem_map.mp hx
  exact ⟨Int.emod_nonneg _ (by omega), Int.emod_lt_of_pos _ h⟩
theorem gcdF_snoc (D : Int) (ws : List Int) (x : Int) : gcdF D (ws ++ [x]) = gcdI (gcdF D ws) x := by
  unfold gcdF
  rw [List.foldl_append]
  rfl
theorem gcdF_pos : ∀ (ws : List Int) {D : Int}, 0 < D → 0 < gcdF D ws ∧ gcdF D ws ≤ D ∧ gcdF D ws ∣ D ∧ ∀ x ∈ ws, gcdF D ws ∣ x
  | [], D, h => ⟨h, Int.le_refl _, Int.dvd_refl _, by simp⟩
  | x :: ws, D, h => by
    have g0 : 0 < gcdI D x := by
      have := Int.gcd_pos_of_ne_zero_left (a := D) x (by omega)
      show (0 : Int) < ((Int.gcd D x : Nat) : Int)
      omega
    have gl : gcdI D x ∣ D := Int.gcd_dvd_left D x
    obtain ⟨a, b, c, d⟩ := gcdF_pos ws g0
    refine ⟨a, Int.le_trans b (Int.le_of_dvd h gl), Int.dvd_trans c gl, fun y hy => ?_⟩
    rcases List.mem_cons.mp hy with rfl | hy
    · exact Int.dvd_trans c (Int.gcd_dvd_right D y)
    · exact d y hy
theorem tri_D {n : Nat} {B : List (List Int)} (lB : B.length = n) (tri : Tri n B) : 0 < diagP 0 B := by
  have := diag_pos tri n 0 (by omega)
  rwa [List.drop_zero] at this
theorem small_D {n : Nat} {B : List (List Int)} (lB : B.length = n) (n4 : n ≤ 4) (hb : ∀ r ∈ B, RowB MB n 0 r) : (diagP 0 B).natAbs < 2 ^ 1090 := by
  rw [← dpre_full]
  exact lt_pow (dpre_small hb B.length) (by omega)
theorem ite_if {c : Prop} [Decidable c] {a b : Int} : V.int (if c then a else b) = if c then V.int a else V.int b := by split <;> rfl
section
variable {P : Program} {w : World} {K : PySem.W.Frag} {mg : Str → Option Value} {base : Heap}
def sp_separating_witness : Sp := fun vs H Q _ => ∃ (t : Addr) (q : Bool × Addr) (D V0 : Addr) (ns v t0 : List Int) (ts B : List (List Int)) (i : Nat), vs = [.ref t, .ref q.2, .ref D, .ref V0] ∧ H t = some (.tup (ns.map V.int)) ∧ SzOk ns ∧ SzC ns ∧ RowsQ H q (t0 :: ts) ∧ SeatOk ns t0 ∧
  LAt H D B ∧ B.length = ns.length ∧ Tri ns.length B ∧ (∀ r ∈ B, RowB MB ns.length 0 r) ∧ IL H V0 v ∧ v.length = ns.length ∧ (∀ x ∈ v, x.natAbs < 2 ^ 271) ∧ sepI B ns.length v = some i ∧
  ∀ wt wa H2, Ex H H2 → H2 wt = some (.tup [.int (witM B ns.length i), .ref wa, .int (wsum (witW B ns.length i) t0 % witM B ns.length i)]) → H2 wa = some (.tup ((witW B ns.length i).map V.int)) → Q (.ref wt) H2
theorem ok_separating_witness (T : TX K mg) : FnOk P w K mg base CX0 2 T.f_separating_witness T.fd_separating_witness ["sizes", "targets", "basis", "difference"] sp_separating_witness := by
  refine T.F_separating_witness.ok sc_separating_witness (fun vs H Q E h => ?_) (fun cdv A outer s H vs Q E hr h => ?_)
  · obtain ⟨t, q, D, V0, ns, v, t0, ts, B, i, rfl, _⟩ := h
    rfl
  · obtain ⟨t, ⟨bq, q⟩, D, V0, ns, v, t0, ts, B, i, rfl, ht, ok, hB, ⟨xs, hq, rr⟩, sk0, la, lB, tri, hb, hv, lv, bv, sep, k⟩ := h
    refine ⟨_, (pss_cons (ps_set (i := 4) sc_separating_witness.nd rfl (Or.inr rfl) (pe_call (ok_diagonal_product T) hr rfl T.m_diagonal_product T.F_diagonal_product.kp T.b_diagonal_product .nil pass0 (pa_cons (pv 2) pa_nil))) (pss_cons (ps_setLc (own := [("index", 7)]) (g := (gName 7)) (i := 5) rfl sc_separating_witness.nd rfl rfl (sw_true rfl rfl rfl (by decide +kernel)) (pi_range1 rfl T.z_range (pa_cons (pe_callB call_len_seq (by rfl) T.z_len (by decide +kernel) (pa_cons (pv 0) pa_nil)) pa_nil)) (blkOk_by (N := N_separating_witness) (sc := defScope s_separating_witness) (by decide +kernel)) (fun _ _ _ _ _ => (pg_name (i := 7) sc_separating_witness.nd rfl (Or.inr rfl))) (fun _ _ _ _ _ => pts_nil) (fun _ _ _ _ _ => (pe_lc (own := [("column", 12)]) (g := (gName 12)) rfl sc_separating_witness.nd (pi_range1 rfl T.z_range (pa_cons (pe_callB (r := rLenQ K) call_len_seq (by rfl) T.z_len (by decide +kernel) (pa_cons (pv 0) pa_nil)) pa_nil)) (blkOk_by (N := N_separating_witness) rfl) (fun _ _ _ _ _ => (pg_name (i := 12) sc_separating_witness.nd rfl (Or.inl rfl))) (fun _ _ _ _ _ => pts_nil) (fun _ _ _ _ _ => (pe_ifExp (pt_cmpR op_eq (pv 12) (pv 7) (nomark _)) (pv 4) pe_int))))) (pss_cons (ps_setLc (own := [("unit", 13)]) (g := (gName 13)) (i := 6) rfl sc_separating_witness.nd rfl rfl (sw_true rfl rfl rfl (by decide +kernel)) (pi_list (pv 5)) (blkOk_by (N := N_separating_witness) (sc := defScope s_separating_witness) (by decide +kernel)) (fun _ _ _ _ _ => (pg_name (i := 13) sc_separating_witness.nd rfl (Or.inl rfl))) (fun _ _ _ _ _ => pts_nil) (fun _ _ _ _ _ => (pe_call (ok_coordinates T) hr rfl T.m_coordinates T.F_coordinates.kp T.b_coordinates .nil pass0 (pa_cons (pv 2) (pa_cons (pv 13) pa_nil))))) (pss_cons (ps_for PassesOwn.never rfl (pi_range1 rfl T.z_range (pa_cons (pe_callB call_len_seq (by rfl) T.z_len (by decide +kernel) (pa_cons (pv 0) pa_nil)) pa_nil)) (pg_name (i := 7) sc_separating_witness.nd rfl (Or.inr rfl)) (pss_cons (ps_setLc (own := [("column", 12)]) (g := (gName 12)) (i := 8) rfl sc_separating_witness.nd rfl rfl (sw_true rfl rfl rfl (by decide +kernel)) (pi_list (pv 6)) (blkOk_by (N := N_separating_witness) (sc := defScope s_separating_witness) (by decide +kernel)) (fun _ _ _ _ _ => (pg_name (i := 12) sc_separating_witness.nd rfl (Or.inl rfl))) (fun _ _ _ _ _ => pts_nil) (fun _ _ _ _ _ => (pe_op op_mod (pe_ix (r := rIxL K) ix_list (pv 12) (pv 7) (fun _ _ => rfl)) (pv 4)))) (pss_one (ps_if (pt_cmpR op_ne (pe_op op_mod (pe_callB (cr_sum rfl) (by rfl) T.z_sum (by decide +kernel) (pa_cons (pe_lc (own := [("weight", 10), ("one", 14)]) (g := (gTup K 2 (gCons (gName 10) (gCons (gName 14) gNil)))) rfl sc_separating_witness.nd (CZ.pi_z2s (fl := [false, false]) rfl (by rfl) T.z_zip (pa_cons (pv 8) (pa_cons (pv 3) pa_nil))) (blkOk_by (N := N_separating_witness) (sc := defScope s_separating_witness) (by decide +kernel)) (fun _ _ _ _ _ => (pg_tup rfl (pgs_cons (pg_name (i := 10) sc_separating_witness.nd rfl (Or.inl rfl)) (pgs_cons (pg_name (i := 14) sc_separating_witness.nd rfl (Or.inl rfl)) pgs_nil)))) (fun _ _ _ _ _ => pts_nil) (fun _ _ _ _ _ => (pe_op op_mulI (pv 10) (pv 14)))) pa_nil)) (pv 4)) pe_int (nomark _)) (pss_cons (ps_set (i := 9) sc_separating_witness.nd rfl (Or.inr rfl) (pv 4)) (pss_cons (ps_for PassesOwn.never rfl (pi_list (pv 8)) (pg_name (i := 10) sc_separating_witness.nd rfl (Or.inl rfl)) (pss_one (ps_set (i := 9) sc_separating_witness.nd rfl (Or.inr rfl) (pe_call (ok_greatest_common_divisor T) hr rfl T.m_greatest_common_divisor T.F_greatest_common_divisor.kp T.b_greatest_common_divisor .nil pass0 (pa_cons (pv 9) (pa_cons (pv 10) pa_nil)))))) (pss_cons (ps_set (i := 11) sc_separating_witness.nd rfl (Or.inl rfl) (pe_op op_fdivW (pv 4) (pv 9))) (pss_cons (ps_set (i := 8) sc_separating_witness.nd rfl (Or.inl rfl) (pe_callTy call_tuple_of (by rfl) T.z_tuple (by decide +kernel) (pa_cons (pe_lc (own := [("weight", 10)]) (g := (gName 10)) rfl sc_separating_witness.nd (pi_list (pv 8)) (blkOk_by (N := N_separating_witness) (sc := defScope s_separating_witness) (by decide +kernel)) (fun _ _ _ _ _ => (pg_name (i := 10) sc_separating_witness.nd rfl (Or.inl rfl))) (fun _ _ _ _ _ => pts_nil) (fun _ _ _ _ _ => (pe_op op_fdivW (pv 10) (pv 9)))) pa_nil))) (pss_one (ps_ret (pe_tup (pa_cons (pv 11) (pa_cons (pv 8) (pa_cons (pe_call (ok_weighted T) hr rfl T.m_weighted T.F_weighted.kp T.b_weighted .nil pass0 (pa_cons (pv 11) (pa_cons (pv 8) (pa_cons (pe_ix (r := rIxQ K) ix_q (pv 1) pe_int (fun _ _ => rfl)) pa_nil)))) pa_nil)))))))))) pss_nil)))) (pss_one (ps_ret pe_non)))))), ?_⟩
    have n4 := ok.le
    have D0 := tri_D lB tri
    have Db := small_D lB n4 hb
    refine ⟨_, rfl, D, B, ns.length, rfl, la, lB, n4, hb, fun H1 e1 => ?_⟩
    -- units
    refine ⟨_, rfl, t, _, rfl, .inr (SqT.of (e1 _ _ ht)), _, rfl, by rw [List.length_map]; omega, by rw [List.length_map]; omega, fun D1 hD1 => ?_⟩
    refine lc_it walk_range (fun j H3 => Ex H1 H3 ∧ LAt H3 D1 ((List.range j).map fun k => unitL ns.length k (diagP 0 B))) ⟨exn hD1, _, upd_same, .nil⟩ (fun _ _ _ _ => True.intro) ?_ ?_
    · rintro j x _ H3 hj ⟨e3, l3⟩ ⟨rfl, hx⟩
      obtain rfl : x = .int (j : Int) := hx.trans (congrArg V.int (Int.zero_add _))
      have hj2 : j < ns.length := by
        have : j < ((ns.map V.int).length : Int).toNat := hj
        rw [List.length_map] at this
        omega
      refine ⟨rfl, _, rfl, t, _, rfl, .inr (SqT.of (e3 _ _ (e1 _ _ ht))), _, rfl, by rw [List.length_map]; omega, by rw [List.length_map]; omega, fun D2 hD2 => ?_⟩
      have lu : (unitL ns.length j (diagP 0 B)).length = ns.length := by simp [unitL]
      refine lc_vals walk_range ((unitL ns.length j (diagP 0 B)).map V.int) (by rw [List.length_map, lu, List.length_map]; rfl) (by rw [List.length_map]; omega) hD2 (fun _ _ => True.intro) ?_ gmono_name ?_
      · rintro m x _ H4 RR hm e4 ⟨rfl, hx⟩ kk
        obtain rfl : x = .int (m : Int) := hx.trans (congrArg V.int (Int.zero_add _))
        have hm2 : m < ns.length := by
          have : m < ((ns.map V.int).length : Int).toNat := hm
          rw [List.length_map] at this
          omega
        have eat : ((unitL ns.length j (diagP 0 B)).map V.int)[m]? = some (V.int (if m = j then diagP 0 B else 0)) := by
          unfold unitL
          rw [List.getElem?_map, List.getElem?_map, List.getElem?_range hm2]
          rfl
        refine ⟨rfl, _, rfl, _, rfl, rfl, _, rfl, ?_⟩
        refine ite2 (fun hc => ?_) (fun hc => ?_)
        · have : m = j := by have := eqT hc; omega
          refine ⟨_, rfl, kk _ _ exr ?_⟩
          rw [eat, if_pos this]
        · have : ¬ m = j := fun z => eqF hc (by omega)
          refine kk _ _ exr ?_
          rw [eat, if_neg this]
      · intro H4 e4 hD4
        have nu : unitL ns.length j (diagP 0 B) ≠ [] := fun z => by rw [z] at lu; exact absurd lu (by show ¬ 0 = _; omega)
        obtain ⟨acc, p1, p2, p3⟩ := lrows_push (l3.mono e4) hD4 nu
        refine ⟨acc, p1, ?_, ex_upd (ext e3 e4) hD1, ?_⟩
        · rw [p2, List.length_map, List.length_range]
          exact Nat.lt_of_lt_of_le hj2 (Nat.le_trans n4 (by decide))
        · rw [List.range_succ, List.map_append]
          exact p3
    rintro H3 ⟨e3, l3⟩
    have el : ((ns.map V.int).length : Int).toNat = ns.length := by rw [List.length_map]; omega
    rw [el] at l3
    obtain ⟨xu, hxu, rxu⟩ := l3
    have lxu := rxu.len
    rw [List.length_map, List.length_range] at lxu
    have e03 := ext e1 e3
    -- columns
    refine ⟨_, rfl, D1, rfl, ⟨_, SqL.of hxu⟩, fun D3 hD3 => ?_⟩
    refine lc_it (walk_list (xs := xu)) (fun j H4 => Ex H3 H4 ∧ LAt H4 D3 ((List.range j).map fun k => colsF B ns.length k)) ⟨exn hD3, _, upd_same, .nil⟩ (fun j H4 _ p => SqL.of (p.1 _ _ hxu)) ?_ ?_
    · rintro j x _ H4 hj ⟨e4, l4⟩ ⟨rfl, hx⟩
      obtain ⟨un, r, hun, rfl, hr0, _⟩ := rxu.get hx
      have hj2 : j < ns.length := by
        rw [← lxu]
        exact hj
      obtain rfl : unitL ns.length j (diagP 0 B) = un := by
        rw [List.getElem?_map, List.getElem?_range hj2] at hun
        exact Option.some.inj hun
      have lu : (unitL ns.length j (diagP 0 B)).length = ns.length := by simp [unitL]
      have lc : (colsF B ns.length j).length = ns.length := by unfold colsF; rw [coord_len, lB]
      refine ⟨rfl, _, rfl, _, rfl, D, r, B, _, ns.length, rfl, la.mono (ext e03 e4), lB, n4, tri, hb, e4 _ _ hr0, lu, fun m => ?_, fun q5 H5 e5 nq5 hq5 => ?_⟩
      · rw [unitL_vf hj2]
        unfold unitV
        split
        · exact lt_pow Db (by decide)
        · exact Nat.pos_of_neZero _
      have nc : colsF B ns.length j ≠ [] := fun z => by rw [z] at lc; exact absurd lc (by show ¬ 0 = _; omega)
      obtain ⟨acc, p1, p2, p3⟩ := lrows_push (l4.mono e5) (ks := colsF B ns.length j) hq5 nc
      refine ⟨acc, p1, ?_, ex_upd (ext e4 e5) hD3, ?_⟩
      · rw [p2, List.length_map, List.length_range]
        exact Nat.lt_of_lt_of_le hj2 (Nat.le_trans n4 (by decide))
      · rw [List.range_succ, List.map_append]
        exact p3
    rintro H4 ⟨e4, l4⟩
    rw [lxu] at l4
    obtain ⟨xc, hxc, rxc⟩ := l4
    have lxc := rxc.len
    rw [List.length_map, List.length_range] at lxc
    have e04 := ext e03 e4
    refine ⟨_, rfl, t, _, rfl, .inr (SqT.of (e04 _ _ ht)), _, rfl, by rw [List.length_map]; omega, by rw [List.length_map]; omega, ?_⟩
    refine for_it walk_range (fun j σ Hx => ∃ y7 y8 y9 y10 y11 y12 y13 y14 : Option V, σ = [some (.ref t), some (.ref q), some (.ref D), some (.ref V0), some (.int (diagP 0 B)), some (.ref D1), some (.ref D3), y7, y8, y9, y10, y11, y12, y13, y14] ∧ Ex H4 Hx ∧ ∀ m, m < j → wsum (wtsF B ns.length m) v % diagP 0 B = 0) ⟨_, _, _, _, _, _, _, _, rfl, exr, fun m hm => absurd hm (by omega)⟩ (fun _ _ _ _ _ => True.intro) ?_ ?_
    · rintro j x σ _ H5 hj ⟨y7, y8, y9, y10, y11, y12, y13, y14, rfl, e5, hz⟩ ⟨rfl, hx⟩
      obtain rfl : x = .int (j : Int) := hx.trans (congrArg V.int (Int.zero_add _))
      have hj2 : j < ns.length := by
        have : j < ((ns.map V.int).length : Int).toNat := hj
        rw [el] at this
        exact this
      refine ⟨_, rfl, D3, rfl, ⟨_, SqL.of (e5 _ _ hxc)⟩, fun D4 hD4 => ?_⟩
      refine lc_vals (walk_list (xs := xc)) ((wtsF B ns.length j).map V.int) (by rw [List.length_map, wts_len, lxc]) (by omega) hD4 (fun H6 e => SqL.of (e _ _ (e5 _ _ hxc))) ?_ gmono_name ?_
      · rintro m x _ H6 RR hm e6 ⟨rfl, hx⟩ kk
        obtain ⟨cl, r, hcl, rfl, hr0, _⟩ := rxc.get hx
        have hm2 : m < ns.length := by
          rw [← lxc]
          exact hm
        obtain rfl : colsF B ns.length m = cl := by
          rw [List.getElem?_map, List.getElem?_range hm2] at hcl
          exact Option.some.inj hcl
        have lc : (colsF B ns.length m).length = ns.length := by unfold colsF; rw [coord_len, lB]
        refine ⟨rfl, _, rfl, _, rfl, r, _, _, _, rfl, rfl, SqL.of (e6 _ _ (e5 _ _ hr0)), atI_vf (by omega), _, rfl, _, _, rfl, rfl, D0, kk _ _ exr ?_⟩
        rw [List.getElem?_map, wts_at hm2]
        rfl
      intro H6 e6 hD6
      have hv6 : IL H6 V0 v := e6 _ _ (e5 _ _ (e04 _ _ hv))
      refine ⟨_, rfl, _, rfl, [D4, V0], rfl, rfl, all2 (sqL hD6) (sqL hv6), fun D5 hD5 => ?_⟩
      refine lc_vals (CZ.walk_rows (xss := [(wtsF B ns.length j).map V.int, v.map V.int]) (n := ns.length) (lens2 (by rw [List.length_map, wts_len]) (by rw [List.length_map, lv]))) ((List.zipWith (fun w x => w * x) (wtsF B ns.length j) v).map V.int) (by rw [List.length_map, List.length_zipWith, wts_len, lv, Nat.min_self]) (by omega) hD5 (fun H7 e => .cons (sqL (e _ _ hD6)) (.cons (sqL (e _ _ hv6)) .nil)) ?_ (gmono_tup (gmono_cons gmono_name (gmono_cons gmono_name gmono_nil))) ?_
      · intro m y H7 H8 R hm e yy kk
        obtain ⟨Tb, p, d, rfl, hTb, rfl, hp, hdd⟩ := yints2 yy
        obtain ⟨w0, w1⟩ := wts_mem D0 (List.mem_of_getElem? hp)
        have pb : p.natAbs < 2 ^ 1090 := Nat.lt_of_le_of_lt (by omega) Db
        refine ⟨Tb, _, rfl, SqT.of upd_same, rfl, _, _, rfl, _, _, rfl, rfl, ?_⟩
        refine ⟨rfl, _, rfl, _, rfl, _, _, rfl, rfl, (wide_mul pb (bv d (List.mem_of_getElem? hdd)) (by decide) (by decide) (by decide)).ok, ?_⟩
        refine kk _ _ (exn hTb) ?_
        rw [List.getElem?_map, List.getElem?_zipWith, hp, hdd]
        rfl
      intro H7 e7 hD7
      have hD47 : IL H7 D4 (wtsF B ns.length j) := e7 _ _ hD6
      refine ⟨D5, _, rfl, SqL.of hD7, _, rfl, _, _, rfl, rfl, D0, rfl, _, rfl, ?_⟩
      refine ite2 (fun hc => ?_) (fun hc => ?_)
      case refine_2 =>
        have hz0 : wsum (wtsF B ns.length j) v % diagP 0 B = 0 := eqN hc
        refine ⟨_, _, _, _, _, _, _, _, rfl, ext e5 (ext e6 e7), fun m hm => ?_⟩
        by_cases e : m = j
        · rw [e]; exact hz0
        · exact hz m (by omega)
      have hnz : wsum (wtsF B ns.length j) v % diagP 0 B ≠ 0 := fun z => by
        have z2 : (List.zipWith (fun w x => w * x) (wtsF B ns.length j) v).sum % diagP 0 B = 0 := z
        simp [z2] at hc
      obtain rfl : i = j := by
        unfold sepI at sep
        have h1 := List.find?_some sep
        have h2 := List.mem_of_find?_eq_some sep
        rw [List.find?_range_eq_some] at sep
        rcases Nat.lt_trichotomy i j with h | h | h
        · exact absurd (hz i h) (of_decide_eq_true h1)
        · exact h
        · exact absurd (sep.2.2 j h) (by simp [hnz])
      -- shared
      refine ⟨_, rfl, _, rfl, D4, rfl, ⟨_, SqL.of hD47⟩, ?_⟩
      refine for_it (walk_list (xs := (wtsF B ns.length i).map V.int)) (fun m σ Hx => (∃ y10 y11 y12 y13 y14 : Option V, σ = [some (.ref t), some (.ref q), some (.ref D), some (.ref V0), some (.int (diagP 0 B)), some (.ref D1), some (.ref D3), some (.int (i : Int)), some (.ref D4), some (.int (gcdF (diagP 0 B) ((wtsF B ns.length i).take m))), y10, y11, y12, y13, y14]) ∧ Hx = H7) ⟨⟨_, _, _, _, _, rfl⟩, rfl⟩ (fun m σ Hx _ p => SqL.of (by rw [p.2]; exact hD47)) ?_ ?_
      · rintro m x σ _ H8 hm ⟨⟨y10, y11, y12, y13, y14, rfl⟩, rfl⟩ ⟨rfl, hx⟩
        obtain ⟨wt, hwt, rfl⟩ := map_get hx
        have wb := wts_mem D0 (List.mem_of_getElem? hwt)
        have gp := gcdF_pos ((wtsF B ns.length i).take m) D0
        refine ⟨_, rfl, _, rfl, _, _, rfl, by omega, wb.1, ⟨some (.int wt), y11, y12, y13, y14, ?_⟩, rfl⟩
        rw [take_more hwt, gcdF_snoc]
        rfl
      · rintro σ H8 ⟨⟨y10, y11, y12, y13, y14, rfl⟩, rfl⟩
        rw [List.length_map, List.take_length]
        obtain ⟨gp1, gp2, gp3, gp4⟩ := gcdF_pos (wtsF B ns.length i) D0
        have gb : (gcdF (diagP 0 B) (wtsF B ns.length i)).natAbs < 2 ^ 1090 := Nat.lt_of_le_of_lt (by omega) Db
        have m0 : 0 < witM B ns.length i := by
          unfold witM
          exact Int.ediv_pos_of_pos_of_dvd D0 (by omega) gp3
        refine ⟨_, rfl, _, rfl, _, _, rfl, rfl, wide_div gp1 gb (by decide) (by decide), ?_⟩
        refine ⟨_, rfl, D4, rfl, ⟨_, SqL.of hD47⟩, fun D6 hD6' => ?_⟩
        refine lc_vals (walk_list (xs := (wtsF B ns.length i).map V.int)) ((witW B ns.length i).map V.int) (by simp [witW]) (by rw [List.length_map, wts_len]; omega) hD6' (fun H9 e => SqL.of (e _ _ hD47)) ?_ gmono_name ?_
        · rintro m x _ H9 RR hm e9 ⟨rfl, hx⟩ kk
          obtain ⟨wt, hwt, rfl⟩ := map_get hx
          refine ⟨rfl, _, rfl, _, rfl, _, _, rfl, rfl, wide_div gp1 gb (by decide) (by decide), kk _ _ exr ?_⟩
          unfold witW
          rw [List.getElem?_map, List.getElem?_map, hwt]
          rfl
        intro H9 e9 hD9
        refine ⟨D6, _, rfl, .inl ⟨SqL.of hD9, ?_⟩⟩
        (intro wa nwa; generalize hGwa : upd _ wa _ = Ha; have eHa := exG hGwa nwa; have hwa := atG hGwa; clear hGwa)
        have e0a : Ex H Ha := ext e04 (ext e5 (ext e6 (ext e7 (ext e9 eHa))))
        refine ⟨_, rfl, _, rfl, _, rfl, _, rfl, _, rfl, ?_⟩
        obtain ⟨x0, xs, rfl⟩ : ∃ x0 xs', xs = x0 :: xs' := by
          cases xs with
          | nil => cases rr
          | cons a b => exact ⟨a, b, rfl⟩
        obtain ⟨h0, r0, eh0, rfl, hr0⟩ := rr.get (i := 0) rfl
        obtain rfl : t0 = h0 := Option.some.inj eh0
        refine ⟨(bq, q), _, 0, .ref r0, rfl, rfl, (hq.mono e0a).sq, ?_, ?_⟩
        · unfold atI ixN
          rw [if_pos (Int.le_refl 0), if_pos (by rw [List.length_cons]; omega)]
          rfl
        have lw : (witW B ns.length i).length = ns.length := by simp [witW, wts_len]
        refine ⟨_, wa, r0, _, _, rfl, m0, hwa, e0a _ _ hr0, by rw [lw, sk0.len], by rw [sk0.len]; exact n4, fun x hx => ?_, fun x hx => ?_, fun Hb eb => ?_⟩
        · unfold witW at hx
          obtain ⟨y, hy, rfl⟩ := List.mem_map.mp hx
          obtain ⟨w0, w1⟩ := wts_mem D0 hy
          refine lt_pow (div_small (a := 1090) (Nat.lt_of_le_of_lt ?_ Db) gp1) (by decide)
          omega
        · obtain ⟨m, hm⟩ := List.getElem?_of_mem hx
          have := (seat_vf sk0 hB m).2.1
          rw [vf_at hm] at this
          exact lt_pow this (by decide)
        · refine ⟨slen rfl, ?_⟩
          (intro wt nwt; generalize hGwt : upd _ wt _ = Hc; have eHc := exG hGwt nwt; have hwt := atG hGwt; clear hGwt)
          exact k wt wa _ (ext e0a (ext eb eHc)) hwt (eHc _ _ (eb _ _ hwa))
    · rintro σ H5 ⟨y7, y8, y9, y10, y11, y12, y13, y14, rfl, e5, hz⟩
      exfalso
      unfold sepI at sep
      have h1 := List.find?_some sep
      have h2 := List.mem_range.mp (List.mem_of_find?_eq_some sep)
      rw [el] at hz
      exact absurd (hz i h2) (of_decide_eq_true h1)
end

/-! ### what reach answers -/
/-- the differences of a seat from the first target -/
theorem tell_sep {n : Nat} {B : List (List Int)} {v : List Int} (lv : v.length = n) (i : Nat) : diagP 0 B ∣ wsum (wtsF B n i) v - tellF B n (vf v) i := by
  have key : ∀ (m : Nat) (xs : List Int), xs.length = m → ∀ f g : Nat → Int, (∀ k, diagP 0 B ∣ f k - g k) → diagP 0 B ∣ (List.zipWith (fun w x => w * x) ((List.range m).map f) xs).sum - sumN m fun k => vf xs k * g k := by
    intro m
    induction m with
    | zero =>
      intro xs _ f g _
      simp [sumN]
    | succ m ih =>
      intro xs lx f g hfg
      cases xs with
      | nil => simp at lx
      | cons x xs =>
        rw [List.range_succ_eq_map, List.map_cons, List.map_map, List.zipWith_cons_cons, List.sum_cons, sumN_head]
        have h1 := ih xs (Nat.succ.inj lx) (f ∘ Nat.succ) (fun k => g (k + 1)) (fun k => hfg (k + 1))
        have h2 : diagP 0 B ∣ (f 0 - g 0) * x := Int.dvd_mul_of_dvd_left (hfg 0)
        have h3 := Int.dvd_add h2 h1
        refine (congrArg (diagP 0 B ∣ ·) ?_).mp h3
        have e1 : vf (x :: xs) 0 = x := rfl
        have e2 : (sumN m fun i => vf (x :: xs) (i + 1) * g (i + 1)) = sumN m fun k => vf xs k * g (k + 1) := rfl
        rw [e1, e2]
        grind
  exact key n v lv _ _ fun k => by
    have := Int.mul_ediv_add_emod (vf (colsF B n k) i) (diagP 0 B)
    exact ⟨-(vf (colsF B n k) i / diagP 0 B), by grind⟩
theorem sep_none {n : Nat} {B : List (List Int)} (lB : B.length = n) (tri : Tri n B) {v : List Int} (lv : v.length = n) (h : sepI B n v = none) : Lat (rowsG B) (vf v) := by
  refine tell_in lB tri (fun j hj => vf_ge (by omega)) fun i hi => ?_
  unfold sepI at h
  have h1 := List.find?_eq_none.mp h i (List.mem_range.mpr hi)
  have h2 : wsum (wtsF B n i) v % diagP 0 B = 0 := by simpa using h1
  have h3 := tell_sep (B := B) lv i
  have h4 := Int.dvd_sub (Int.dvd_of_emod_eq_zero h2) h3
  exact (congrArg (diagP 0 B ∣ ·) (by omega)).mp h4
theorem sep_of {n : Nat} {B : List (List Int)} (lB : B.length = n) (tri : Tri n B) {v : List Int} (lv : v.length = n) (h : freeF 0 B v = false) : ∃ i, sepI B n v = some i ∧ i < n := by
  cases e : sepI B n v with
  | none =>
    have := (free_iff lB tri lv).mpr (sep_none lB tri lv e)
    rw [h] at this
    cases this
  | some i => exact ⟨i, rfl, List.mem_range.mp (List.mem_of_find?_eq_some e)⟩
section
variable {P : Program} {w : World} {K : PySem.W.Frag} {mg : Str → Option Value} {base : Heap}
/-- ("reachable",) or ("unreachable", witness) -/
def ReachV (H : Hp) (r : Addr) (ns p t0 : List Int) (B : List (List Int)) : Prop :=
  if freeF 0 B (diffL p t0) = true then H r = some (.tup [.str "reachable"]) else ∃ (i : Nat) (wt wa : Addr), sepI B ns.length (diffL p t0) = some i ∧ H r = some (.tup [.str "unreachable", .ref wt]) ∧ H wt = some (.tup [.int (witM B ns.length i), .ref wa, .int (wsum (witW B ns.length i) t0 % witM B ns.length i)]) ∧ H wa = some (.tup ((witW B ns.length i).map V.int))
def sp_reach (C : Addr) : Sp := fun vs H Q _ => ∃ (a s : Addr) (q : Bool × Addr) (ns p t0 : List Int) (ts : List (List Int)), vs = [.ref a, .ref q.2, .ref s] ∧ TabAt C H a ns ∧ SzOk ns ∧ SzC ns ∧ RowsQ H q (t0 :: ts) ∧ (t0 :: ts).length ≤ 1000 ∧ (∀ t ∈ t0 :: ts, SeatOk ns t) ∧ (t0 :: ts).Nodup ∧ H s = some (.tup (p.map V.int)) ∧ SeatOk ns p ∧ ∀ r H2, Ex H H2 → ReachV H2 r ns p t0 (shiftB ns (t0 :: ts)) → Q (.ref r) H2
theorem ok_reach (T : TX K mg) : FnOk P w K mg base CX0 6 T.f_reach T.fd_reach ["table", "targets", "seat"] (sp_reach T.C_Table) := by
  refine T.F_reach.ok sc_reach (fun vs H Q E h => ?_) (fun cdv A outer s H vs Q E hr h => ?_)
  · obtain ⟨a, s, q, ns, p, t0, ts, rfl, _⟩ := h
    rfl
  · obtain ⟨a, s, ⟨bq, q⟩, ns, p, t0, ts, rfl, tab, ok, hB, hq, lt, sks, nod, hs, sk, k⟩ := h
    refine ⟨_, (pss_cons (ps_expr (pe_call (ok_require_table T) hr rfl T.m_require_table T.F_require_table.kp T.b_require_table .nil pass0 (pa_cons (pv 0) pa_nil))) (pss_cons (ps_expr (pe_call (ok_require_targets T) (hr.mono (by decide)) rfl T.m_require_targets T.F_require_targets.kp T.b_require_targets .nil pass0 (pa_cons (pv 0) (pa_cons (pv 1) pa_nil)))) (pss_cons (ps_expr (pe_call (ok_require_seat T) (hr.mono (by decide)) rfl T.m_require_seat T.F_require_seat.kp T.b_require_seat .nil pass0 (pa_cons (pv 0) (pa_cons (pv 2) pa_nil)))) (pss_cons (ps_set (i := 3) sc_reach.nd rfl (Or.inl rfl) (pe_call (ok_shift_basis T) (hr.mono (by decide)) rfl T.m_shift_basis T.F_shift_basis.kp T.b_shift_basis .nil pass0 (pa_cons (pe_meth0 (pv 0) T.cl_Table T.me_Table_sizes (ok_Table_sizes T) (hr.mono (by decide)) T.b_Table_sizes .nil pass0) (pa_cons (pv 1) pa_nil)))) (pss_cons (ps_setLc (own := [("one", 5), ("other", 6)]) (g := (gTup K 2 (gCons (gName 5) (gCons (gName 6) gNil)))) (i := 4) rfl sc_reach.nd rfl rfl (sw_true rfl rfl rfl (by decide +kernel)) (CZ.pi_z2s (fl := [true, true]) rfl (by rfl) T.z_zip (pa_cons (pv 2) (pa_cons (pe_ix (r := rIxQ K) ix_q (pv 1) pe_int (fun _ _ => rfl)) pa_nil))) (blkOk_by (N := N_reach) (sc := defScope s_reach) (by decide +kernel)) (fun _ _ _ _ _ => (pg_tup rfl (pgs_cons (pg_name (i := 5) sc_reach.nd rfl (Or.inl rfl)) (pgs_cons (pg_name (i := 6) sc_reach.nd rfl (Or.inl rfl)) pgs_nil)))) (fun _ _ _ _ _ => pts_nil) (fun _ _ _ _ _ => (pe_op op_sub (pv 5) (pv 6)))) (pss_cons (ps_if (pt_val (pe_call (ok_is_free T) (hr.mono (by decide)) rfl T.m_is_free T.F_is_free.kp T.b_is_free .nil pass0 (pa_cons (pv 3) (pa_cons (pv 4) pa_nil)))) (pss_one (ps_ret (pe_tup (pa_cons pe_str pa_nil)))) pss_nil) (pss_one (ps_ret (pe_tup (pa_cons pe_str (pa_cons (pe_call (ok_separating_witness T) (hr.mono (by decide)) rfl T.m_separating_witness T.F_separating_witness.kp T.b_separating_witness .nil pass0 (pa_cons (pe_meth0 (pv 0) T.cl_Table T.me_Table_sizes (ok_Table_sizes T) (hr.mono (by decide)) T.b_Table_sizes .nil pass0) (pa_cons (pv 1) (pa_cons (pv 3) (pa_cons (pv 4) pa_nil))))) pa_nil))))))))))), ?_⟩
    have ne : t0 :: ts ≠ [] := by simp
    obtain ⟨s1, s2, s3, s4⟩ := shift_ok ok hB ne sks
    have sk0 := sks t0 List.mem_cons_self
    have n4 := ok.le
    refine ⟨_, rfl, a, ns, rfl, tab, ?_⟩
    refine ⟨_, rfl, _, rfl, a, (bq, q), ns, _, rfl, tab, n4, hq, ne, by omega, sks, nod, fun H1 e1 => ?_⟩
    refine ⟨_, rfl, _, rfl, a, _, ns, _, rfl, tab.mono e1, n4, TupA.ints (e1 _ _ hs) (by rw [sk.len]; omega), isSeat_ok sk, fun H2 e2 => ?_⟩
    have E2 := ext e1 e2
    obtain ⟨dx, t, g1, g2⟩ := tab.mono E2
    refine ⟨_, rfl, a, dx, _, rfl, g1, rfl, a, dx, t, rfl, g1, _, rfl, t, (bq, q), ns, _, rfl, g2, ok, hB, hq.mono E2, ne, lt, sks, fun D H3 e3 nD la => ?_⟩
    have E3 := ext E2 e3
    obtain ⟨xs, hx1, hx2⟩ := hq.mono E3
    obtain ⟨x0, xs, rfl⟩ : ∃ x0 xs', xs = x0 :: xs' := by
      cases xs with
      | nil => cases hx2
      | cons a b => exact ⟨a, b, rfl⟩
    obtain ⟨h0, r0, eh0, rfl, hr0⟩ := hx2.get (i := 0) rfl
    obtain rfl : t0 = h0 := Option.some.inj eh0
    have ld := diff_len sk.len sk0.len
    have hs3 := E3 _ _ hs
    refine ⟨_, rfl, _, rfl, (bq, q), _, 0, .ref r0, rfl, rfl, hx1.sq, ?_, [s, r0], rfl, rfl, all2 (sqT hs3) (sqT hr0), fun D3 hD3 => ?_⟩
    · exact atI_zero _ _
    refine lc_vals (CZ.walk_rows (xss := [p.map V.int, t0.map V.int]) (n := ns.length) (lens2 (by rw [List.length_map, sk.len]) (by rw [List.length_map, sk0.len]))) ((diffL p t0).map V.int) (by rw [List.length_map, ld]) (by omega) hD3 (fun H4 e => .cons (sqT (e _ _ hs3)) (.cons (sqT (e _ _ hr0)) .nil)) ?_ (gmono_tup (gmono_cons gmono_name (gmono_cons gmono_name gmono_nil))) ?_
    · intro j y H4 H5 R hj e yy kk
      obtain ⟨Ta, x, d, rfl, hT, rfl, hp, hd⟩ := yints2 yy
      refine ⟨Ta, _, rfl, SqT.of upd_same, rfl, _, _, rfl, _, _, rfl, rfl, ?_⟩
      refine ⟨rfl, _, rfl, _, rfl, _, _, rfl, rfl, ?_⟩
      refine kk _ _ (exn hT) ?_
      rw [List.getElem?_map]
      unfold diffL
      rw [List.getElem?_zipWith, hp, hd]
      rfl
    intro H4 e4 hD4
    have E4 := ext E3 e4
    have db := diff_b sk sk0 hB
    have sb : ∀ j, (vf (diffL p t0) j).natAbs < 2 ^ 271 := fun j => lt_pow (db.small j) (by decide)
    refine ⟨_, rfl, _, rfl, D, D3, _, diffL p t0, ns.length, rfl, la.mono e4, s1, n4, s2, s4, hD4, ld, sb, fun H5 e5 => ?_⟩
    have E5 := ext E4 e5
    refine ⟨_, rfl, ?_⟩
    by_cases hf : freeF 0 (shiftB ns (t0 :: ts)) (diffL p t0) = true
    · refine itt hf ?_
      (repeat (first | refine ⟨rfl, ?_⟩ | refine ⟨_, rfl, ?_⟩ | refine ⟨_, _, rfl, rfl, ?_⟩ | refine ⟨_, _, rfl, ?_⟩ | refine ⟨slen rfl, ?_⟩ | refine ⟨⟨by decide, by decide +kernel⟩, ?_⟩ | refine ⟨⟨by decide, by decide, by decide⟩, ?_⟩ | refine ⟨(by show (0 : Int) < _; first | decide | assumption | omega), ?_⟩ | refine ⟨mul_ok (by first | exact .inr (by decide) | exact .inl (by decide)), ?_⟩))
      (intro rt nrt; generalize hGrt : upd _ rt _ = H6; have eH6 := exG hGrt nrt; have hrt := atG hGrt; clear hGrt)
      exact k rt _ (ext E5 eH6) (by unfold ReachV; rw [if_pos hf]; exact hrt)
    · have hf2 : freeF 0 (shiftB ns (t0 :: ts)) (diffL p t0) = false := by simpa using hf
      refine itf hf2 ?_
      obtain ⟨i, hi, _⟩ := sep_of s1 s2 ld hf2
      obtain ⟨dx5, t5, g5, g6⟩ := tab.mono E5
      refine ⟨_, rfl, a, dx5, _, rfl, g5, rfl, a, dx5, t5, rfl, g5, _, rfl, _, rfl, _, rfl, t5, (bq, q), D, D3, ns, diffL p t0, t0, ts, _, i, rfl, g6, ok, hB, hq.mono E5, sk0, la.mono (ext e4 e5), s1, s2, s4, e5 _ _ hD4, ld, fun x hx => ?_, hi, fun wt wa H6 e6 hwt hwa => ?_⟩
      · obtain ⟨m, hm⟩ := List.getElem?_of_mem hx
        have := sb m
        rw [vf_at hm] at this
        exact this
      · refine ⟨slen rfl, ?_⟩
        (intro rt nrt; generalize hGrt : upd _ rt _ = H7; have eH7 := exG hGrt nrt; have hrt := atG hGrt; clear hGrt)
        refine k rt _ (ext E5 (ext e6 eH7)) ?_
        unfold ReachV
        rw [if_neg hf]
        exact ⟨i, wt, wa, hi, hrt, eH7 _ _ hwt, eH7 _ _ hwa⟩
end

/-- a source of draws stands at s -/
def Src (H : Hp) (s : Addr) : Prop := ∃ a b c : Int, H s = some (.lst [.int a, .int b, .int c])
theorem Src.mono {s : Addr} {H H2 : Hp} (e : Ex H H2) (h : Src H s) : Src H2 s := by
  obtain ⟨a, b, c, h⟩ := h
  exact ⟨a, b, c, e _ _ h⟩
theorem Src.ne {s p : Addr} {H : Hp} (h : Src H s) (hp : H p = none) : p ≠ s := by
  obtain ⟨a, b, c, h⟩ := h
  exact (ne_of_none h hp).symm
theorem Src.new {s p : Addr} {H : Hp} {o : HO} (h : Src H s) (hp : H p = none) : Src (upd H p o) s := Src.mono (exn hp) h
section
variable {P : Program} {w : World} {K : PySem.W.Frag} {mg : Str → Option Value} {base : Heap}
def sp_law_mix : Sp := fun vs H Q _ => ∃ c d : Int, vs = [.int c, .int d] ∧ ∀ r : Int, 0 ≤ r → r < 2147483563 → Q (.int r) H
theorem ok_law_mix (T : TX K mg) : FnOk P w K mg base CX0 1 T.f_law_mix T.fd_law_mix ["_law_cell", "_law_step"] sp_law_mix := by
  refine T.F_law_mix.ok sc_law_mix (fun vs H Q E h => ?_) (fun cdv A outer s H vs Q E hr h => ?_)
  · obtain ⟨c, d, rfl, _⟩ := h
    rfl
  · obtain ⟨c, d, rfl, k⟩ := h
    refine ⟨_, (pss_cons (ps_set (i := 2) sc_law_mix.nd rfl (Or.inl rfl) (pe_op op_mod (pe_op op_mulI (pe_op op_add (pe_op op_mod (pv 0) pe_int) pe_int) (pe_op op_add (pe_op op_mulI (pv 1) pe_int) pe_int)) pe_int)) (pss_cons (ps_set (i := 2) sc_law_mix.nd rfl (Or.inl rfl) (pe_op op_mod (pe_op op_mulI (pe_op op_add (pv 2) (pe_op op_mulI (pe_op op_mod (pe_op op_fdivW (pv 0) pe_int) pe_int) (pe_op op_add (pv 1) pe_int))) pe_int) pe_int)) (pss_cons (ps_set (i := 2) sc_law_mix.nd rfl (Or.inl rfl) (pe_op op_mod (pe_op op_mulI (pv 2) (pe_op op_add (pe_op op_add (pe_op op_fdivW (pv 2) pe_int) pe_int) (pv 1))) pe_int)) (pss_one (ps_ret (pe_op op_mod (pe_op op_mulI (pv 2) (pe_op op_add (pe_op op_fdivW (pv 2) pe_int) pe_int)) pe_int)))))), ?_⟩
    have a1 := mod_lo (i := c) (n := 2147483646) (by decide)
    have a2 := mod_hi (i := c) (n := 2147483646) (by decide)
    refine ⟨_, rfl, _, _, rfl, rfl, (by show (0 : Int) < _; decide), _, _, rfl, rfl, _, rfl, _, _, rfl, rfl, mul_ok (.inr (by decide)), _, _, rfl, rfl, _, _, rfl, rfl, mul_ok (.inl (by omega)), _, _, rfl, rfl, (by show (0 : Int) < _; decide), ?_⟩
    generalize (c % 2147483646 + 1) * (d * 7919 + 104729) % 2147483647 = n1
    have b1 := mod_lo (i := c / 2147483646) (n := 1000003) (by decide)
    have b2 := mod_hi (i := c / 2147483646) (n := 1000003) (by decide)
    refine ⟨_, rfl, _, rfl, _, _, rfl, rfl, ⟨by decide, by decide +kernel⟩, _, _, rfl, rfl, (by show (0 : Int) < _; decide), _, rfl, _, _, rfl, rfl, _, _, rfl, rfl, mul_ok (.inl (by omega)), _, _, rfl, rfl, _, _, rfl, rfl, mul_ok (.inr (by decide)), _, _, rfl, rfl, (by show (0 : Int) < _; decide), ?_⟩
    have c1 := mod_lo (i := (n1 + c / 2147483646 % 1000003 * (d + 31)) * 48271) (n := 2147483629) (by decide)
    have c2 := mod_hi (i := (n1 + c / 2147483646 % 1000003 * (d + 31)) * 48271) (n := 2147483629) (by decide)
    generalize (n1 + c / 2147483646 % 1000003 * (d + 31)) * 48271 % 2147483629 = n2 at c1 c2
    refine ⟨_, rfl, _, rfl, _, _, rfl, rfl, ⟨by decide, by decide +kernel⟩, _, _, rfl, rfl, _, rfl, _, _, rfl, rfl, _, _, rfl, rfl, mul_ok (.inl (by omega)), _, _, rfl, rfl, (by show (0 : Int) < _; decide), ?_⟩
    have d1 := mod_lo (i := n2 * (n2 / 1013 + 69621 + d)) (n := 2147483587) (by decide)
    have d2 := mod_hi (i := n2 * (n2 / 1013 + 69621 + d)) (n := 2147483587) (by decide)
    generalize n2 * (n2 / 1013 + 69621 + d) % 2147483587 = n3 at d1 d2
    exact ⟨_, rfl, _, rfl, _, _, rfl, rfl, ⟨by decide, by decide +kernel⟩, _, _, rfl, rfl, _, _, rfl, rfl, mul_ok (.inl (by omega)), _, _, rfl, rfl, (by show (0 : Int) < _; decide), k _ (mod_lo (by decide)) (mod_hi (by decide))⟩
def sp_law_source : Sp := fun vs H Q _ => ∃ c : Int, vs = [.int c] ∧ ∀ H2 s, Ex H H2 → H s = none → Src H2 s → Q (.ref s) H2
theorem ok_law_source (T : TX K mg) : FnOk P w K mg base CX0 1 T.f_law_source T.fd_law_source ["_law_cell"] sp_law_source := by
  refine T.F_law_source.ok sc_law_source (fun vs H Q E h => ?_) (fun cdv A outer s H vs Q E hr h => ?_)
  · obtain ⟨c, rfl, _⟩ := h
    rfl
  · obtain ⟨c, rfl, k⟩ := h
    exact ⟨_, (pss_one (ps_ret (pe_lst (pa_cons (pv 0) (pa_cons (pv 0) (pa_cons pe_int pa_nil)))))), ⟨_, rfl, _, rfl, (by show 3 ≤ sizeLine; decide), fun s hs => k _ s (exn hs) hs ⟨c, c, 0, upd_same⟩⟩⟩
def sp_law_draw : Sp := fun vs H Q _ => ∃ (s : Addr) (n : Int), vs = [.ref s, .int n] ∧ Src H s ∧ 0 < n ∧ n.natAbs < 2 ^ 8000 ∧ ∀ r H2, 0 ≤ r → r < n → XB s H H2 → Src H2 s → Q (.int r) H2
theorem ok_law_draw (T : TX K mg) : FnOk P w K mg base CX0 2 T.f_law_draw T.fd_law_draw ["_law_source_here", "_law_bound"] sp_law_draw := by
  refine T.F_law_draw.ok sc_law_draw (fun vs H Q E h => ?_) (fun cdv A outer s H vs Q E hr h => ?_)
  · obtain ⟨s, n, rfl, _⟩ := h
    rfl
  · obtain ⟨s, n, rfl, ⟨a, b, c, hs⟩, h0, hb, k⟩ := h
    refine ⟨_, (pss_cons (ps_if (pt_cmpR op_ge (pe_ix ix_list (pv 0) pe_int (fun _ _ => rfl)) (pe_op op_pow pe_int pe_int) (nomark _)) (pss_cons (ps_set (i := 2) sc_law_draw.nd rfl (Or.inl rfl) (pe_op op_mod (pe_ix ix_list (pv 0) pe_int (fun _ _ => rfl)) (pv 1))) (pss_cons (ps_asg (pe_op op_fdivW (pe_ix ix_list (pv 0) pe_int (fun _ _ => rfl)) (pv 1)) (pg_sub (pv 0) pe_int set_list)) (pss_one (ps_ret (pv 2))))) pss_nil) (pss_cons (ps_asg (pe_op op_add (pe_ix ix_list (pv 0) pe_int (fun _ _ => rfl)) pe_int) (pg_sub (pv 0) pe_int set_list)) (pss_one (ps_ret (pe_op op_mod (pe_call (ok_law_mix T) hr rfl T.m_law_mix T.F_law_mix.kp T.b_law_mix .nil pass0 (pa_cons (pe_ix ix_list (pv 0) pe_int (fun _ _ => rfl)) (pa_cons (pe_ix ix_list (pv 0) pe_int (fun _ _ => rfl)) pa_nil))) (pv 1)))))), ?_⟩
    refine ⟨_, rfl, s, _, _, _, rfl, rfl, SqL.of hs, rfl, _, _, rfl, rfl, ⟨by decide, by decide, by decide⟩, _, _, rfl, rfl, _, rfl, ?_⟩
    refine ite2 (fun _ => ?_) (fun _ => ?_)
    · refine ⟨_, rfl, s, _, _, _, rfl, rfl, SqL.of hs, rfl, _, rfl, _, _, rfl, rfl, h0, ?_⟩
      refine ⟨_, rfl, s, _, _, _, rfl, rfl, SqL.of hs, rfl, _, rfl, _, _, rfl, rfl, wide_div h0 hb (by decide) (by decide), _, rfl, s, _, _, 0, rfl, rfl, hs, rfl, ?_⟩
      exact ⟨_, rfl, k _ _ (mod_lo h0) (mod_hi h0) XB.upd ⟨_, _, _, upd_same⟩⟩
    · refine ⟨_, rfl, s, _, _, _, rfl, rfl, SqL.of hs, rfl, _, _, rfl, rfl, _, rfl, s, _, _, 2, rfl, rfl, hs, rfl, ?_⟩
      refine ⟨_, rfl, s, _, _, _, rfl, rfl, SqL.of upd_same, rfl, _, rfl, s, _, _, _, rfl, rfl, SqL.of upd_same, rfl, _, _, rfl, fun r _ _ => ?_⟩
      exact ⟨_, rfl, _, _, rfl, rfl, h0, k _ _ (mod_lo h0) (mod_hi h0) XB.upd ⟨_, _, _, upd_same⟩⟩
end

theorem XB.src {s : Addr} {H H2 H3 : Hp} (xb : XB s H H2) (e : Ex H2 H3) : XB s H H3 := xb.trans (XB.of e)
/-- an appended list D, new behind H, beside the source s -/
theorem XB.app {s D : Addr} {H H2 : Hp} {o : HO} (xb : XB s H H2) (hD : H D = none) : XB s H (L2.upd H2 D o) := fun c u n z => by
  rw [upd_ne (ne_of_none z hD)]
  exact xb c u n z
theorem Src.app {s D : Addr} {H : Hp} {o : HO} (h : Src H s) (n : D ≠ s) : Src (upd H D o) s := by
  obtain ⟨a, b, c, z⟩ := h
  exact ⟨a, b, c, by rw [upd_ne n.symm]; exact z⟩
theorem atI_nat {α : Type} {xs : List α} {r : Int} (r0 : 0 ≤ r) (r1 : r < xs.length) : ∃ v, atI xs r = some v ∧ v ∈ xs := by
  have h : r.toNat < xs.length := by omega
  refine ⟨xs[r.toNat], ?_, List.getElem_mem h⟩
  unfold atI ixN
  rw [if_pos r0, if_pos r1]
  show xs[r.toNat]? = _
  rw [List.getElem?_eq_getElem h]
theorem prodL_snoc (ns : List Int) (n : Int) : ns.foldl (fun p n => p * n) 1 * n = (ns ++ [n]).foldl (fun p n => p * n) 1 := by
  rw [List.foldl_append]
  rfl
theorem SeatOk.snoc : ∀ {ns ps : List Int} {n p : Int}, SeatOk ns ps → 0 ≤ p → p < n → SeatOk (ns ++ [n]) (ps ++ [p])
  | [], [], _, _, _, h0, h1 => ⟨⟨h0, h1⟩, True.intro⟩
  | _ :: _, _ :: _, _, _, h, h0, h1 => ⟨h.1, SeatOk.snoc h.2 h0 h1⟩
theorem abs30 {n : Int} (h1 : 1 ≤ n) (h2 : n ≤ 10 ^ 30) : n.natAbs < 2 ^ 100 := by
  have : (10 : Int) ^ 30 < 2 ^ 100 := by decide +kernel
  omega
theorem tup_xb {s q : Addr} {H H2 : Hp} {xs : List V} (src : Src H s) (h : H q = some (.tup xs)) (xb : XB s H H2) : H2 q = some (.tup xs) := by
  obtain ⟨a, b, c, z⟩ := src
  exact xb _ _ (ne_of h z (by intro q; cases q)) h
theorem TabAt.xb {C s a : Addr} {H H2 : Hp} {ns : List Int} (src : Src H s) (xb : XB s H H2) (h : TabAt C H a ns) : TabAt C H2 a ns := by
  obtain ⟨dx, t, h1, h2⟩ := h
  obtain ⟨x, y, c, z⟩ := src
  exact ⟨dx, t, xb _ _ (ne_of h1 z (by intro q; cases q)) h1, xb _ _ (ne_of h2 z (by intro q; cases q)) h2⟩
theorem RowsR.xb {s : Addr} {H H2 : Hp} {xs : List V} {tss : List (List Int)} (h : RowsR H xs tss) (src : Src H s) (xb : XB s H H2) : RowsR H2 xs tss := h.monoT fun _ _ z => tup_xb src z xb
theorem RowsAt.xb {s f : Addr} {H H2 : Hp} {tss : List (List Int)} (h : RowsAt H f tss) (n : f ≠ s) (src : Src H s) (xb : XB s H H2) : RowsAt H2 f tss := by
  obtain ⟨xs, h1, h2⟩ := h
  exact ⟨xs, xb _ _ n h1, h2.xb src xb⟩

/-! ### the witness that reach gives -/
structure WitOk (ns : List Int) (m : Int) (ws : List Int) (r : Int) : Prop where
  m3 : 3 ≤ m
  odd : m % 2 = 1
  r0 : 0 ≤ r
  r1 : r < m
  len : ws.length = ns.length
  w0 : ∀ x ∈ ws, 0 ≤ x ∧ x < m
  fit : ∀ (i : Nat) (x n : Int), ws[i]? = some x → ns[i]? = some n → x * n % m = 0
theorem wsum_cons (w : Int) (ws : List Int) (x : Int) (xs : List Int) : wsum (w :: ws) (x :: xs) = w * x + wsum ws xs := by
  unfold wsum
  rw [List.zipWith_cons_cons, List.sum_cons]
theorem wsum_diff : ∀ {ws a b : List Int}, a.length = ws.length → b.length = ws.length → wsum ws (diffL a b) = wsum ws a - wsum ws b
  | [], [], [], _, _ => rfl
  | w :: ws, x :: a, y :: b, h1, h2 => by
    have ih := wsum_diff (ws := ws) (a := a) (b := b) (Nat.succ.inj h1) (Nat.succ.inj h2)
    show wsum (w :: ws) ((x - y) :: diffL a b) = _
    rw [wsum_cons, wsum_cons, wsum_cons, ih]
    grind
theorem wsum_scale {g : Int} : ∀ {ws vs xs : List Int}, ws = vs.map (fun v => g * v) → wsum ws xs = g * wsum vs xs
  | _, [], xs, h => by
    subst h
    simp [wsum]
  | _, v :: vs, [], h => by
    subst h
    simp [wsum]
  | _, v :: vs, x :: xs, h => by
    subst h
    rw [List.map_cons, wsum_cons, wsum_cons, wsum_scale (vs := vs) (xs := xs) rfl]
    grind
theorem wsum_zero : ∀ {ws xs : List Int}, (∀ w ∈ ws, w = 0) → wsum ws xs = 0
  | [], _, _ => by simp [wsum]
  | _ :: _, [], _ => by simp [wsum]
  | w :: ws, x :: xs, h => by
    rw [wsum_cons, h w List.mem_cons_self, wsum_zero fun y hy => h y (List.mem_cons_of_mem _ hy)]
    simp
theorem wsum_unit : ∀ {ws : List Int} {n j : Nat} {x y : Int}, ws.length = n → j < n → ws[j]? = some x → wsum ws (unitL n j y) = x * y := by
  have key : ∀ (ws : List Int) (f : Nat → Int) , wsum ws ((List.range ws.length).map f) = sumN ws.length fun k => f k * vf ws k := by
    intro ws
    induction ws with
    | nil => intro f; rfl
    | cons w ws ih =>
      intro f
      rw [List.length_cons, List.range_succ_eq_map, List.map_cons, List.map_map, wsum_cons, sumN_head, ih (f ∘ Nat.succ)]
      show w * f 0 + _ = f 0 * w + _
      rw [Int.mul_comm w]
      rfl
  intro ws n j x y h hj hx
  subst h
  unfold unitL
  rw [key]
  have e : (sumN ws.length fun k => (if k = j then y else 0) * vf ws k) = sumN ws.length fun k => (y * vf ws k) * unitV k 1 j := sumN_congr fun k _ => by
    unfold unitV
    by_cases e : k = j
    · rw [if_pos e, if_pos e.symm, Int.mul_one]
    · rw [if_neg e, if_neg (fun z => e z.symm)]
      simp
  rw [e, sumN_unit (fun k => y * vf ws k) hj, vf_at hx, Int.mul_comm]
section
variable {ns : List Int} {tss : List (List Int)} (ok : SzOk ns) (hB : SzC ns) (ne : tss ≠ []) (sks : ∀ ts ∈ tss, SeatOk ns ts)
include ok hB ne sks
theorem unit_shift {j : Nat} (hj : j < ns.length) (k : Int) : Lat (rowsG (shiftB ns tss)) (unitV j (k * vf (ns.map oddI) j)) := by
  obtain ⟨_, _, s3, _⟩ := shift_ok ok hB ne sks
  refine (s3 _).mpr (((Lat.gen (G := shG (rowsF (tss.headD []) tss.tail) 0 ns.length (ns.map oddI)) (.inr ⟨j, Nat.zero_le _, hj, rfl⟩)).mul k).of_eq fun i => ?_)
  unfold unitV
  split <;> simp
theorem diag_odd : diagP 0 (shiftB ns tss) % 2 = 1 := by
  obtain ⟨s1, s2, _, _⟩ := shift_ok ok hB ne sks
  have key : ∀ (k i : Nat), i + k = ns.length → diagP i ((shiftB ns tss).drop i) % 2 = 1 := by
    intro k
    induction k with
    | zero =>
      intro i hi
      rw [List.drop_eq_nil_of_le (by omega)]
      rfl
    | succ k ih =>
      intro i hi
      have hb : (shiftB ns tss)[i]? = some ((shiftB ns tss)[i]'(by omega)) := List.getElem?_eq_getElem (by omega)
      rw [List.drop_eq_getElem_cons (by omega)]
      generalize (shiftB ns tss)[i]'(by omega) = b at hb
      have u := unit_shift ok hB ne sks (j := i) (by omega) 1
      have d := (tri_step s2 hb (tri_from s2 u i (by omega) fun j hj => by unfold unitV; rw [if_neg (by omega)])).1
      have e : unitV i (1 * vf (ns.map oddI) i) i = vf (ns.map oddI) i := by unfold unitV; rw [if_pos rfl, Int.one_mul]
      rw [e] at d
      have hn : ns[i]? = some (ns[i]'(by omega)) := List.getElem?_eq_getElem (by omega)
      have eo : vf (ns.map oddI) i = oddI (ns[i]'(by omega)) := vf_at (by rw [List.getElem?_map, hn]; rfl)
      have o1 := (oddI_ok (ok.one _ (List.getElem_mem (show i < ns.length by omega)))).2.1
      rw [eo] at d
      obtain ⟨c, hc⟩ := d
      have ih2 := ih (i + 1) (by omega)
      show vf b i * diagP (i + 1) ((shiftB ns tss).drop (i + 1)) % 2 = 1
      have ob : vf b i % 2 = 1 := by
        rcases Int.emod_two_eq (vf b i) with z | z
        · exfalso
          rw [hc, Int.mul_emod, z] at o1
          simp at o1
        · exact z
      rw [Int.mul_emod, ob, ih2]
      rfl
  have := key ns.length 0 (by omega)
  rwa [List.drop_zero] at this
/-- a difference in the lattice tells nothing -/
theorem tell_zero {v : List Int} (lv : v.length = ns.length) (h : Lat (rowsG (shiftB ns tss)) (vf v)) {i : Nat} (hi : i < ns.length) : diagP 0 (shiftB ns tss) ∣ wsum (wtsF (shiftB ns tss) ns.length i) v := by
  obtain ⟨s1, s2, _, _⟩ := shift_ok ok hB ne sks
  have h1 := tell_of s1 s2 lv h hi
  have h2 := tell_sep (B := shiftB ns tss) lv i
  exact (congrArg (diagP 0 (shiftB ns tss) ∣ ·) (by omega)).mp (Int.dvd_add h2 h1)
end
theorem wit_parts {B : List (List Int)} {n i : Nat} (D0 : 0 < diagP 0 B) : diagP 0 B = gcdF (diagP 0 B) (wtsF B n i) * witM B n i ∧ wtsF B n i = (witW B n i).map (fun v => gcdF (diagP 0 B) (wtsF B n i) * v) ∧ 0 < gcdF (diagP 0 B) (wtsF B n i) := by
  obtain ⟨g1, g2, g3, g4⟩ := gcdF_pos (wtsF B n i) D0
  refine ⟨?_, ?_, g1⟩
  · unfold witM
    rw [Int.mul_ediv_cancel' g3]
  · unfold witW
    rw [List.map_map]
    have h : (wtsF B n i).map ((fun v => gcdF (diagP 0 B) (wtsF B n i) * v) ∘ fun w => w / gcdF (diagP 0 B) (wtsF B n i)) = (wtsF B n i).map id := List.map_congr_left fun x hx => by
      show gcdF (diagP 0 B) (wtsF B n i) * (x / gcdF (diagP 0 B) (wtsF B n i)) = x
      rw [Int.mul_ediv_cancel' (g4 x hx)]
    rw [h, List.map_id]
/-- a multiple of the weights' sum: of the modulus or of the whole -/
theorem wit_dvd {B : List (List Int)} {n i : Nat} (D0 : 0 < diagP 0 B) (xs : List Int) : witM B n i ∣ wsum (witW B n i) xs ↔ diagP 0 B ∣ wsum (wtsF B n i) xs := by
  obtain ⟨e1, e2, g1⟩ := wit_parts (n := n) (i := i) D0
  rw [wsum_scale e2]
  constructor
  · intro h
    conv => lhs; rw [e1]
    exact Int.mul_dvd_mul (Int.dvd_refl _) h
  · intro h
    have h2 : gcdF (diagP 0 B) (wtsF B n i) * witM B n i ∣ gcdF (diagP 0 B) (wtsF B n i) * wsum (witW B n i) xs := by rw [← e1]; exact h
    exact Int.dvd_of_mul_dvd_mul_left (by omega) h2
section
variable {ns : List Int} {tss : List (List Int)} (ok : SzOk ns) (hB : SzC ns) (ne : tss ≠ []) (sks : ∀ ts ∈ tss, SeatOk ns ts)
include ok hB ne sks
theorem wit_ok {p : List Int} (sp : SeatOk ns p) {i : Nat} (hi : sepI (shiftB ns tss) ns.length (diffL p (tss.headD [])) = some i) :
    WitOk ns (witM (shiftB ns tss) ns.length i) (witW (shiftB ns tss) ns.length i) (wsum (witW (shiftB ns tss) ns.length i) (tss.headD []) % witM (shiftB ns tss) ns.length i) ∧
    (∀ t ∈ tss, wsum (witW (shiftB ns tss) ns.length i) t % witM (shiftB ns tss) ns.length i = wsum (witW (shiftB ns tss) ns.length i) (tss.headD []) % witM (shiftB ns tss) ns.length i) ∧
    wsum (witW (shiftB ns tss) ns.length i) p % witM (shiftB ns tss) ns.length i ≠ wsum (witW (shiftB ns tss) ns.length i) (tss.headD []) % witM (shiftB ns tss) ns.length i := by
  obtain ⟨s1, s2, s3, s4⟩ := shift_ok ok hB ne sks
  have D0 := tri_D s1 s2
  have od := diag_odd ok hB ne sks
  obtain ⟨e1, e2, g1⟩ := wit_parts (n := ns.length) (i := i) D0
  have wd := fun xs => wit_dvd (n := ns.length) (i := i) D0 xs
  have hin : i < ns.length := List.mem_range.mp (List.mem_of_find?_eq_some hi)
  have hsep : wsum (wtsF (shiftB ns tss) ns.length i) (diffL p (tss.headD [])) % diagP 0 (shiftB ns tss) ≠ 0 := by
    unfold sepI at hi
    exact of_decide_eq_true (p := wsum (wtsF (shiftB ns tss) ns.length i) (diffL p (tss.headD [])) % diagP 0 (shiftB ns tss) ≠ 0) (List.find?_some (p := fun i => decide (wsum (wtsF (shiftB ns tss) ns.length i) (diffL p (tss.headD [])) % diagP 0 (shiftB ns tss) ≠ 0)) hi)
  have lw : (witW (shiftB ns tss) ns.length i).length = ns.length := by simp [witW, wts_len]
  obtain ⟨t0, ts, ets⟩ : ∃ t0 ts, tss = t0 :: ts := by
    cases tss with
    | nil => exact absurd rfl ne
    | cons a b => exact ⟨a, b, rfl⟩
  have eh : tss.headD [] = t0 := by rw [ets]; rfl
  have sk0 : SeatOk ns t0 := sks t0 (by rw [ets]; exact List.mem_cons_self)
  have m0 : 0 < witM (shiftB ns tss) ns.length i := by
    rcases Int.lt_or_le 0 (witM (shiftB ns tss) ns.length i) with z | z
    · exact z
    · have := Int.mul_le_mul_of_nonneg_left z (show 0 ≤ gcdF (diagP 0 (shiftB ns tss)) (wtsF (shiftB ns tss) ns.length i) by omega)
      omega
  have mo : witM (shiftB ns tss) ns.length i % 2 = 1 := by
    rcases Int.emod_two_eq (witM (shiftB ns tss) ns.length i) with z | z
    · rw [e1, Int.mul_emod, z] at od
      simp at od
    · exact z
  have hsep2 : ¬ witM (shiftB ns tss) ns.length i ∣ wsum (witW (shiftB ns tss) ns.length i) (diffL p t0) := fun z => by
    rw [eh] at hsep
    exact hsep (Int.emod_eq_zero_of_dvd ((wd _).mp z))
  have m3 : 3 ≤ witM (shiftB ns tss) ns.length i := by
    have : witM (shiftB ns tss) ns.length i ≠ 1 := fun z => hsep2 (by rw [z]; exact Int.one_dvd _)
    omega
  have mdiff : ∀ a b : Int, a % witM (shiftB ns tss) ns.length i = b % witM (shiftB ns tss) ns.length i ↔ witM (shiftB ns tss) ns.length i ∣ a - b := fun a b => emod_eq_iff
  rw [eh]
  refine ⟨⟨m3, mo, Int.emod_nonneg _ (by omega), Int.emod_lt_of_pos _ m0, lw, fun x hx => ?_, fun j x n hx hn => ?_⟩, fun t ht => ?_, fun z => ?_⟩
  · unfold witW at hx
    obtain ⟨y, hy, rfl⟩ := List.mem_map.mp hx
    obtain ⟨y0, y1⟩ := wts_mem D0 hy
    refine ⟨Int.ediv_nonneg y0 (by omega), ?_⟩
    unfold witM
    obtain ⟨_, _, g3, g4⟩ := gcdF_pos (wtsF (shiftB ns tss) ns.length i) D0
    refine Int.lt_of_mul_lt_mul_left (a := gcdF (diagP 0 (shiftB ns tss)) (wtsF (shiftB ns tss) ns.length i)) ?_ (by omega)
    rw [Int.mul_ediv_cancel' g3, Int.mul_ediv_cancel' (g4 y hy)]
    exact y1
  · obtain ⟨hjn, hje⟩ := List.getElem?_eq_some_iff.mp hn
    refine Int.emod_eq_zero_of_dvd ?_
    have n1 := ok.one n (List.mem_of_getElem? hn)
    obtain ⟨⟨a, ha⟩, _⟩ := oddI_ok n1
    have eo : vf (ns.map oddI) j = oddI n := vf_at (by rw [List.getElem?_map, hn]; rfl)
    have u := unit_shift ok hB ne sks (j := j) hjn (2 ^ a)
    rw [eo, ← ha] at u
    have uv : vf (unitL ns.length j n) = unitV j n := unitL_vf hjn
    rw [← uv] at u
    have tz := tell_zero ok hB ne sks (by simp [unitL]) u hin
    have t2 := (wd _).mpr tz
    have key : wsum (witW (shiftB ns tss) ns.length i) (unitL ns.length j n) = x * n := wsum_unit lw hjn hx
    rw [key] at t2
    exact t2
  · refine (mdiff _ _).mpr ?_
    have skt := sks t ht
    rw [← wsum_diff (by rw [skt.len, lw]) (by rw [sk0.len, lw])]
    refine (wd _).mpr (tell_zero ok hB ne sks (diff_len skt.len sk0.len) ((s3 _).mpr ?_) hin)
    rw [ets] at ht
    rcases List.mem_cons.mp ht with rfl | ht
    · refine Lat.zero.of_eq fun j => ?_
      rw [diff_vf rfl]
      show (0 : Int) = vf t j - vf t j
      omega
    · refine Lat.gen (.inl ⟨diffL t t0, ?_, rfl⟩)
      rw [ets]
      exact List.mem_map.mpr ⟨t, ht, rfl⟩
  · refine hsep2 ?_
    rw [wsum_diff (by rw [sp.len, lw]) (by rw [sk0.len, lw])]
    exact (mdiff _ _).mp z
end

-- sorts
open PySem.W PySem.Calls in
theorem collect_tuple {prog : Program} {w : World} {A : Around} {E : Value → Shared → Prop} {s : Shared} {l : Addr} {vs : List Value} {Q : List Value → Shared → Prop} (hl : IsTup s.heap l vs.toArray)
    (h : Q vs { s with heap := (s.heap.push (seqObj "list" #[] 0)).update s.heap.objs.size (Obj.mapSeq (· ++ vs.toArray)) }) (hsz : vs.length ≤ sizeLine) :
    wpAny (model prog w) A (collect (.ref l)) Q E s := by
  obtain ⟨o, ho, hc, n, hd⟩ := id hl
  unfold collect
  refine wpAny_bind (wpAny_runValue (codeAny_builtin entry_proto_collect' ?_))
  show wpAny _ _ (do again (.builtin "list.__iadd__" ⟨[← newList [], .ref l], []⟩)) _ _ s
  refine wpAny_bind (wpAny_newList (wpAny_pure ⟨Code.quiet_builtin _ (by decide +kernel), codeAny_builtin entry_list_iadd' ?_⟩))
  show wpAny _ _ (Builtin.List.listExtendWith (.ref s.heap.objs.size) (.ref l) (.ref s.heap.objs.size)) _ _ { s with heap := s.heap.push (seqObj "list" #[] 0) }
  unfold Builtin.List.listExtendWith
  have ho' : (s.heap.push (seqObj "list" #[] 0)).get? l = some o := Heap.get?_push_of_some _ ho
  refine wpAny_bind (wpAny_typeOf (T := "tuple") ⟨o, ho', hc⟩ ?_)
  have ht : (Value.type "tuple" == Value.type "tuple") = true := by rfl
  rw [if_pos (by rw [ht]; simp)]
  refine wpAny_bind (listItems_at ho' hd ?_)
  refine wpAny_bind (listItems_at (xs := #[]) (n := 0) (Heap.get?_push_size _ rfl) rfl ?_)
  rw [if_neg (by simp)]
  refine wpAny_bind (listUpdate_at (xs := #[]) (n := 0) (Heap.get?_push_size _ rfl) rfl ?_ (Nat.zero_le _) (by show (#[] ++ vs.toArray).size ≤ sizeLine + 1; simp only [Array.size_append, List.size_toArray, List.length_nil]; omega))
  refine wpAny_pure ?_
  show wpAny (model prog w) A (do
      let o ← load s.heap.objs.size
      match o.data with
      | .seq xs _ => pure xs.toList
      | _ => unsupported "internal:collect") Q E { s with heap := (s.heap.push (seqObj "list" #[] 0)).update s.heap.objs.size (Obj.mapSeq (· ++ vs.toArray)) }
  refine wpAny_bind (wpAny_load (get?_update_seq (Heap.get?_push_size _ rfl) _) ?_)
  show wpAny _ _ (pure ((#[] : Array Value) ++ vs.toArray).toList) Q E _
  rw [show ((#[] : Array Value) ++ vs.toArray).toList = vs by simp]
  exact wpAny_pure h
open PySem.W PySem.Calls in
theorem sorted_of_tup {prog : Program} {w : World} {A : Around} {E : Value → Shared → Prop} {s : Shared} {l : Addr} {vs : List Value} {Q : Value → Shared → Prop} (hl : IsTup s.heap l vs.toArray) (hL : vs.length ≤ sizeLine)
    (body : ∀ E' : Value → Shared → Prop, wpAny (model prog w) A.in1.in1 (Builtin.«list.sort» ⟨[.ref (s.heap.objs.size + 1)], []⟩) (fun f s' => f = .done (.ret .none) ∧ Q (.ref (s.heap.objs.size + 1)) s') E' { s with heap := copyHeap s.heap vs }) :
    wpAny (model prog w) A (call (.builtin "sorted") [.ref l]) Q E s := by
  refine call_function_entry_kw kind_sorted plain_sorted entry_sorted (args_sorted1 _) ?_
  unfold Builtin.«sorted»
  refine wpAny_bind (m := checkCount "sorted" 1 1 _) (wpAny_pure ?_)
  refine wpAny_bind (collect_tuple hl ?_ hL)
  refine wpAny_bind (wpAny_newList ?_ hL)
  have hsz : ((s.heap.push (seqObj "list" #[] 0)).update s.heap.objs.size (Obj.mapSeq (· ++ vs.toArray))).objs.size = s.heap.objs.size + 1 := by
    rw [Heap.size_update, size_push']
  show wpAny _ _ _ _ _ { s with heap := copyHeap s.heap vs }
  rw [hsz]
  refine wpAny_bind (wpAny_holding (wpAny_call_entry_kw slot_list_sort ⟨_, copyHeap_at s.heap vs, rfl⟩ entry_list_sort ?body (args_list_sort _)))
  case body =>
    show wpAny (model prog w) A.in1.in1 (Builtin.«list.sort» ⟨[.ref (s.heap.objs.size + 1)], []⟩) _ _ _
    refine wpAny_mono (body _) (fun f s' hf => ?_) fun _ _ e => e
    obtain ⟨rfl, hq⟩ := hf
    exact ⟨_, rfl, wpAny_pure ⟨_, rfl, hq⟩⟩
open PySem.W PySem.Calls in
theorem sorted_data_t {prog : Program} {w : World} {A : Around} {E : Value → Shared → Prop} {s : Shared} {β : Type} {vs : List Value} {bs : List β} {enc : β → PyData} {R : Value → β → Prop} {l : Addr} {Q : Value → Shared → Prop} (hl : IsTup s.heap l vs.toArray) (e : EachIs R vs bs) (er : EachIs (fun v b => ∃ as, Reads s.heap v (enc b) as) vs bs) (hal : AllAlike (bs.map enc)) (hk : Sortable (bs.map enc)) (hL : bs.length ≤ sizeLine)
    (hu : ∀ b, b ∈ bs → A.units + 2 + (enc b).depth < cLine) (h : ∀ out, out.length = bs.length → EachIs R out (bs.mergeSort (dataLe false enc)) → Q (.ref (s.heap.objs.size + 1)) { s with heap := sortedAll s.heap vs (List.toArray out) }) :
    wpAny (model prog w) A (call (.builtin "sorted") [.ref l]) Q E s := by
  have er' : EachIs (fun v b => ∃ as, Reads (sortingHeap (copyHeap s.heap vs) (s.heap.objs.size + 1) vs) v (enc b) as) vs bs := er.mono fun _ _ ⟨as, r⟩ => ⟨as, PyProof.Rows.Reads.keeps (fun _ _ => sorting_copy_old) r⟩
  have hL' : vs.length ≤ sizeLine := by rw [e.length]; exact hL
  exact sorted_of_tup hl hL' fun _ => list_sort_vals (s := { s with heap := copyHeap s.heap vs }) (copyHeap_at s.heap vs) (SortsAt.data (s := { s with heap := sortingHeap (copyHeap s.heap vs) (s.heap.objs.size + 1) vs }) (each_map (R := fun v d => ∃ as, Reads (sortingHeap (copyHeap s.heap vs) (s.heap.objs.size + 1) vs) v d as) enc er') hal hk (bound_map hu)) hL' ⟨rfl, h _ (by rw [sortVals_length false rfl]; exact e.length) (sortVals_data false e er' hal)⟩
/-- the order of tuples of ints -/
def leT (a b : List Int) : Bool := PySem.W.dataLe false iT a b
/-- sorted(q), q a list or tuple of tuples of ints -/
def rSortQ (K : PySem.W.Frag) : List V → Hp → VK → Prop := fun vs H Q => ∃ (q : Bool × Addr) (xs : List V) (tss : List (List Int)), vs = [V.ref q.2] ∧ CZ.SqK K H q xs ∧ RowsR H xs tss ∧ (∀ ts ∈ tss, ts ≠ []) ∧
  ∀ (ys : List V) (p : Addr), RowsR H ys (tss.mergeSort leT) → H p = none → Q (.ref p) (upd H p (.lst ys))
open PySem.W in
theorem each_rows {H : Hp} : ∀ {xs : List V} {tss : List (List Int)} {us : List Value}, RowsR H xs tss → Vals xs us → EachIs (fun (u : Value) (ts : List Int) => ∃ t, u = Value.ref t ∧ H t = some (.tup (ts.map V.int))) us tss
  | _, _, _, .nil, .nil => .nil
  | _, _, _, .cons ⟨r, e, h⟩ t, .cons rv tv => by
    subst e
    cases rv
    exact .cons ⟨r, rfl, h⟩ (each_rows t tv)
open PySem.W in
theorem rows_each {H : Hp} : ∀ {us : List Value} {tss : List (List Int)}, EachIs (fun (u : Value) (ts : List Int) => ∃ t, u = Value.ref t ∧ H t = some (.tup (ts.map V.int))) us tss → ∃ ys, RowsR H ys tss ∧ Vals ys us
  | _, _, .nil => ⟨[], .nil, .nil⟩
  | _, _, .cons ⟨t, e, h⟩ r => by
    subst e
    obtain ⟨ys, h1, h2⟩ := rows_each r
    exact ⟨.ref t :: ys, .cons ⟨t, rfl, h⟩ h1, .cons rfl h2⟩
open PySem.W in
theorem each_dp {X : Cx} {pins : List (Addr × Obj)} {σ : L2.St} {H : Hp} {s : Shared} (I : Inv X pins σ H s) : ∀ {us : List Value} {tss : List (List Int)}, EachIs (fun (u : Value) (ts : List Int) => ∃ t, u = Value.ref t ∧ H t = some (.tup (ts.map V.int))) us tss → EachIs (fun v b => ∃ as, Reads s.heap v (iT b) as) us tss
  | _, _, .nil => .nil
  | _, _, .cons ⟨t, e, h⟩ r => by
    subst e
    exact .cons (Dp.reads I _ (.ref t) _ (dp_ints h) rfl) (each_dp I r)
theorem alike_iT (a b : List Int) : PySem.W.alike (iT a) (iT b) = true := by
  show PySem.W.alike (.tuple (a.map .int)) (.tuple (b.map .int)) = true
  rw [PySem.W.alike]
  exact PySem.W.alike_ints a b
theorem cr_sortQ {X : Cx} (hu : X.A.units + 65 < cLine) : CallR X (.builtin "sorted") (rSortQ X.K) := by
  intro pins s σ H vs us Q I r h
  obtain ⟨⟨b, a⟩, xs, tss, rfl, hs, rr, ne, q⟩ := h
  rw [Vals.ref1 r]
  have hk : PySem.W.Sortable (tss.map iT) := .inl fun d hd => by
    obtain ⟨ts, ht, rfl⟩ := List.mem_map.mp hd
    cases ts with
    | nil => exact absurd rfl (ne _ ht)
    | cons x l => exact ⟨_, _, rfl⟩
  have hU : ∀ ts, ts ∈ tss → X.A.units + 2 + (iT ts).depth < cLine := fun ts _ => by
    have e := PySem.W.depth_ints ts
    have : (iT ts).depth = 1 := by
      show PyData.depth (.tuple (ts.map .int)) = 1
      simp only [PyData.depth, e]
    omega
  have fin : ∀ its : List Value, Vals xs its → xs.length ≤ sizeLine → ∀ out, out.length = tss.length → PySem.W.EachIs (fun (u : Value) (ts : List Int) => ∃ t, u = Value.ref t ∧ H t = some (.tup (ts.map V.int))) out (tss.mergeSort (PySem.W.dataLe false iT)) → EP X pins σ Q (.ref (s.heap.objs.size + 1)) { s with heap := sortedAll s.heap its (List.toArray out) } := by
    intro its rv hz out lo eo
    obtain ⟨ys, h1, h2⟩ := rows_each eo
    obtain ⟨ep, he'⟩ := PyProof.Rows.sortedAll_at s.heap its (List.toArray out)
    have hlen : ys.length ≤ sizeLine := by
      rw [h2.length, lo, ← Paired.length rr]
      exact hz
    exact ⟨.ref _, upd H (s.heap.objs.size + 1) (.lst ys), I.laid (t' := s.toks) (fun _ _ => PyProof.Rows.sortedAll_old) (Nat.le_succ _) ⟨hlen, out, ep, h2, he'⟩, rfl, q ys _ h1 (I.hok.fresh (Nat.le_succ _))⟩
  have hal : PySem.W.AllAlike (tss.map iT) := PySem.W.AllAlike.of alike_iT
  cases b with
  | false =>
    obtain ⟨its, rv, hl, hz⟩ := I.list (show SqL X.K H a xs from hs)
    have e := each_rows rr rv
    exact PySem.W.sorted_data (enc := iT) hl.isList e (each_dp I e) hal hk (by rw [← Paired.length rr]; exact hz) hU (fin its rv hz)
  | true =>
    obtain ⟨its, rv, hl, hz⟩ := I.tuple (show SqT X.K H a xs from hs)
    have e := each_rows rr rv
    exact sorted_data_t (enc := iT) hl e (each_dp I e) hal hk (by rw [← Paired.length rr]; exact hz) hU (fin its rv hz)

/-- a witness stands at wt -/
def WitAt (H : Hp) (wt : Addr) (m : Int) (ws : List Int) (r : Int) : Prop := ∃ wa, H wt = some (.tup [.int m, .ref wa, .int r]) ∧ H wa = some (.tup (ws.map V.int))
theorem WitAt.mono {H H2 : Hp} {wt : Addr} {m r : Int} {ws : List Int} (e : Ex H H2) (h : WitAt H wt m ws r) : WitAt H2 wt m ws r := by
  obtain ⟨wa, h1, h2⟩ := h
  exact ⟨wa, e _ _ h1, e _ _ h2⟩
section
variable {P : Program} {w : World} {K : PySem.W.Frag} {mg : Str → Option Value} {base : Heap}
def sp_is_witness (C : Addr) : Sp := fun vs H Q _ => ∃ (a : Addr) (x : V), vs = [.ref a, x] ∧ ((∃ (l : Addr) (xs : List V), x = .ref l ∧ H l = some (.lst xs) ∧ Q (.bl false) H) ∨ ∃ (wt : Addr) (ns ws : List Int) (m r : Int), x = .ref wt ∧ TabAt C H a ns ∧ ns.length ≤ 4 ∧ (∀ n ∈ ns, n.natAbs < 2 ^ 5000) ∧ WitAt H wt m ws r ∧ WitOk ns m ws r ∧ m.natAbs < 2 ^ 5000 ∧ ∀ H2, Ex H H2 → Q (.bl true) H2)
theorem ok_is_witness (T : TX K mg) : FnOk P w K mg base CX0 3 T.f_is_witness T.fd_is_witness ["table", "witness"] (sp_is_witness T.C_Table) := by
  refine T.F_is_witness.ok sc_is_witness (fun vs H Q E h => ?_) (fun cdv A outer s H vs Q E hr h => ?_)
  · obtain ⟨a, x, rfl, _⟩ := h
    rfl
  · obtain ⟨a, x, rfl, h⟩ := h
    refine ⟨_, (pss_cons (ps_if (PW.pt (pw_or (pt_not (pt_val (pe_callB call_isi (by rfl) T.z_isinstance (by decide +kernel) (pa_cons (pv 1) (pa_cons (pe_bltn (v := .ty "tuple") rfl T.z_tuple (by decide +kernel) rfl) pa_nil))))) (pw_or1 (pt_cmpR op_ne (pe_callB call_len_seq (by rfl) T.z_len (by decide +kernel) (pa_cons (pv 1) pa_nil)) pe_int (nomark _))))) (pss_one (ps_ret pe_bl)) pss_nil) (pss_cons (ps_asg (pv 1) (pg_tup rfl (pgs_cons (pg_name (i := 2) sc_is_witness.nd rfl (Or.inr rfl)) (pgs_cons (pg_name (i := 3) sc_is_witness.nd rfl (Or.inl rfl)) (pgs_cons (pg_name (i := 4) sc_is_witness.nd rfl (Or.inl rfl)) pgs_nil))))) (pss_cons (ps_if (PW.pt (pw_or (pt_not (pt_val (pe_call (ok_is_at_least T) hr rfl T.m_is_at_least T.F_is_at_least.kp T.b_is_at_least .nil pass0 (pa_cons (pv 2) (pa_cons pe_int pa_nil))))) (pw_or (pt_cmpR op_eq (pe_op op_mod (pv 2) pe_int) pe_int (nomark _)) (pw_or1 (pt_not (pt_val (pe_call (ok_is_between T) hr rfl T.m_is_between T.F_is_between.kp T.b_is_between .nil pass0 (pa_cons (pv 4) (pa_cons pe_int (pa_cons (pe_op op_sub (pv 2) pe_int) pa_nil)))))))))) (pss_one (ps_ret pe_bl)) pss_nil) (pss_cons (ps_if (PW.pt (pw_or (pt_not (pt_val (pe_callB call_isi (by rfl) T.z_isinstance (by decide +kernel) (pa_cons (pv 3) (pa_cons (pe_bltn (v := .ty "tuple") rfl T.z_tuple (by decide +kernel) rfl) pa_nil))))) (pw_or1 (pt_cmpR op_ne (pe_callB call_len_seq (by rfl) T.z_len (by decide +kernel) (pa_cons (pv 3) pa_nil)) (pe_callB call_len_seq (by rfl) T.z_len (by decide +kernel) (pa_cons (pe_meth0 (pv 0) T.cl_Table T.me_Table_sizes (ok_Table_sizes T) (hr.mono (by decide)) T.b_Table_sizes .nil pass0) pa_nil)) (nomark _))))) (pss_one (ps_ret pe_bl)) pss_nil) (pss_cons (ps_if (pt_not (pt_val (pe_callB (cr_all rfl) (by rfl) T.z_all (by decide +kernel) (pa_cons (pe_lc (own := [("weight", 5)]) (g := (gName 5)) rfl sc_is_witness.nd (pi_tup (pv 3)) (blkOk_by (N := N_is_witness) (sc := defScope s_is_witness) (by decide +kernel)) (fun _ _ _ _ _ => (pg_name (i := 5) sc_is_witness.nd rfl (Or.inl rfl))) (fun _ _ _ _ _ => pts_nil) (fun _ _ _ _ _ => (pe_call (ok_is_between T) hr rfl T.m_is_between T.F_is_between.kp T.b_is_between .nil pass0 (pa_cons (pv 5) (pa_cons pe_int (pa_cons (pe_op op_sub (pv 2) pe_int) pa_nil)))))) pa_nil)))) (pss_one (ps_ret pe_bl)) pss_nil) (pss_one (ps_ret (pe_callB (cr_all rfl) (by rfl) T.z_all (by decide +kernel) (pa_cons (pe_lc (own := [("weight", 5), ("size", 6)]) (g := (gTup K 2 (gCons (gName 5) (gCons (gName 6) gNil)))) rfl sc_is_witness.nd (CZ.pi_z2s (fl := [true, true]) rfl (by rfl) T.z_zip (pa_cons (pv 3) (pa_cons (pe_meth0 (pv 0) T.cl_Table T.me_Table_sizes (ok_Table_sizes T) (hr.mono (by decide)) T.b_Table_sizes .nil pass0) pa_nil))) (blkOk_by (N := N_is_witness) (sc := defScope s_is_witness) (by decide +kernel)) (fun _ _ _ _ _ => (pg_tup rfl (pgs_cons (pg_name (i := 5) sc_is_witness.nd rfl (Or.inl rfl)) (pgs_cons (pg_name (i := 6) sc_is_witness.nd rfl (Or.inl rfl)) pgs_nil)))) (fun _ _ _ _ _ => pts_nil) (fun _ _ _ _ _ => (pe_cmpR op_eq (pe_op op_mod (pe_op op_mulI (pv 5) (pv 6)) (pv 2)) pe_int (nomark _)))) pa_nil))))))))), ?_⟩
    rcases h with ⟨l, xs, rfl, hl, k⟩ | ⟨wt, ns, ws, m, r, rfl, tab, n4, bn, ⟨wa, hwt, hwa⟩, ok, bm, k⟩
    · exact ⟨_, rfl, _, _, _, _, false, rfl, .ty _, .base (.lst hl), kit_ty (by decide +kernel), _, rfl, itt rfl k⟩
    have m3 := ok.m3
    have lw := ok.len
    obtain ⟨dx, t, g1, g2⟩ := id tab
    refine ⟨_, rfl, _, _, _, _, true, rfl, .ty _, .base (.tup hwt), kit_ty (by decide +kernel), _, rfl, ?_⟩
    refine ⟨_, rfl, wt, _, rfl, .inr (SqT.of hwt), rfl, _, rfl, ?_⟩
    refine itf rfl ?_
    refine ⟨_, rfl, wt, _, rfl, SqT.of hwt, rfl, _, _, rfl, _, _, rfl, _, _, rfl, rfl, ?_⟩
    refine ⟨_, rfl, _, some m, 3, rfl, rfl, _, rfl, itf (by show (!decide (3 ≤ m)) = false; rw [decide_eq_true m3]; rfl) ?_⟩
    refine ⟨_, rfl, _, _, rfl, rfl, (by show (0 : Int) < 2; decide), rfl, _, rfl, itf (by rw [dec_int]; have := ok.odd; simp; omega) ?_⟩
    refine ⟨_, rfl, _, rfl, _, _, rfl, rfl, _, some r, 0, m - 1, rfl, rfl, _, rfl, itf ?_ ?_⟩
    · show (!(decide (0 ≤ r) && decide (r ≤ m - 1))) = false
      have h1 := ok.r0
      have h2 := ok.r1
      rw [decide_eq_true h1, decide_eq_true (by omega)]
      rfl
    refine ⟨_, rfl, _, _, _, _, true, rfl, .ty _, .base (.tup hwa), kit_ty (by decide +kernel), _, rfl, ?_⟩
    refine ⟨_, rfl, wa, _, rfl, .inr (SqT.of hwa), _, rfl, a, dx, _, rfl, g1, rfl, a, dx, t, rfl, g1, t, _, rfl, .inr (SqT.of g2), rfl, _, rfl, itf (by rw [List.length_map, List.length_map, lw]; simp) ?_⟩
    refine ⟨_, rfl, wa, rfl, ⟨_, SqT.of hwa⟩, fun D hD => ?_⟩
    have all1 : (ws.map fun x => between (some x) 0 (m - 1)).all id = true := by
      rw [List.all_map, List.all_eq_true]
      intro x hx
      obtain ⟨x0, x1⟩ := ok.w0 x hx
      show (decide (0 ≤ x) && decide (x ≤ m - 1)) = true
      rw [decide_eq_true x0, decide_eq_true (by omega)]
      rfl
    refine lc_vals (walk_tup (xs := ws.map V.int)) ((ws.map fun x => between (some x) 0 (m - 1)).map V.bl) (by simp) (by rw [List.length_map]; omega) hD (fun H3 e => SqT.of (e _ _ hwa)) ?_ gmono_name ?_
    · rintro j x _ H1 R hj e1 ⟨rfl, hx⟩ kk
      obtain ⟨z, hz, rfl⟩ := map_get hx
      refine ⟨rfl, _, rfl, _, rfl, _, _, rfl, rfl, _, some z, 0, m - 1, rfl, rfl, kk _ _ exr ?_⟩
      rw [List.getElem?_map, List.getElem?_map, hz]
      rfl
    intro H1 e1 hD1
    refine ⟨D, _, rfl, SqL.of hD1, _, rfl, itf (by rw [all1]; rfl) ?_⟩
    obtain ⟨dx2, t2, g3, g4⟩ := tab.mono e1
    refine ⟨_, rfl, _, rfl, a, dx2, _, rfl, g3, rfl, a, dx2, t2, rfl, g3, [wa, t2], rfl, rfl, all2 (sqT (e1 _ _ hwa)) (sqT g4), fun D2 hD2 => ?_⟩
    refine lc_vals (CZ.walk_rows (xss := [ws.map V.int, ns.map V.int]) (n := ns.length) (lens2 (by rw [List.length_map, lw]) (by rw [List.length_map]))) ((List.replicate ns.length true).map V.bl) (by simp) (by omega) hD2 (fun H3 e => .cons (sqT (e _ _ (e1 _ _ hwa))) (.cons (sqT (e _ _ g4)) .nil)) ?_ (gmono_tup (gmono_cons gmono_name (gmono_cons gmono_name gmono_nil))) ?_
    · intro j y H2 H3 R hj e yy kk
      obtain ⟨Tb, x, n, rfl, hTb, rfl, hx, hn⟩ := yints2 yy
      obtain ⟨x0, x1⟩ := ok.w0 x (List.mem_of_getElem? hx)
      have xb : x.natAbs < 2 ^ 5000 := Nat.lt_of_le_of_lt (by omega) bm
      refine ⟨Tb, _, rfl, SqT.of upd_same, rfl, _, _, rfl, _, _, rfl, rfl, ?_⟩
      refine ⟨rfl, _, rfl, _, rfl, _, _, rfl, rfl, (wide_mul xb (bn n (List.mem_of_getElem? hn)) (by decide) (by decide) (by decide)).ok, _, rfl, _, _, rfl, rfl, (by show (0 : Int) < m; omega), rfl, kk _ _ (exn hTb) ?_⟩
      rw [List.getElem?_map, List.getElem?_replicate, if_pos hj]
      have fz := ok.fit j x n hx hn
      show some (V.bl true) = some (V.bl (decide (V.int (x * n % m) = V.int 0)))
      rw [fz]
      rfl
    · intro H2 e2 hD3
      refine ⟨D2, _, rfl, SqL.of hD3, ?_⟩
      have : (List.replicate ns.length true).all id = true := by simp
      rw [this]
      exact k _ (ext e1 e2)
end

/-- what reach answers as data -/
theorem reach_dp {K : PySem.W.Frag} {H : Hp} {r : Addr} {ns p t0 : List Int} {B : List (List Int)} (h : ReachV H r ns p t0 B) : ∃ ds, Dp K H (.ref r) (.tuple ds) ∧ Sh 50 (.tuple ds) ∧ PyData.eqv (.tuple ds) (.tuple [.str "reachable"]) = freeF 0 B (diffL p t0) ∧ ∃ vs, H r = some (.tup (.str (if freeF 0 B (diffL p t0) = true then "reachable" else "unreachable") :: vs)) := by
  have s1 : PyData.strOk "reachable" = true := by decide +kernel
  have s2 : PyData.strOk "unreachable" = true := by decide +kernel
  have sh1 : ∀ {n : Nat} {z : Str}, PyData.strOk z = true → Sh n (.str z) := fun hz => ⟨by simp only [PyData.canLay0, hz], by simp only [PyData.depth]; omega⟩
  unfold ReachV at h
  by_cases hf : freeF 0 B (diffL p t0) = true
  · rw [if_pos hf] at h
    refine ⟨[.str "reachable"], .tup (SqT.of h) (.cons (.str _) .nil), (sh_tuple (n := 1) fun d hd => by rw [List.mem_singleton.mp hd]; exact sh1 s1).up (by decide), ?_, [], by rw [if_pos hf]; exact h⟩
    rw [hf]
    exact eqv_refl _ (sh_tuple (n := 1) fun d hd => by rw [List.mem_singleton.mp hd]; exact sh1 s1).1
  · rw [if_neg hf] at h
    obtain ⟨i, wt, wa, _, h1, h2, h3⟩ := h
    refine ⟨[.str "unreachable", .tuple [.int _, iT _, .int _]], .tup (SqT.of h1) (.cons (.str _) (.cons (.tup (SqT.of h2) (.cons (.int _) (.cons (dp_ints h3) (.cons (.int _) .nil)))) .nil)), ?_, ?_, [_], by rw [if_neg hf]; exact h1⟩
    · refine (sh_tuple (n := 10) fun d hd => ?_).up (by decide)
      rcases List.mem_cons.mp hd with rfl | hd
      · exact sh1 s2
      · rw [List.mem_singleton.mp hd]
        refine (sh_tuple (n := 5) fun d hd => ?_).up (by decide)
        rcases List.mem_cons.mp hd with rfl | hd
        · exact sh_int _
        · rcases List.mem_cons.mp hd with rfl | hd
          · exact sh_ints _
          · rw [List.mem_singleton.mp hd]
            exact sh_int _
    · have hf2 : freeF 0 B (diffL p t0) = false := by simpa using hf
      rw [hf2]
      simp [PyData.eqv, PyData.eqvAll]
theorem ReachV.mono {H H2 : Hp} {r : Addr} {ns p t0 : List Int} {B : List (List Int)} (e : Ex H H2) (h : ReachV H r ns p t0 B) : ReachV H2 r ns p t0 B := by
  unfold ReachV at h ⊢
  split
  · rename_i hf
    rw [if_pos hf] at h
    exact e _ _ h
  · rename_i hf
    rw [if_neg hf] at h
    obtain ⟨i, wt, wa, h0, h1, h2, h3⟩ := h
    exact ⟨i, wt, wa, h0, e _ _ h1, e _ _ h2, e _ _ h3⟩

/-! ### targets as a set -/
/-- good targets -/
structure TgOk (ns : List Int) (tss : List (List Int)) : Prop where
  ok : SzOk ns
  hB : SzC ns
  ne : tss ≠ []
  sks : ∀ ts ∈ tss, SeatOk ns ts
abbrev inL (ns : List Int) (tss : List (List Int)) (v : Vec) : Prop := Lat (rowsG (shiftB ns tss)) v
theorem TgOk.head {ns : List Int} {tss : List (List Int)} (h : TgOk ns tss) : tss.headD [] ∈ tss := by
  have := h.ne
  cases tss with
  | nil => exact absurd rfl this
  | cons a b => exact List.mem_cons_self
theorem TgOk.base {ns : List Int} {tss : List (List Int)} (h : TgOk ns tss) {t : List Int} (ht : t ∈ tss) : inL ns tss (fun i => vf t i - vf (tss.headD []) i) := by
  obtain ⟨s1, s2, s3, s4⟩ := shift_ok h.ok h.hB h.ne h.sks
  have sk := h.sks t ht
  have sk0 := h.sks _ h.head
  refine (s3 _).mpr ?_
  rw [← diff_vf (by rw [sk.len, sk0.len])]
  have := h.ne
  cases tss with
  | nil => exact absurd rfl this
  | cons t0 ts =>
    rcases List.mem_cons.mp ht with rfl | ht2
    · refine Lat.zero.of_eq fun j => ?_
      show (0 : Int) = vf (diffL t t) j
      rw [diff_vf rfl]
      show (0 : Int) = vf t j - vf t j
      omega
    · exact Lat.gen (.inl ⟨diffL t t0, List.mem_map.mpr ⟨t, ht2, rfl⟩, rfl⟩)
theorem TgOk.pair {ns : List Int} {tss : List (List Int)} (h : TgOk ns tss) {t u : List Int} (ht : t ∈ tss) (hu : u ∈ tss) : inL ns tss (fun i => vf t i - vf u i) :=
  ((h.base ht).comb (h.base hu) 1).of_eq fun i => by omega
/-- more targets: a larger lattice -/
theorem lat_sub {ns : List Int} {tss uss : List (List Int)} (h : TgOk ns tss) (g : TgOk ns uss) (sub : ∀ t ∈ tss, inL ns uss (fun i => vf t i - vf (uss.headD []) i)) {v : Vec} (hv : inL ns tss v) : inL ns uss v := by
  obtain ⟨s1, s2, s3, s4⟩ := shift_ok h.ok h.hB h.ne h.sks
  refine ((s3 _).mp hv).le fun w hw => ?_
  rcases hw with ⟨r, hr, rfl⟩ | ⟨j, _, hj, rfl⟩
  · obtain ⟨t, ht, rfl⟩ := List.mem_map.mp hr
    have ht2 : t ∈ tss := List.mem_of_mem_tail ht
    have sk := h.sks t ht2
    have sk0 := h.sks _ h.head
    rw [diff_vf (by rw [sk.len, sk0.len])]
    exact ((sub t ht2).comb (sub _ h.head) 1).of_eq fun i => by omega
  · have := unit_shift g.ok g.hB g.ne g.sks hj 1
    rwa [Int.one_mul] at this
theorem lat_mem {ns : List Int} {tss uss : List (List Int)} (h : TgOk ns tss) (g : TgOk ns uss) (sub : ∀ t ∈ tss, t ∈ uss) {v : Vec} (hv : inL ns tss v) : inL ns uss v := lat_sub h g (fun t ht => g.base (sub t ht)) hv
/-- reachable: by any target -/
theorem free_any {ns : List Int} {tss : List (List Int)} (h : TgOk ns tss) {p : List Int} (sp : SeatOk ns p) {t : List Int} (ht : t ∈ tss) : freeF 0 (shiftB ns tss) (diffL p (tss.headD [])) = true ↔ inL ns tss (fun i => vf p i - vf t i) := by
  obtain ⟨s1, s2, s3, s4⟩ := shift_ok h.ok h.hB h.ne h.sks
  have sk0 := h.sks _ h.head
  rw [free_iff s1 s2 (diff_len sp.len sk0.len), diff_vf (by rw [sp.len, sk0.len])]
  have hb := h.base ht
  constructor
  · exact fun z => (z.comb hb 1).of_eq fun i => by omega
  · exact fun z => (z.add hb).of_eq fun i => by omega
theorem diag_eq {ns : List Int} {tss uss : List (List Int)} (h : TgOk ns tss) (g : TgOk ns uss) (sub : ∀ v, inL ns tss v → inL ns uss v) : diagP 0 (shiftB ns uss) ∣ diagP 0 (shiftB ns tss) ∧ (diagP 0 (shiftB ns tss) = diagP 0 (shiftB ns uss) ↔ ∀ v, inL ns uss v → inL ns tss v) := by
  obtain ⟨s1, s2, _, _⟩ := shift_ok h.ok h.hB h.ne h.sks
  obtain ⟨u1, u2, _, _⟩ := shift_ok g.ok g.hB g.ne g.sks
  have d1 := diag_dvd s1 u1 s2 u2 sub ns.length 0 (by omega)
  rw [List.drop_zero, List.drop_zero] at d1
  refine ⟨d1, fun e v hv => lat_back s1 u1 s2 u2 sub e ns.length 0 v (by omega) (fun j hj => absurd hj (by omega)) hv, fun back => ?_⟩
  have d2 := diag_dvd u1 s1 u2 s2 back ns.length 0 (by omega)
  rw [List.drop_zero, List.drop_zero] at d2
  have p1 := tri_D s1 s2
  have p2 := tri_D u1 u2
  exact Int.dvd_antisymm (by omega) (by omega) d2 d1
/-- one target: the least lattice -/
theorem lat_one {ns p : List Int} {uss : List (List Int)} (h : TgOk ns [p]) (g : TgOk ns uss) {v : Vec} (hv : inL ns [p] v) : inL ns uss v := by
  obtain ⟨s1, s2, s3, s4⟩ := shift_ok h.ok h.hB h.ne h.sks
  refine ((s3 _).mp hv).le fun w hw => ?_
  rcases hw with ⟨r, hr, rfl⟩ | ⟨j, _, hj, rfl⟩
  · obtain ⟨t, ht, rfl⟩ := List.mem_map.mp hr
    cases ht
  · have := unit_shift g.ok g.hB g.ne g.sks hj 1
    rwa [Int.one_mul] at this
theorem TgOk.single {ns p : List Int} {tss : List (List Int)} (h : TgOk ns tss) (sk : SeatOk ns p) : TgOk ns [p] := ⟨h.ok, h.hB, by simp, fun t ht => by rw [List.mem_singleton.mp ht]; exact sk⟩
theorem free_swap {ns a p : List Int} {tss : List (List Int)} (h : TgOk ns tss) (ska : SeatOk ns a) (skp : SeatOk ns p) : freeF 0 (shiftB ns [p]) (diffL a ([p].headD [])) = freeF 0 (shiftB ns [a]) (diffL p ([a].headD [])) := by
  rw [Bool.eq_iff_iff, free_any (h.single skp) ska (List.mem_singleton.mpr rfl), free_any (h.single ska) skp (List.mem_singleton.mpr rfl)]
  constructor
  · exact fun z => (Lat.zero.comb (lat_one (h.single skp) (h.single ska) z) 1).of_eq fun i => by omega
  · exact fun z => (Lat.zero.comb (lat_one (h.single ska) (h.single skp) z) 1).of_eq fun i => by omega
/-- the same targets -/
theorem free_same {ns p : List Int} {tss uss : List (List Int)} (h : TgOk ns tss) (g : TgOk ns uss) (skp : SeatOk ns p) (e : ∀ v, inL ns tss v ↔ inL ns uss v) {t : List Int} (t1 : t ∈ tss) (t2 : t ∈ uss) : freeF 0 (shiftB ns tss) (diffL p (tss.headD [])) = freeF 0 (shiftB ns uss) (diffL p (uss.headD [])) := by
  rw [Bool.eq_iff_iff, free_any h skp t1, free_any g skp t2]
  exact e _
theorem RowsR.drop {H : Hp} : ∀ (k : Nat) {xs : List V} {tss : List (List Int)}, RowsR H xs tss → RowsR H (xs.drop k) (tss.drop k)
  | 0, _, _, h => h
  | _ + 1, _, _, .nil => .nil
  | k + 1, _, _, .cons _ t => RowsR.drop k t
theorem RowsR.take {H : Hp} : ∀ (k : Nat) {xs : List V} {tss : List (List Int)}, RowsR H xs tss → RowsR H (xs.take k) (tss.take k)
  | 0, _, _, _ => .nil
  | _ + 1, _, _, .nil => .nil
  | k + 1, _, _, .cons q t => .cons q (RowsR.take k t)
theorem rot_mem {α : Type} {k : Nat} {l : List α} {x : α} : x ∈ l.drop k ++ l.take k ↔ x ∈ l := by
  rw [List.mem_append, or_comm, ← List.mem_append, List.take_append_drop]
theorem rot_nodup {α : Type} {k : Nat} {l : List α} (h : l.Nodup) : (l.drop k ++ l.take k).Nodup := by
  have h2 : (l.take k ++ l.drop k).Nodup := by rw [List.take_append_drop]; exact h
  rw [List.nodup_append] at h2 ⊢
  exact ⟨h2.2.1, h2.1, fun a ha b hb z => h2.2.2 b hb a ha z.symm⟩

theorem wit_small {ns : List Int} {tss : List (List Int)} (h : TgOk ns tss) (i : Nat) : (witM (shiftB ns tss) ns.length i).natAbs < 2 ^ 5000 := by
  obtain ⟨s1, s2, s3, s4⟩ := shift_ok h.ok h.hB h.ne h.sks
  have D0 := tri_D s1 s2
  exact lt_pow (div_small (small_D s1 h.ok.le s4) (gcdF_pos _ D0).1) (by decide)
theorem RowsR.rev {H : Hp} : ∀ {xs : List V} {hss : List (List Int)}, RowsR H xs hss → RowsR H xs.reverse hss.reverse
  | _, _, .nil => .nil
  | _, _, .cons ⟨r, h1, h2⟩ t => by
    rw [List.reverse_cons, List.reverse_cons, h1]
    exact RowsR.snoc h2 (RowsR.rev t)
theorem use_reach {C a s q : Addr} {bq : Bool} {H : Hp} {ns p : List Int} {tss : List (List Int)} {Q : VK} {E : XK} (tg : TgOk ns tss) (tab : TabAt C H a ns) (hq : RowsQ H (bq, q) tss) (lt : tss.length ≤ 1000) (nod : tss.Nodup) (hs : H s = some (.tup (p.map V.int))) (sk : SeatOk ns p)
    (k : ∀ r H2, Ex H H2 → ReachV H2 r ns p (tss.headD []) (shiftB ns tss) → Q (.ref r) H2) : sp_reach C [.ref a, .ref q, .ref s] H Q E := by
  obtain ⟨ok, hB, ne, sks⟩ := tg
  cases tss with
  | nil => exact absurd rfl ne
  | cons t0 ts => exact ⟨a, s, (bq, q), ns, p, t0, ts, rfl, tab, ok, hB, hq, lt, sks, nod, hs, sk, k⟩
theorem RowsAt.q {H : Hp} {D : Addr} {tss : List (List Int)} (h : RowsAt H D tss) : RowsQ H (false, D) tss := h
theorem shW (b : Bool) : Sh 60 (.str (if b = true then "reachable" else "unreachable")) := by
  cases b
  · exact ⟨by simp only [PyData.canLay0]; decide +kernel, by simp only [PyData.depth]; omega⟩
  · exact ⟨by simp only [PyData.canLay0]; decide +kernel, by simp only [PyData.depth]; omega⟩
theorem shR : Sh 60 (.tuple [.str "reachable"]) := (sh_tuple (n := 1) fun d hd => by rw [List.mem_singleton.mp hd]; exact ⟨by simp only [PyData.canLay0]; decide +kernel, by simp only [PyData.depth]; omega⟩).up (by decide)
theorem cat_ints {K : PySem.W.Frag} {H : Hp} {Q : VK} {a b : Addr} {xs ys : List Int} (ha : H a = some (.tup (xs.map V.int))) (hb : H b = some (.tup (ys.map V.int))) (hl : xs.length ≤ 1000) (hm : ys.length ≤ 1000) (h : ∀ v H5, Ex H H5 → H5 v = some (.tup ((xs ++ ys).map V.int)) → Q (.ref v) H5) : rCatA K (.ref a) (.ref b) H Q := by
  refine ⟨a, b, _, _, rfl, rfl, SqT.of ha, SqT.of hb, ?_, fun e => ?_, fun _ e => ?_, fun _ _ p hp => ?_⟩
  · rw [List.length_map, List.length_map]
    exact Nat.le_trans (show _ ≤ 2000 by omega) (by decide)
  · refine h b H exr ?_
    rw [List.map_append, e]
    exact hb
  · refine h a H exr ?_
    rw [List.map_append, e, List.append_nil]
    exact ha
  · refine h p _ (exn hp) ?_
    rw [List.map_append]
    exact upd_same
theorem sl_ints {K : PySem.W.Frag} {H : Hp} {Q : VK} {a : Addr} {xs : List V} {lo hi : Option Int} (ha : H a = some (.tup xs)) (h : ∀ v H5, Ex H H5 → H5 v = some (.tup (cutV xs lo hi)) → Q (.ref v) H5) : rSlA K (.ref a) lo hi H Q :=
  ⟨a, _, rfl, SqT.of ha, fun hw => h a H exr (by rw [cut_whole hw]; exact ha), fun _ p hp => h p _ (exn hp) upd_same⟩
theorem reach_no {H : Hp} {r : Addr} {ns p : List Int} {tss : List (List Int)} (tg : TgOk ns tss) (sk : SeatOk ns p) (rv : ReachV H r ns p (tss.headD []) (shiftB ns tss)) (hf : freeF 0 (shiftB ns tss) (diffL p (tss.headD [])) = false) :
    ∃ (m rr : Int) (ws : List Int) (wt : Addr), H r = some (.tup [.str "unreachable", .ref wt]) ∧ WitAt H wt m ws rr ∧ WitOk ns m ws rr ∧ m.natAbs < 2 ^ 5000 ∧ (∀ t ∈ tss, wsum ws t % m = rr) ∧ wsum ws p % m ≠ rr := by
  unfold ReachV at rv
  rw [if_neg (by rw [hf]; simp)] at rv
  obtain ⟨iw, wt, wa, hi, h1, h2, h3⟩ := rv
  obtain ⟨wok, w1, w2⟩ := wit_ok tg.ok tg.hB tg.ne tg.sks sk hi
  exact ⟨_, _, _, wt, h1, ⟨wa, h2, h3⟩, wok, wit_small tg iw, w1, w2⟩
theorem shU : Sh 60 (.str "unreachable") := shW false
theorem TabAt.push {C a D : Addr} {H : Hp} {ns : List Int} {xs : List V} {o : HO} (hD : H D = some (.lst xs)) (h : TabAt C H a ns) : TabAt C (upd H D o) a ns := by
  obtain ⟨dx, t, h1, h2⟩ := h
  exact ⟨dx, t, by rw [upd_ne (ne_of h1 hD (by intro z; cases z))]; exact h1, by rw [upd_ne (ne_of h2 hD (by intro z; cases z))]; exact h2⟩
theorem tup_push {q D : Addr} {H : Hp} {xs ys : List V} {o : HO} (hD : H D = some (.lst xs)) (h : H q = some (.tup ys)) : upd H D o q = some (.tup ys) := by
  rw [upd_ne (ne_of h hD (by intro z; cases z))]
  exact h
theorem WitAt.xb {s wt : Addr} {H H2 : Hp} {m r : Int} {ws : List Int} (h : WitAt H wt m ws r) (src : Src H s) (xb : XB s H H2) : WitAt H2 wt m ws r := by
  obtain ⟨wa, h1, h2⟩ := h
  exact ⟨wa, tup_xb src h1 xb, tup_xb src h2 xb⟩
theorem wit_bounds {ns ws p : List Int} {m r : Int} (hB : SzC ns) (w : WitOk ns m ws r) (bm : m.natAbs < 2 ^ 5000) (sk : SeatOk ns p) : ws.length = p.length ∧ (∀ x ∈ ws, x.natAbs < 2 ^ 5000) ∧ ∀ x ∈ p, x.natAbs < 2 ^ 5000 := by
  refine ⟨by rw [w.len, sk.len], fun x hx => ?_, fun x hx => ?_⟩
  · obtain ⟨x0, x1⟩ := w.w0 x hx
    exact Nat.lt_of_le_of_lt (by omega) bm
  · obtain ⟨j, hj⟩ := List.getElem?_of_mem hx
    have := (seat_vf sk hB j).2.1
    rw [vf_at hj] at this
    exact lt_pow this (by decide)
/-- an if that draws, and ends the def or leaves all names as they are -/
theorem ifs_xb {s : Addr} {c : TT} {t u : TS} {D : Ends} {σ : L2.St} {H : Hp} (h : ∀ N : L2.St → Hp → Prop, (∀ H2, XB s H H2 → Src H2 s → N σ H2) → tIfS c t u { D with nx := N } σ H) (hR : ∀ H2, XB s H H2 → Src H2 s → D.nx σ H2) : tIfS c t u D σ H :=
  ifs_cutG (fun σ2 H2 => σ2 = σ ∧ XB s H H2 ∧ Src H2 s) (by rintro σ2 H2 ⟨rfl, e, z⟩; exact hR H2 e z) (fun N hN => h N fun H2 e z => hN σ H2 ⟨rfl, e, z⟩)
theorem sif_xb {s : Addr} {c : TT} {t u r : TS} {D : Ends} {σ : L2.St} {H : Hp} (h : ∀ N : L2.St → Hp → Prop, (∀ H2, XB s H H2 → Src H2 s → N σ H2) → tIfS c t u { D with nx := N } σ H) (hR : ∀ H2, XB s H H2 → Src H2 s → r D σ H2) : tSeq (tIfS c t u) r D σ H :=
  ifs_xb (D := { D with nx := r D }) h hR
theorem sif_cut {c : TT} {t u r : TS} {D : Ends} {σ : L2.St} {H : Hp} (R : L2.St → Hp → Prop) (h : ∀ N : L2.St → Hp → Prop, (∀ σ2 H2, R σ2 H2 → N σ2 H2) → tIfS c t u { D with nx := N } σ H) (hR : ∀ σ2 H2, R σ2 H2 → r D σ2 H2) : tSeq (tIfS c t u) r D σ H :=
  ifs_cutG (D := { D with nx := r D }) R hR h

/-! ### a witness protects: plain -/
def twV (ws : List Int) (v : Vec) : Int := sumN ws.length fun j => vf ws j * v j
theorem wsum_tw : ∀ {ws xs : List Int}, xs.length = ws.length → wsum ws xs = twV ws (vf xs)
  | [], [], _ => rfl
  | w :: ws, x :: xs, h => by
    rw [wsum_cons, wsum_tw (Nat.succ.inj h)]
    show _ = sumN (ws.length + 1) _
    rw [sumN_head]
    rfl
theorem tw_step (ws : List Int) (v g : Vec) (k : Int) : twV ws (fun i => v i - k * g i) = twV ws v - k * twV ws g := by
  unfold twV
  have e : (fun j => vf ws j * (v j - k * g j)) = fun j => vf ws j * v j + (-k) * (vf ws j * g j) := by
    funext j
    grind
  rw [e, sumN_add, sumN_mul]
  grind
theorem lat_tw {G : Vec → Prop} {v : Vec} {m : Int} {ws : List Int} (h : Lat G v) (hg : ∀ g, G g → m ∣ twV ws g) : m ∣ twV ws v := by
  induction h with
  | zero =>
    have e : twV ws (fun _ => 0) = 0 := by
      unfold twV
      simp only [Int.mul_zero]
      exact sumN_zero _
    rw [e]
    exact Int.dvd_zero m
  | step k h hg2 ih =>
    rw [tw_step]
    exact Int.dvd_sub ih (Int.dvd_mul_of_dvd_right (hg _ hg2))
theorem sumN_pick {f : Nat → Int} {x : Int} {j : Nat} : ∀ {n : Nat}, sumN n (fun k => f k * unitV j x k) = if j < n then f j * x else 0
  | 0 => rfl
  | n + 1 => by
    show sumN n _ + f n * unitV j x n = _
    rw [sumN_pick]
    unfold unitV
    by_cases h1 : n = j
    · subst h1
      simp
    · rw [if_neg h1]
      by_cases h2 : j < n
      · rw [if_pos h2, if_pos (by omega)]
        omega
      · rw [if_neg h2, if_neg (by omega)]
        omega
theorem odd_pow2 {o x : Int} (h : o % 2 = 1) : ∀ k : Nat, o ∣ 2 ^ k * x → o ∣ x
  | 0, d => by simpa using d
  | k + 1, d => by
    refine odd_pow2 h k ?_
    rw [Int.pow_succ, Int.mul_comm ((2 : Int) ^ k), Int.mul_assoc] at d
    obtain ⟨c, hc⟩ := d
    refine ⟨2 ^ k * x - c * (o / 2), ?_⟩
    have e : o = 2 * (o / 2) + 1 := by omega
    generalize o / 2 = q at *
    subst e
    grind
theorem wit_unit {ns ws : List Int} {m r : Int} (ok : SzOk ns) (w : WitOk ns m ws r) {j : Nat} (hj : j < ns.length) : m ∣ vf ws j * vf (ns.map oddI) j := by
  have hw : ws[j]? = some (ws[j]'(by rw [w.len]; exact hj)) := List.getElem?_eq_getElem _
  have hn : ns[j]? = some ns[j] := List.getElem?_eq_getElem _
  have f := w.fit j _ _ hw hn
  have e : (ns.map oddI)[j]? = some (oddI ns[j]) := by rw [List.getElem?_map, hn]; rfl
  rw [vf_at hw, vf_at e]
  obtain ⟨⟨k, hk⟩, _⟩ := oddI_ok (ok.one _ (List.getElem_mem hj))
  refine odd_pow2 w.odd k ?_
  have d := Int.dvd_of_emod_eq_zero f
  rw [hk] at d
  refine (congrArg (m ∣ ·) ?_).mp d
  rw [Int.mul_left_comm]
/-- all free shifts have the value 0 -/
theorem wit_shift {ns ws : List Int} {m r : Int} {tss : List (List Int)} (tg : TgOk ns tss) (w : WitOk ns m ws r) (ht : ∀ t ∈ tss, wsum ws t % m = r) {v : Vec} (hv : inL ns tss v) : m ∣ twV ws v := by
  obtain ⟨s1, s2, s3, s4⟩ := shift_ok tg.ok tg.hB tg.ne tg.sks
  refine lat_tw ((s3 _).mp hv) fun g hg => ?_
  rcases hg with ⟨x, hx, rfl⟩ | ⟨j, _, hj, rfl⟩
  · obtain ⟨t, ht2, rfl⟩ := List.mem_map.mp hx
    have tm : t ∈ tss := List.mem_of_mem_tail ht2
    have l1 := (tg.sks t tm).len
    have l2 := (tg.sks _ tg.head).len
    have lw := w.len
    rw [← wsum_tw (by rw [diff_len l1 l2, lw]), wsum_diff (by rw [l1, lw]) (by rw [l2, lw])]
    exact emod_eq_iff.mp ((ht t tm).trans (ht _ tg.head).symm)
  · unfold twV
    rw [sumN_pick, if_pos (by rw [w.len]; exact hj)]
    exact wit_unit tg.ok w hj
theorem wit_blocks {ns ws p : List Int} {m r : Int} {tss : List (List Int)} (tg : TgOk ns tss) (w : WitOk ns m ws r) (ht : ∀ t ∈ tss, wsum ws t % m = r) (sk : SeatOk ns p) (hp : wsum ws p % m ≠ r) : freeF 0 (shiftB ns tss) (diffL p (tss.headD [])) = false := by
  rw [Bool.eq_false_iff]
  intro h
  have h2 := wit_shift tg w ht ((free_any tg sk tg.head).mp h)
  have lw := w.len
  have sk0 := tg.sks _ tg.head
  rw [← diff_vf (by rw [sk.len, sk0.len]), ← wsum_tw (by rw [diff_len sk.len sk0.len, lw]), wsum_diff (by rw [sk.len, lw]) (by rw [sk0.len, lw])] at h2
  exact hp ((emod_eq_iff.mpr h2).trans (ht _ tg.head))
/-- a move adds the value of the call -/
theorem wsum_shiftL {m f : Int} : ∀ {ws ns ps cs : List Int}, ws.length = ns.length → ps.length = ns.length → cs.length = ns.length → (∀ (i : Nat) (x n : Int), ws[i]? = some x → ns[i]? = some n → x * n % m = 0) → m ∣ wsum ws (shiftL ns ps cs f) - (wsum ws ps + f * wsum ws cs)
  | [], [], [], [], _, _, _, _ => by
    show m ∣ 0 - (0 + f * 0)
    simp
  | x :: ws, n :: ns, p :: ps, c :: cs, h1, h2, h3, hf => by
    have ih := wsum_shiftL (m := m) (f := f) (Nat.succ.inj h1) (Nat.succ.inj h2) (Nat.succ.inj h3) fun i x n hx hn => hf (i + 1) x n (by simpa using hx) (by simpa using hn)
    have f0 := Int.dvd_of_emod_eq_zero (hf 0 x n rfl rfl)
    show m ∣ wsum (x :: ws) ((p + f * c) % n :: shiftL ns ps cs f) - _
    rw [wsum_cons, wsum_cons, wsum_cons]
    have e := Int.mul_ediv_add_emod (p + f * c) n
    have d2 : m ∣ x * n * ((p + f * c) / n) := Int.dvd_mul_of_dvd_left f0
    have d3 := Int.dvd_sub ih d2
    refine (congrArg (m ∣ ·) ?_).mp d3
    grind
theorem two_moves {ns ws ps cs : List Int} {m r : Int} (w : WitOk ns m ws r) (l1 : ps.length = ns.length) (l2 : cs.length = ns.length) (h1 : wsum ws (shiftL ns ps cs 1) % m = r) (h2 : wsum ws (shiftL ns ps cs (-1)) % m = r) : wsum ws ps % m = r := by
  have a := wsum_shiftL (f := 1) w.len l1 l2 w.fit
  have b := wsum_shiftL (f := -1) w.len l1 l2 w.fit
  have c := emod_eq_iff.mp (h1.trans h2.symm)
  have rm : r % m = r := Int.emod_eq_of_lt w.r0 w.r1
  rw [← rm] at h2 ⊢
  rw [emod_eq_iff] at h2 ⊢
  have d : m ∣ 2 ^ 1 * (wsum ws ps - r) := by
    have := Int.dvd_sub (Int.dvd_add h2 h2) (Int.dvd_add a b)
    have := Int.dvd_add this c
    refine (congrArg (m ∣ ·) ?_).mp this
    grind
  exact odd_pow2 w.odd 1 d
/-- the first ring alone -/
theorem first_wit {n0 M b : Int} {ns : List Int} (M3 : 3 ≤ M) (Mo : M % 2 = 1) (Md : M ∣ n0) : WitOk (n0 :: ns) M (1 :: List.replicate ns.length 0) (b % M) := by
  refine ⟨M3, Mo, Int.emod_nonneg _ (by omega), Int.emod_lt_of_pos _ (by omega), by simp, fun x hx => ?_, fun i x n hx hn => ?_⟩
  · rcases List.mem_cons.mp hx with rfl | h
    · exact ⟨by omega, by omega⟩
    · rw [(List.mem_replicate.mp h).2]
      exact ⟨by omega, by omega⟩
  · cases i with
    | zero =>
      cases hx
      cases hn
      rw [Int.one_mul]
      exact Int.emod_eq_zero_of_dvd Md
    | succ i =>
      have h2 : (List.replicate ns.length (0 : Int))[i]? = some x := by simpa using hx
      have := List.mem_of_getElem? h2
      rw [(List.mem_replicate.mp this).2, Int.zero_mul]
      rfl
theorem first_sum {k : Nat} {t : List Int} (h : t ≠ []) : wsum (1 :: List.replicate k 0) t = vf t 0 := by
  cases t with
  | nil => exact absurd rfl h
  | cons x xs =>
    rw [wsum_cons, wsum_zero fun w hw => (List.mem_replicate.mp hw).2]
    show 1 * x + 0 = x
    omega
theorem first_off {n0 M b r : Int} (M3 : 3 ≤ M) (Md : M ∣ n0) (r0 : 0 ≤ r) (r1 : r < M - 1) : (b + 1 + r) % n0 % M ≠ b % M := by
  rw [Int.emod_emod_of_dvd _ Md]
  intro h
  have h2 := emod_eq_iff.mp h
  have e : b + 1 + r - b = 1 + r := by omega
  rw [e] at h2
  have := Int.le_of_dvd (by omega) h2
  omega

theorem odd_dvd {n : Int} (h : 1 ≤ n) : oddI n ∣ n := by
  obtain ⟨⟨k, hk⟩, _⟩ := oddI_ok h
  conv => rhs; rw [hk]
  exact Int.dvd_mul_left _ _
theorem odds_at {ns : List Int} {i : Nat} {n : Int} (h : ns[i]? = some n) : vf (ns.map oddI) i = oddI n := vf_at (by rw [List.getElem?_map, h]; rfl)
theorem emod_dvd (a n : Int) : n ∣ a % n - a := ⟨-(a / n), by have := Int.mul_ediv_add_emod a n; grind⟩

/-- all seats, in ascending order -/
def crossS (hss : List (List Int)) (n : Int) : List (List Int) := hss.flatMap fun hs => (List.range n.toNat).map fun (i : Nat) => hs ++ [(i : Int)]
def allS (ns : List Int) : List (List Int) := ns.foldl crossS [[]]
theorem allS_snoc (ns : List Int) (n : Int) : allS (ns ++ [n]) = crossS (allS ns) n := by
  unfold allS
  rw [List.foldl_append]
  rfl
theorem crossS_snoc (hss : List (List Int)) (hs : List Int) (n : Int) : crossS (hss ++ [hs]) n = crossS hss n ++ (List.range n.toNat).map fun (i : Nat) => hs ++ [(i : Int)] := by
  unfold crossS
  rw [List.flatMap_append]
  simp
theorem crossS_len (n : Int) : ∀ hss : List (List Int), (crossS hss n).length = hss.length * n.toNat
  | [] => by simp [crossS]
  | h :: hss => by
    have ih := crossS_len n hss
    unfold crossS at ih ⊢
    rw [List.flatMap_cons, List.length_append, ih, List.length_map, List.length_range, List.length_cons, Nat.succ_mul, Nat.add_comm]
def prodL (ns : List Int) : Int := ns.foldl (fun p n => p * n) 1
theorem prodS_snoc (ns : List Int) (n : Int) : prodL (ns ++ [n]) = prodL ns * n := by
  unfold prodL
  rw [List.foldl_append]
  rfl
theorem fold_mul (ns : List Int) : ∀ p : Int, ns.foldl (fun p n => p * n) p = p * ns.foldl (fun p n => p * n) 1 := by
  induction ns with
  | nil => intro p; simp
  | cons n ns ih =>
    intro p
    rw [List.foldl_cons, List.foldl_cons, ih (p * n), ih (1 * n), Int.one_mul, Int.mul_assoc]
theorem prodL_cons (n : Int) (ns : List Int) : prodL (n :: ns) = n * prodL ns := by
  unfold prodL
  rw [List.foldl_cons, fold_mul, Int.one_mul]
theorem prodL_pos : ∀ {ns : List Int}, (∀ n ∈ ns, 1 ≤ n) → 1 ≤ prodL ns
  | [], _ => by decide
  | n :: ns, h => by
    rw [prodL_cons]
    exact Int.mul_pos (by have := h n List.mem_cons_self; omega) (by have := prodL_pos (fun m hm => h m (List.mem_cons_of_mem _ hm)); omega)
theorem prodL_take : ∀ {ns : List Int} (i : Nat), (∀ n ∈ ns, 1 ≤ n) → prodL (ns.take i) ≤ prodL ns
  | [], _, _ => by simp
  | n :: ns, 0, h => by
    rw [List.take_zero]
    exact prodL_pos h
  | n :: ns, i + 1, h => by
    rw [List.take_succ_cons, prodL_cons, prodL_cons]
    exact Int.mul_le_mul_of_nonneg_left (prodL_take i fun m hm => h m (List.mem_cons_of_mem _ hm)) (by have := h n List.mem_cons_self; omega)
theorem foldS_len : ∀ (ns : List Int) (hss : List (List Int)), (∀ n ∈ ns, 1 ≤ n) → ((ns.foldl crossS hss).length : Int) = hss.length * prodL ns
  | [], hss, _ => by simp [prodL]
  | n :: ns, hss, h => by
    have n1 := h n List.mem_cons_self
    rw [List.foldl_cons, foldS_len ns _ fun m hm => h m (List.mem_cons_of_mem _ hm), crossS_len, prodL_cons, Int.natCast_mul, Int.toNat_of_nonneg (by omega), Int.mul_assoc]
theorem allS_len {ns : List Int} (h : ∀ n ∈ ns, 1 ≤ n) : ((allS ns).length : Int) = prodL ns := by
  unfold allS
  rw [foldS_len ns _ h]
  simp
theorem mem_foldS : ∀ (ns : List Int) (hss : List (List Int)) (p : List Int), p ∈ ns.foldl crossS hss ↔ ∃ h ∈ hss, ∃ q, SeatOk ns q ∧ p = h ++ q
  | [], hss, p => by
    constructor
    · intro h
      exact ⟨p, h, [], True.intro, by simp⟩
    · rintro ⟨h, hh, q, sk, rfl⟩
      cases q with
      | nil => rw [List.append_nil]; exact hh
      | cons x q => exact sk.elim
  | n :: ns, hss, p => by
    rw [List.foldl_cons, mem_foldS ns]
    constructor
    · rintro ⟨h, hh, q, sk, rfl⟩
      obtain ⟨g, hg, hh⟩ := List.mem_flatMap.mp hh
      obtain ⟨i, hi, rfl⟩ := List.mem_map.mp hh
      have := List.mem_range.mp hi
      exact ⟨g, hg, (i : Int) :: q, ⟨⟨by omega, by omega⟩, sk⟩, by simp⟩
    · rintro ⟨h, hh, q, sk, rfl⟩
      cases q with
      | nil => exact sk.elim
      | cons x q =>
        obtain ⟨⟨x0, x1⟩, sk⟩ : (0 ≤ x ∧ x < n) ∧ SeatOk ns q := sk
        refine ⟨h ++ [x], List.mem_flatMap.mpr ⟨h, hh, List.mem_map.mpr ⟨x.toNat, List.mem_range.mpr (by omega), by rw [Int.toNat_of_nonneg x0]⟩⟩, q, sk, by simp⟩
theorem mem_allS {ns p : List Int} : p ∈ allS ns ↔ SeatOk ns p := by
  unfold allS
  rw [mem_foldS]
  constructor
  · rintro ⟨h, hh, q, sk, rfl⟩
    rw [List.mem_singleton.mp hh]
    exact sk
  · intro sk
    exact ⟨[], List.mem_singleton.mpr rfl, p, sk, rfl⟩
theorem rows_allS {ns : List Int} : ∀ hs ∈ allS ns, hs.length = ns.length := fun hs h => (mem_allS.mp h).len
/-- the seat as far behind p as o is ahead -/
def mirL : List Int → List Int → List Int → List Int
  | n :: ns, p :: ps, o :: os => ((2 * p - o) % n) :: mirL ns ps os
  | _, _, _ => []
theorem mirL_len : ∀ {ns ps os : List Int}, ps.length = ns.length → os.length = ns.length → (mirL ns ps os).length = ns.length
  | [], _, _, _, _ => by cases ‹List Int› <;> cases ‹List Int› <;> rfl
  | n :: ns, p :: ps, o :: os, h1, h2 => by
    simp only [mirL, List.length_cons] at *
    rw [mirL_len (by omega) (by omega)]
theorem mirL_get : ∀ {ns ps os : List Int} {i : Nat} {n p o : Int}, ns[i]? = some n → ps[i]? = some p → os[i]? = some o → (mirL ns ps os)[i]? = some ((2 * p - o) % n)
  | n :: ns, p :: ps, o :: os, 0, _, _, _, h1, h2, h3 => by
    simp at h1 h2 h3
    subst h1 h2 h3
    rfl
  | n :: ns, p :: ps, o :: os, i + 1, _, _, _, h1, h2, h3 => by
    rw [List.getElem?_cons_succ] at h1 h2 h3
    show (mirL ns ps os)[i]? = _
    exact mirL_get h1 h2 h3
  | [], _, _, _, _, _, _, h1, _, _ => by simp at h1
  | _ :: _, [], _, _, _, _, _, _, h1, _ => by simp at h1
  | _ :: _, _ :: _, [], _, _, _, _, _, _, h1 => by simp at h1
theorem mirL_seat : ∀ {ns ps os : List Int}, (∀ n ∈ ns, 1 ≤ n) → ps.length = ns.length → os.length = ns.length → SeatOk ns (mirL ns ps os)
  | [], _, _, _, _, _ => by cases ‹List Int› <;> cases ‹List Int› <;> exact True.intro
  | n :: ns, p :: ps, o :: os, h, h1, h2 => by
    have n1 := h n List.mem_cons_self
    exact ⟨⟨Int.emod_nonneg _ (by omega), Int.emod_lt_of_pos _ (by omega)⟩, mirL_seat (fun m hm => h m (List.mem_cons_of_mem _ hm)) (by simpa using h1) (by simpa using h2)⟩
/-- the call that leads from p to o -/
def toL : List Int → List Int → List Int → List Int
  | n :: ns, p :: ps, o :: os => ((o - p) % n) :: toL ns ps os
  | _, _, _ => []
theorem toL_len : ∀ {ns ps os : List Int}, ps.length = ns.length → os.length = ns.length → (toL ns ps os).length = ns.length
  | [], _, _, _, _ => by cases ‹List Int› <;> cases ‹List Int› <;> rfl
  | n :: ns, p :: ps, o :: os, h1, h2 => by
    simp only [toL, List.length_cons] at *
    rw [toL_len (by omega) (by omega)]
theorem toL_get : ∀ {ns ps os : List Int} {i : Nat} {n p o : Int}, ns[i]? = some n → ps[i]? = some p → os[i]? = some o → (toL ns ps os)[i]? = some ((o - p) % n)
  | n :: ns, p :: ps, o :: os, 0, _, _, _, h1, h2, h3 => by
    simp at h1 h2 h3
    subst h1 h2 h3
    rfl
  | n :: ns, p :: ps, o :: os, i + 1, _, _, _, h1, h2, h3 => by
    rw [List.getElem?_cons_succ] at h1 h2 h3
    show (toL ns ps os)[i]? = _
    exact toL_get h1 h2 h3
  | [], _, _, _, _, _, _, h1, _, _ => by simp at h1
  | _ :: _, [], _, _, _, _, _, _, h1, _ => by simp at h1
  | _ :: _, _ :: _, [], _, _, _, _, _, _, h1 => by simp at h1
/-- the number of a seat in a list of numbers -/
def dep (fs : List (List Int × Nat)) (p : List Int) : Option Nat := (fs.find? fun q => decide (q.1 = p)).map (·.2)
abbrev keysL (fs : List (List Int × Nat)) : List (List Int) := fs.map (·.1)
theorem dep_cons (f : List Int × Nat) (fs : List (List Int × Nat)) (p : List Int) : dep (f :: fs) p = if f.1 = p then some f.2 else dep fs p := by
  unfold dep
  rw [List.find?_cons]
  by_cases c : f.1 = p
  · rw [decide_eq_true c, if_pos c]
    rfl
  · rw [decide_eq_false c, if_neg c]
theorem dep_isSome {fs : List (List Int × Nat)} {p : List Int} : (dep fs p).isSome = decide (p ∈ keysL fs) := by
  induction fs with
  | nil => simp [dep]
  | cons f fs ih =>
    rw [dep_cons]
    by_cases c : f.1 = p
    · rw [if_pos c]
      simp [c]
    · rw [if_neg c, ih]
      have : ¬ p = f.1 := fun z => c z.symm
      simp [this]
/-- the seats that join next -/
def newL (ns : List Int) (fs : List (List Int × Nat)) (miss newest : List (List Int)) : List (List Int) := miss.filter fun s => newest.any fun o => decide (mirL ns s o ∈ keysL fs)
abbrev atD (d : Nat) (ps : List (List Int)) : List (List Int × Nat) := ps.map fun p => (p, d)
def missL (fs : List (List Int × Nat)) (miss : List (List Int)) : List (List Int) := miss.filter fun s => decide (s ∉ keysL fs)
def roundsL (ns : List Int) : Nat → List (List Int × Nat) → List (List Int) → List (List Int) → Nat → List (List Int × Nat)
  | 0, fs, _, _, _ => fs
  | f + 1, fs, miss, newest, d => if newest = [] then fs else
    roundsL ns f (fs ++ atD (d + 1) (newL ns fs miss newest)) (missL (fs ++ atD (d + 1) (newL ns fs miss newest)) miss) (newL ns fs miss newest) (d + 1)
def countsL (ns : List Int) (tss : List (List Int)) : List (List Int × Nat) := roundsL ns ((allS ns).length + 2) (atD 0 tss) (missL (atD 0 tss) (allS ns)) tss 0
theorem crossS_nodup {hss : List (List Int)} (n : Int) (h : hss.Nodup) : (crossS hss n).Nodup := by
  unfold crossS
  unfold List.Nodup at h ⊢
  rw [List.pairwise_flatMap]
  constructor
  · intro hs _
    rw [List.pairwise_map]
    refine List.Pairwise.imp (fun {a b} z e => z ?_) List.nodup_range
    have := (List.append_inj' e rfl).2
    exact Int.ofNat.inj (List.cons.inj this).1
  · refine h.imp fun {a b} z x hx y hy e => z ?_
    obtain ⟨i, _, rfl⟩ := List.mem_map.mp hx
    obtain ⟨j, _, rfl⟩ := List.mem_map.mp hy
    exact (List.append_inj' e rfl).1
theorem allS_nodup (ns : List Int) : (allS ns).Nodup := by
  unfold allS
  have : ∀ (ns : List Int) (hss : List (List Int)), hss.Nodup → (ns.foldl crossS hss).Nodup := fun ns => by
    induction ns with
    | nil => exact fun _ h => h
    | cons n ns ih => exact fun hss h => ih _ (crossS_nodup n h)
  exact this ns _ (by simp)
theorem filter_two {α : Type} {c d : α → Bool} : ∀ {l : List α}, (∀ x ∈ l, c x = true → d x = false) → (l.filter c).length + (l.filter d).length ≤ l.length
  | [], _ => by simp
  | x :: l, h => by
    have ih := filter_two (l := l) fun y hy => h y (List.mem_cons_of_mem _ hy)
    rw [List.filter_cons, List.filter_cons]
    cases hc : c x
    · cases d x <;> simp <;> omega
    · rw [h x List.mem_cons_self hc]
      simp
      omega
theorem newL_sub {ns : List Int} {fs : List (List Int × Nat)} {miss newest : List (List Int)} {p : List Int} (h : p ∈ newL ns fs miss newest) : p ∈ miss := (List.mem_filter.mp h).1
theorem keys_app (fs gs : List (List Int × Nat)) : keysL (fs ++ gs) = keysL fs ++ keysL gs := List.map_append
theorem mem_missL {fs : List (List Int × Nat)} {miss : List (List Int)} {p : List Int} : p ∈ missL fs miss ↔ p ∈ miss ∧ p ∉ keysL fs := by
  unfold missL
  rw [List.mem_filter, decide_eq_true_iff]

/-- a dict of numbers by seats -/
abbrev entK (p : List Int) : List L2.Key := p.map Sum.inl
abbrev entV (q : List Int × Nat) : List L2.Key × V := (entK q.1, V.int (q.2 : Int))
theorem entK_kV (p : List Int) : (entK p).map kV = p.map V.int := by rw [List.map_map]; rfl
theorem entK_inj {p q : List Int} (h : entK p = entK q) : p = q := by
  induction p generalizing q with
  | nil =>
    cases q with
    | nil => rfl
    | cons => cases h
  | cons a p ih =>
    cases q with
    | nil => cases h
    | cons b q =>
      obtain ⟨h1, h2⟩ := List.cons.inj h
      rw [Sum.inl.inj h1, ih h2]
def CntAt (H : Hp) (d : Addr) (fs : List (List Int × Nat)) : Prop := H d = some (.dT (fs.map entV))
theorem CntAt.mono {H H2 : Hp} {d : Addr} {fs : List (List Int × Nat)} (e : Ex H H2) (h : CntAt H d fs) : CntAt H2 d fs := e _ _ h
theorem val_ent (p : List Int) : ∀ fs : List (List Int × Nat), valV (fs.map entV) (entK p) = (dep fs p).map fun d : Nat => V.int (d : Int)
  | [] => rfl
  | f :: fs => by
    rw [List.map_cons]
    by_cases c : f.1 = p
    · rw [valV_pos (show entK f.1 = entK p by rw [c])]
      unfold dep
      rw [List.find?_cons, decide_eq_true c]
      rfl
    · rw [valV_neg (fun z => c (entK_inj z)), val_ent p fs]
      unfold dep
      rw [List.find?_cons, decide_eq_false c]
theorem cnt_get {H : Hp} {d r : Addr} {fs : List (List Int × Nat)} {p : List Int} (h : CntAt H d fs) (hr : H r = some (.tup (p.map V.int))) : DGet H d (.ref r) ((dep fs p).map fun d : Nat => V.int (d : Int)) := by
  rw [← val_ent]
  exact DGet.t h (by rw [entK_kV]; exact hr)
theorem tup_dict {q D : Addr} {H : Hp} {kvs : List (List L2.Key × V)} {ys : List V} {o : HO} (hD : H D = some (.dT kvs)) (h : H q = some (.tup ys)) : upd H D o q = some (.tup ys) := by
  rw [upd_ne (ne_of h hD (by intro z; cases z))]
  exact h
section
variable {P : Program} {w : World} {K : PySem.W.Frag} {mg : Str → Option Value} {base : Heap}
def sp_all_seats (C : Addr) : Sp := fun vs H Q _ => ∃ (a : Addr) (ns : List Int), vs = [.ref a] ∧ TabAt C H a ns ∧ SzOk ns ∧ prodL ns ≤ 300 ∧ ∀ q H2, Ex H H2 → H q = none → RowsAt H2 q (allS ns) → Q (.ref q) H2
theorem ok_all_seats (T : TX K mg) : FnOk P w K mg base CX0 2 T.f_all_seats T.fd_all_seats ["table"] (sp_all_seats T.C_Table) := by
  refine T.F_all_seats.ok sc_all_seats (fun vs H Q E h => ?_) (fun cdv A outer s H vs Q E hr h => ?_)
  · obtain ⟨a, ns, rfl, _⟩ := h
    rfl
  · obtain ⟨a, ns, rfl, ⟨dx, t, h1, h2⟩, ok, pr, k⟩ := h
    have l4 := ok.le
    refine ⟨_, (pss_cons (ps_set (i := 1) sc_all_seats.nd rfl (Or.inl rfl) (pe_lst (pa_cons (pe_tup pa_nil) pa_nil))) (pss_cons (ps_for PassesOwn.never rfl (pi_tup (pe_meth0 (pv 0) T.cl_Table T.me_Table_sizes (ok_Table_sizes T) hr T.b_Table_sizes .nil pass0)) (pg_name (i := 2) sc_all_seats.nd rfl (Or.inr rfl)) (pss_one (ps_setLc2 (own := [("start", 3), ("place", 4)]) (g := (gName 3)) (g1 := (gName 4)) (vs1 := [4]) (i := 1) rfl sc_all_seats.nd rfl rfl (sw_true rfl rfl rfl (by decide +kernel)) (pi_list (pv 1)) (blkOk_by (N := N_all_seats) (sc := defScope s_all_seats) (by decide +kernel)) (by decide) (fun _ _ _ _ _ => (pg_name (i := 3) sc_all_seats.nd rfl (Or.inl rfl))) (fun _ _ _ _ _ => pts_nil) (fun _ _ _ _ _ => (pi_range1 rfl T.z_range (pa_cons (pv 2) pa_nil))) (fun _ _ _ _ _ => (pg_name (i := 4) sc_all_seats.nd rfl (Or.inl rfl))) (fun _ _ _ _ _ => pts_nil) (fun _ _ _ _ _ => (pe_op (r := rCatA K) op_catA (pv 3) (pe_tup (pa_cons (pv 4) pa_nil))))))) (pss_one (ps_ret (pv 1))))), ?_⟩
    refine ⟨by show 0 ≤ sizeLine; decide, fun u hu => ⟨by show 1 ≤ sizeLine; decide, fun f hf => ?_⟩⟩
    have e2 : Ex H (upd (upd H u (.tup [])) f (.lst [.ref u])) := ext (exn hu) (exn hf)
    have f0 : H f = none := Evl.fresh_back (exn hu) hf
    refine ⟨_, rfl, a, dx, _, rfl, e2 _ _ h1, rfl, a, dx, t, rfl, e2 _ _ h1, t, rfl, ⟨_, SqT.of (e2 _ _ h2)⟩, ?_⟩
    refine for_it (walk_tup (xs := ns.map V.int)) (fun i σ H2 => ∃ (f : Addr) (y1 y2 y3 : Option V), σ = [some (.ref a), some (.ref f), y1, y2, y3] ∧ Ex H H2 ∧ H f = none ∧ RowsAt H2 f (allS (ns.take i))) ⟨_, _, _, _, rfl, e2, f0, _, upd_same, .cons ⟨u, rfl, by rw [upd_ne (ne_of_none upd_same hf)]; exact upd_same⟩ .nil⟩ (fun i σ H2 _ ⟨_, _, _, _, _, e, _⟩ => SqT.of (e _ _ h2)) ?_ ?_
    · rintro i x σ _ H4 hi ⟨f, y1, y2, y3, rfl, e4, f0, ra⟩ ⟨rfl, hx⟩
      obtain ⟨n, hn, rfl⟩ := map_get hx
      have n1 := ok.one n (List.mem_of_getElem? hn)
      have ezs := take_more hn
      have o1 : ∀ m ∈ ns.take i, 1 ≤ m := fun m hm => ok.one m (List.mem_of_mem_take hm)
      have len : ((allS (ns.take i)).length : Int) ≤ 300 := by
        rw [allS_len o1]
        exact Int.le_trans (prodL_take i ok.one) pr
      have nb : n ≤ 300 := by
        have a1 : prodL (ns.take (i + 1)) ≤ prodL ns := prodL_take (i + 1) ok.one
        rw [ezs, prodS_snoc] at a1
        have a2 := prodL_pos o1
        have a3 : 1 * n ≤ prodL (ns.take i) * n := Int.mul_le_mul_of_nonneg_right a2 (by omega)
        omega
      have rows : ∀ hs ∈ allS (ns.take i), hs.length ≤ 4 := fun hs hh => by
        rw [rows_allS hs hh, List.length_take]
        omega
      obtain ⟨xs, ra5, rr⟩ := ra
      generalize hh : allS (ns.take i) = hss at rr len rows
      dsimp only [gName]
      refine ⟨_, rfl, f, rfl, ⟨_, SqL.of ra5⟩, fun D hD => ?_⟩
      refine lc2_it (walk_list (xs := xs)) (fun j H => Ex H4 H ∧ RowsAt H D (crossS (hss.take j) n)) ⟨exn hD, _, upd_same, .nil⟩ (fun j H _ q => SqL.of (q.1 _ _ ra5)) ?_ ?_
      · rintro j x _ H5 hj ⟨e5, rb⟩ ⟨rfl, hx⟩
        obtain ⟨hs, r, hhs, rfl, hr4⟩ := rr.get hx
        refine ⟨rfl, ?_⟩
        refine ⟨_, rfl, n, rfl, by omega, by omega, ?_⟩
        refine in_it walk_range (fun l H => Ex H4 H ∧ RowsAt H D (crossS (hss.take j) n ++ (List.range l).map fun (i : Nat) => hs ++ [(i : Int)])) ⟨e5, ?_⟩ (fun l H _ q => True.intro) ?_ ?_
        · rw [List.range_zero, List.map_nil, List.append_nil]
          exact rb
        · rintro l x _ H7 hl ⟨e7, rc⟩ ⟨rfl, hx⟩
          obtain rfl : x = .int (l : Int) := hx.trans (congrArg V.int (Int.zero_add _))
          refine ⟨rfl, ?_⟩
          refine ⟨_, rfl, _, rfl, by show 1 ≤ sizeLine; decide, fun u hu => ?_⟩
          refine cat_row (exn hu _ _ (e7 _ _ hr4)) upd_same (Nat.le_trans (rows hs (List.mem_of_getElem? hhs)) (by decide)) fun v H8 e8 hv => ?_
          have e8' : Ex H7 H8 := ext (exn hu) e8
          obtain ⟨acc, g1, g2, g3⟩ := rows_push (rc.mono e8') hv
          refine ⟨acc, g1, ?_, ex_upd (ext e7 e8') hD, ?_⟩
          · rw [g2, List.length_append, crossS_len, List.length_map, List.length_range, List.length_take]
            have hl2 : l < n.toNat := hl
            have : min j hss.length * n.toNat ≤ 300 * 300 := Nat.mul_le_mul (by omega) (by omega)
            exact Nat.lt_of_le_of_lt (show _ ≤ 90300 by omega) (by decide)
          · rw [List.range_succ, List.map_append, ← List.append_assoc]
            exact g3
        · rintro Hz ⟨ez, rz⟩
          refine ⟨ez, ?_⟩
          rw [take_more hhs, crossS_snoc]
          exact rz
      · rintro Hz ⟨ez, rz⟩
        rw [List.take_of_length_le (by have := Paired.length rr; omega)] at rz
        refine ⟨D, _, _, _, rfl, ext e4 ez, Evl.fresh_back e4 hD, ?_⟩
        rw [ezs, allS_snoc, hh]
        exact rz
    · rintro σ H2 ⟨f, y1, y2, y3, rfl, e, f0, ra⟩
      rw [List.take_of_length_le (by simp)] at ra
      exact ⟨_, rfl, k f H2 e f0 ra⟩
def sp_mirror_seat (C : Addr) : Sp := fun vs H Q _ => ∃ (a s c : Addr) (ns ps os : List Int), vs = [.ref a, .ref s, .ref c] ∧ TabAt C H a ns ∧ SzOk ns ∧ H s = some (.tup (ps.map V.int)) ∧ H c = some (.tup (os.map V.int)) ∧ ps.length = ns.length ∧ os.length = ns.length ∧
  ∀ H2 q, Ex H H2 → H q = none → H2 q = some (.tup ((mirL ns ps os).map V.int)) → Q (.ref q) H2
theorem ok_mirror_seat (T : TX K mg) : FnOk P w K mg base CX0 2 T.f_mirror_seat T.fd_mirror_seat ["table", "seat", "other"] (sp_mirror_seat T.C_Table) := by
  refine T.F_mirror_seat.ok sc_mirror_seat (fun vs H Q E h => ?_) (fun cdv A outer s H vs Q E hr h => ?_)
  · obtain ⟨a, s, c, ns, ps, os, rfl, _⟩ := h
    rfl
  · obtain ⟨a, s, c, ns, ps, os, rfl, ⟨dx, t, h1, h2⟩, ok, hs, hc, lp, lc, k⟩ := h
    have l4 := ok.le
    refine ⟨_, (pss_one (ps_ret (pe_callTy call_tuple_of (by rfl) T.z_tuple (by decide +kernel) (pa_cons (pe_lc (own := [("place", 3), ("one", 4), ("size", 5)]) (g := (gTup K 3 (gCons (gName 3) (gCons (gName 4) (gCons (gName 5) gNil))))) rfl sc_mirror_seat.nd (CZ.pi_z3s (fl := [true, true, true]) rfl (by rfl) T.z_zip (pa_cons (pv 1) (pa_cons (pv 2) (pa_cons (pe_meth0 (pv 0) T.cl_Table T.me_Table_sizes (ok_Table_sizes T) hr T.b_Table_sizes .nil pass0) pa_nil)))) (blkOk_by (N := N_mirror_seat) (sc := defScope s_mirror_seat) (by decide +kernel)) (fun _ _ _ _ _ => (pg_tup rfl (pgs_cons (pg_name (i := 3) sc_mirror_seat.nd rfl (Or.inl rfl)) (pgs_cons (pg_name (i := 4) sc_mirror_seat.nd rfl (Or.inl rfl)) (pgs_cons (pg_name (i := 5) sc_mirror_seat.nd rfl (Or.inl rfl)) pgs_nil))))) (fun _ _ _ _ _ => pts_nil) (fun _ _ _ _ _ => (pe_op op_mod (pe_op op_sub (pe_op op_mulI pe_int (pv 3)) (pv 4)) (pv 5)))) pa_nil)))), ?_⟩
    refine ⟨_, rfl, _, rfl, _, rfl, a, dx, _, rfl, h1, rfl, a, dx, t, rfl, h1, [s, c, t], rfl, rfl, all3 (sqT hs) (sqT hc) (sqT h2), fun D hD => ?_⟩
    have ls : (mirL ns ps os).length = ns.length := mirL_len lp lc
    refine lc_vals (CZ.walk_rows (xss := [ps.map V.int, os.map V.int, ns.map V.int]) (n := ns.length) (lens3 (by rw [List.length_map, lp]) (by rw [List.length_map, lc]) (by rw [List.length_map]))) ((mirL ns ps os).map V.int) (by rw [List.length_map, ls]) (by omega) hD (fun H3 e => .cons (SqT.of (e _ _ hs)) (.cons (SqT.of (e _ _ hc)) (.cons (SqT.of (e _ _ h2)) .nil))) ?_ (gmono_tup (gmono_cons gmono_name (gmono_cons gmono_name (gmono_cons gmono_name gmono_nil)))) ?_
    · intro i y H3 H4 R hi e yy kk
      obtain ⟨Ta, p, d, n, rfl, hT, rfl, hp, hd, hn⟩ := yints3 yy
      have n1 := ok.one n (List.mem_of_getElem? hn)
      refine ⟨Ta, _, rfl, SqT.of upd_same, rfl, _, _, rfl, _, _, rfl, _, _, rfl, rfl, rfl, ?_⟩
      refine ⟨_, rfl, _, _, rfl, rfl, mul_ok (.inl (by decide)), _, rfl, _, _, rfl, rfl, _, rfl, _, _, rfl, rfl, (by show (0 : Int) < n; omega), ?_⟩
      refine kk _ _ (exn hT) ?_
      rw [List.getElem?_map, mirL_get hn hp hd]
      rfl
    · intro H3 e hD3
      exact ⟨D, _, rfl, .inl ⟨SqL.of hD3, fun q hq => k _ q (ext e (exn hq)) (Evl.fresh_back e hq) upd_same⟩⟩
def sp_call_to (C : Addr) : Sp := fun vs H Q _ => ∃ (a s c : Addr) (ns ps os : List Int), vs = [.ref a, .ref s, .ref c] ∧ TabAt C H a ns ∧ SzOk ns ∧ H s = some (.tup (ps.map V.int)) ∧ H c = some (.tup (os.map V.int)) ∧ ps.length = ns.length ∧ os.length = ns.length ∧
  ∀ H2 q, Ex H H2 → H q = none → H2 q = some (.tup ((toL ns ps os).map V.int)) → Q (.ref q) H2
theorem ok_call_to (T : TX K mg) : FnOk P w K mg base CX0 2 T.f_call_to T.fd_call_to ["table", "seat", "other"] (sp_call_to T.C_Table) := by
  refine T.F_call_to.ok sc_call_to (fun vs H Q E h => ?_) (fun cdv A outer s H vs Q E hr h => ?_)
  · obtain ⟨a, s, c, ns, ps, os, rfl, _⟩ := h
    rfl
  · obtain ⟨a, s, c, ns, ps, os, rfl, ⟨dx, t, h1, h2⟩, ok, hs, hc, lp, lc, k⟩ := h
    have l4 := ok.le
    refine ⟨_, (pss_one (ps_ret (pe_callTy call_tuple_of (by rfl) T.z_tuple (by decide +kernel) (pa_cons (pe_lc (own := [("place", 3), ("one", 4), ("size", 5)]) (g := (gTup K 3 (gCons (gName 3) (gCons (gName 4) (gCons (gName 5) gNil))))) rfl sc_call_to.nd (CZ.pi_z3s (fl := [true, true, true]) rfl (by rfl) T.z_zip (pa_cons (pv 1) (pa_cons (pv 2) (pa_cons (pe_meth0 (pv 0) T.cl_Table T.me_Table_sizes (ok_Table_sizes T) hr T.b_Table_sizes .nil pass0) pa_nil)))) (blkOk_by (N := N_call_to) (sc := defScope s_call_to) (by decide +kernel)) (fun _ _ _ _ _ => (pg_tup rfl (pgs_cons (pg_name (i := 3) sc_call_to.nd rfl (Or.inl rfl)) (pgs_cons (pg_name (i := 4) sc_call_to.nd rfl (Or.inl rfl)) (pgs_cons (pg_name (i := 5) sc_call_to.nd rfl (Or.inl rfl)) pgs_nil))))) (fun _ _ _ _ _ => pts_nil) (fun _ _ _ _ _ => (pe_op op_mod (pe_op op_sub (pv 4) (pv 3)) (pv 5)))) pa_nil)))), ?_⟩
    refine ⟨_, rfl, _, rfl, _, rfl, a, dx, _, rfl, h1, rfl, a, dx, t, rfl, h1, [s, c, t], rfl, rfl, all3 (sqT hs) (sqT hc) (sqT h2), fun D hD => ?_⟩
    have ls : (toL ns ps os).length = ns.length := toL_len lp lc
    refine lc_vals (CZ.walk_rows (xss := [ps.map V.int, os.map V.int, ns.map V.int]) (n := ns.length) (lens3 (by rw [List.length_map, lp]) (by rw [List.length_map, lc]) (by rw [List.length_map]))) ((toL ns ps os).map V.int) (by rw [List.length_map, ls]) (by omega) hD (fun H3 e => .cons (SqT.of (e _ _ hs)) (.cons (SqT.of (e _ _ hc)) (.cons (SqT.of (e _ _ h2)) .nil))) ?_ (gmono_tup (gmono_cons gmono_name (gmono_cons gmono_name (gmono_cons gmono_name gmono_nil)))) ?_
    · intro i y H3 H4 R hi e yy kk
      obtain ⟨Ta, p, d, n, rfl, hT, rfl, hp, hd, hn⟩ := yints3 yy
      have n1 := ok.one n (List.mem_of_getElem? hn)
      refine ⟨Ta, _, rfl, SqT.of upd_same, rfl, _, _, rfl, _, _, rfl, _, _, rfl, rfl, rfl, ?_⟩
      refine ⟨_, rfl, _, rfl, _, _, rfl, rfl, _, rfl, _, _, rfl, rfl, (by show (0 : Int) < n; omega), ?_⟩
      refine kk _ _ (exn hT) ?_
      rw [List.getElem?_map, toL_get hn hp hd]
      rfl
    · intro H3 e hD3
      exact ⟨D, _, rfl, .inl ⟨SqL.of hD3, fun q hq => k _ q (ext e (exn hq)) (Evl.fresh_back e hq) upd_same⟩⟩
end

theorem keys_atD (d : Nat) (ps : List (List Int)) : keysL (atD d ps) = ps := by
  unfold keysL atD
  rw [List.map_map]
  exact List.map_id _
theorem atD_snoc (d : Nat) (ps : List (List Int)) (p : List Int) : atD d (ps ++ [p]) = atD d ps ++ [(p, d)] := List.map_append
theorem dep_none {fs : List (List Int × Nat)} {p : List Int} (h : p ∉ keysL fs) : dep fs p = none := by
  have := dep_isSome (fs := fs) (p := p)
  rw [decide_eq_false h] at this
  exact Option.isSome_eq_false_iff.mp this |> Option.isNone_iff_eq_none.mp
theorem SqH.either {K : PySem.W.Frag} {H : Hp} : ∀ {q : Bool × Addr} {xs : List V}, SqH H q xs → SqL K H q.2 xs ∨ SqT K H q.2 xs
  | (false, _), _, h => .inl (SqL.of h)
  | (true, _), _, h => .inr (SqT.of h)
theorem eqv_ne' {css : List (List Int)} (ne : css ≠ []) : (!PyData.eqv (.list (css.map iT)) (.list (([] : List (List Int)).map iT))) = true := by
  cases css with
  | nil => exact absurd rfl ne
  | cons c r => simp [PyData.eqv, PyData.eqvAll]
theorem nodup_take {α : Type} {l : List α} (nod : l.Nodup) {i : Nat} {x : α} (h : l[i]? = some x) : x ∉ l.take i := fun z => by
  obtain ⟨j, hj⟩ := List.mem_iff_getElem?.mp z
  have jl : j < i := by
    have := (List.getElem?_eq_some_iff.mp hj).1
    rw [List.length_take] at this
    omega
  rw [List.getElem?_take_of_lt jl] at hj
  exact absurd ((List.getElem?_inj (List.getElem?_eq_some_iff.mp hj).1 nod).mp (hj.trans h.symm)) (by omega)
theorem merge_new {e : Nat} : ∀ {nw : List (List Int)} {fs : List (List Int × Nat)}, (∀ p ∈ nw, p ∉ keysL fs) → nw.Nodup → CD.mergeT (fs.map entV) ((atD e nw).map entV) = (fs ++ atD e nw).map entV
  | [], fs, _, _ => by simp [CD.mergeT]
  | p :: nw, fs, h, nod => by
    have hp := h p List.mem_cons_self
    show CD.mergeT (putK (fs.map entV) (entK p) (V.int (e : Int))) ((atD e nw).map entV) = _
    rw [putK_new _ (by rw [val_ent, dep_none hp]; rfl), show fs.map entV ++ [(entK p, V.int (e : Int))] = (fs ++ [(p, e)]).map entV by rw [List.map_append]; rfl, merge_new ?_ (List.nodup_cons.mp nod).2]
    · rw [List.append_assoc]
      rfl
    · intro r hr z
      rw [keys_app] at z
      rcases List.mem_append.mp z with z | z
      · exact h r (List.mem_cons_of_mem _ hr) z
      · have : r = p := List.mem_singleton.mp z
        exact (List.nodup_cons.mp nod).1 (this ▸ hr)
section
variable {P : Program} {w : World} {K : PySem.W.Frag} {mg : Str → Option Value} {base : Heap}
def sp_call_counts (C : Addr) : Sp := fun vs H Q _ => ∃ (a : Addr) (q : Bool × Addr) (ns : List Int) (tss : List (List Int)), vs = [.ref a, .ref q.2] ∧ TabAt C H a ns ∧ SzOk ns ∧ prodL ns ≤ 300 ∧ RowsQ H q tss ∧ tss ≠ [] ∧ tss.length ≤ 1000 ∧ (∀ ts ∈ tss, SeatOk ns ts) ∧ tss.Nodup ∧
  ∀ d H2, Ex H H2 → H d = none → CntAt H2 d (countsL ns tss) → Q (.ref d) H2
theorem ok_call_counts (T : TX K mg) : FnOk P w K mg base CX0 3 T.f_call_counts T.fd_call_counts ["table", "targets"] (sp_call_counts T.C_Table) := by
  refine T.F_call_counts.ok sc_call_counts (fun vs H Q E h => ?_) (fun cdv A outer s H vs Q E hr h => ?_)
  · obtain ⟨a, q, ns, tss, rfl, _⟩ := h
    rfl
  · obtain ⟨a, q, ns, tss, rfl, tab, ok, pr, ⟨xs, hq, rr⟩, ne, lt, sks, nod, k⟩ := h
    refine ⟨_, (pss_cons (ps_set (i := 2) sc_call_counts.nd rfl (Or.inr rfl) (CD.pe_dcT (own := [("target", 6)]) (g := (gName 6)) (hu_of hr) rfl sc_call_counts.nd (pi_seq (pv 1)) (blkOk_by (N := N_call_counts) (sc := defScope s_call_counts) (by decide +kernel)) (fun _ _ _ _ _ => (pg_name (i := 6) sc_call_counts.nd rfl (Or.inl rfl))) (fun _ _ _ _ _ => pts_nil) (fun _ _ _ _ _ => (pv 6)) (fun _ _ _ _ _ => pe_int))) (pss_cons (ps_setLc (own := [("seat", 7)]) (g := (gName 7)) (i := 3) rfl sc_call_counts.nd rfl rfl (sw_true rfl rfl rfl (by decide +kernel)) (pi_list (pe_call (ok_all_seats T) hr rfl T.m_all_seats T.F_all_seats.kp T.b_all_seats .nil pass0 (pa_cons (pv 0) pa_nil))) (blkOk_by (N := N_call_counts) (sc := defScope s_call_counts) (by decide +kernel)) (fun _ _ _ _ _ => (pg_name (i := 7) sc_call_counts.nd rfl (Or.inl rfl))) (fun _ _ _ _ _ => (pts_one (pt_cmp (pc_dnotin (hu_of hr) (pv 7) (pv 2))))) (fun _ _ _ _ _ => (pv 7))) (pss_cons (ps_asg (pe_tup (pa_cons (pe_callTy call_list_of (by rfl) T.z_list (by decide +kernel) (pa_cons (pv 1) pa_nil)) (pa_cons pe_int pa_nil))) (pg_tup rfl (pgs_cons (pg_name (i := 4) sc_call_counts.nd rfl (Or.inr rfl)) (pgs_cons (pg_name (i := 5) sc_call_counts.nd rfl (Or.inr rfl)) pgs_nil)))) (pss_cons (ps_while PassesOwn.never (pt_cmpR (r := rNeD K) (op_neD hr.units) (pv 4) (pe_lst pa_nil) (nomark _)) (pss_cons (ps_aug (i := 5) sc_call_counts.nd rfl (Or.inr rfl) pe_int ip_add) (pss_cons (ps_set (i := 4) sc_call_counts.nd rfl (Or.inr rfl) (pe_lc (own := [("seat", 7)]) (g := (gName 7)) rfl sc_call_counts.nd (pi_list (pv 3)) (blkOk_by (N := N_call_counts) (sc := defScope s_call_counts) (by decide +kernel)) (fun _ _ _ _ _ => (pg_name (i := 7) sc_call_counts.nd rfl (Or.inr rfl))) (fun _ _ _ _ _ => (pts_one (pt_val (pe_callB (r := rAny K) (cr_any rfl) (by rfl) T.z_any (by decide +kernel) (pa_cons (pe_lc (wi := iList K _) (own := [("one", 8)]) (g := (gName 8)) rfl sc_call_counts.nd (pi_list (pv 4)) (blkOk_by (N := N_call_counts) rfl) (fun _ _ _ _ _ => (pg_name (i := 8) sc_call_counts.nd rfl (Or.inl rfl))) (fun _ _ _ _ _ => pts_nil) (fun _ _ _ _ _ => (pe_cmp (pc_din (hu_of hr) (pe_call (ok_mirror_seat T) hr rfl T.m_mirror_seat T.F_mirror_seat.kp T.b_mirror_seat .nil pass0 (pa_cons (pv 0) (pa_cons (pv 7) (pa_cons (pv 8) pa_nil)))) (pv 2))))) pa_nil))))) (fun _ _ _ _ _ => (pv 7)))) (pss_cons (ps_expr (pe_bm PySem.F.plainAttrs_dict PySem.F.slot_dict_update PySem.F.type_dict_update (CD.mt_updT (hu_of hr)) (pv 2) (pa_cons (CD.pe_dcT (own := [("seat", 7)]) (g := (gName 7)) (hu_of hr) rfl sc_call_counts.nd (pi_list (pv 4)) (blkOk_by (N := N_call_counts) (sc := defScope s_call_counts) (by decide +kernel)) (fun _ _ _ _ _ => (pg_name (i := 7) sc_call_counts.nd rfl (Or.inl rfl))) (fun _ _ _ _ _ => pts_nil) (fun _ _ _ _ _ => (pv 7)) (fun _ _ _ _ _ => (pv 5))) pa_nil))) (pss_one (ps_setLc (own := [("seat", 7)]) (g := (gName 7)) (i := 3) rfl sc_call_counts.nd rfl rfl (sw_true rfl rfl rfl (by decide +kernel)) (pi_list (pv 3)) (blkOk_by (N := N_call_counts) (sc := defScope s_call_counts) (by decide +kernel)) (fun _ _ _ _ _ => (pg_name (i := 7) sc_call_counts.nd rfl (Or.inl rfl))) (fun _ _ _ _ _ => (pts_one (pt_cmp (pc_dnotin (hu_of hr) (pv 7) (pv 2))))) (fun _ _ _ _ _ => (pv 7)))))))) (pss_one (ps_ret (pv 2))))))), ?_⟩
    have lx : xs.length = tss.length := Paired.length rr
    -- found
    refine ⟨_, rfl, q, rfl, ⟨_, hq.sq⟩, fun D hD => ?_⟩
    refine CD.dcT_it (walk_seq (xs := xs)) (fun i Hx => Ex H Hx ∧ CntAt Hx D (atD 0 (tss.take i))) ⟨exn hD, upd_same⟩ (fun i Hx _ p => (hq.mono p.1).sq) ?_ ?_
    · rintro i x _ Hx hi ⟨ex, hc⟩ ⟨rfl, hx⟩
      obtain ⟨ts, r, hts, rfl, hr2⟩ := rr.get hx
      have hn : ts ∉ tss.take i := fun z => by
        obtain ⟨j, hj⟩ := List.mem_iff_getElem?.mp z
        have jl : j < i := by
          have := (List.getElem?_eq_some_iff.mp hj).1
          rw [List.length_take] at this
          omega
        rw [List.getElem?_take_of_lt jl] at hj
        exact absurd ((List.getElem?_inj (List.getElem?_eq_some_iff.mp hj).1 nod).mp (hj.trans hts.symm)) (by omega)
      refine ⟨rfl, _, rfl, _, entK ts, r, rfl, by rw [entK_kV]; exact ex _ _ hr2, hc, ?_, ex_upd ex hD, ?_⟩
      · rw [List.length_map, List.length_map, List.length_take]
        exact Nat.lt_of_le_of_lt (show _ ≤ 1000 by omega) (by decide)
      · show upd _ _ _ _ = _
        rw [upd_same, putK_new _ (by rw [val_ent, dep_none (by rw [keys_atD]; exact hn)]; rfl), take_more hts, atD_snoc, List.map_append]
        rfl
    rintro H1 ⟨e1, hc1⟩
    rw [List.take_of_length_le (by omega)] at hc1
    dsimp only [gName]
    -- missing
    refine ⟨_, rfl, a, ns, rfl, tab.mono e1, ok, pr, fun sl H2 e2 nsl ⟨ys, hsl, rs⟩ => ⟨sl, rfl, ⟨_, SqL.of hsl⟩, fun D2 hD2 => ?_⟩⟩
    have ly : ys.length = (allS ns).length := Paired.length rs
    have lA : (allS ns).length ≤ 300 := by have := allS_len ok.one; omega
    have hc2 := hc1.mono e2
    refine lc_filt (walk_list (xs := ys)) (ys.zip (allS ns)) (fun z => decide (z.2 ∉ keysL (atD 0 tss))) (fun z => z.1) (by rw [List.length_zip]; omega) (by omega) hD2 (fun Hx ex => SqL.of (ex _ _ hsl)) ?_ ?_
    · rintro i x ⟨z1, z2⟩ _ Hx R S hz ex ⟨rfl, hx⟩ kR kS
      obtain ⟨hz1, hz2⟩ := zip_at2 hz
      obtain ⟨p, r, hp, rfl, hr2⟩ := rs.get hx
      obtain rfl : p = z2 := Option.some.inj (hp.symm.trans hz2)
      obtain rfl : V.ref r = z1 := Option.some.inj (hx.symm.trans hz1)
      refine ⟨rfl, _, rfl, _, rfl, D, _, rfl, cnt_get (hc2.mono ex) (ex _ _ hr2), _, rfl, ?_⟩
      rw [Option.isSome_map, dep_isSome]
      by_cases c : p ∈ keysL (atD 0 tss)
      · exact itf (by rw [decide_eq_true c]; rfl) (kS _ exr (decide_eq_false (not_not_intro c)))
      · exact itt (by rw [decide_eq_false c]; rfl) ⟨_, rfl, kR _ _ exr (decide_eq_true c) rfl⟩
    intro H3 e3 hD3
    have rm : RowsR H3 (((ys.zip (allS ns)).filter fun z => decide (z.2 ∉ keysL (atD 0 tss))).map fun z => z.1) (missL (atD 0 tss) (allS ns)) := RowsR.filt (fun s => decide (s ∉ keysL (atD 0 tss))) (rs.mono e3)
    generalize (((ys.zip (allS ns)).filter fun z => decide (z.2 ∉ keysL (atD 0 tss))).map fun z => z.1) = zs at hD3 rm
    dsimp only [gName]
    -- newest, depth
    have E3 : Ex H H3 := ext e1 (ext e2 e3)
    have hq3 := hq.mono E3
    refine ⟨_, rfl, q.2, xs, rfl, hq3.either, fun nl hnl => ?_⟩
    generalize hG4 : upd H3 nl _ = H4
    have e4 := exG hG4 hnl
    have hnl4 := atG hG4
    clear hG4
    refine ⟨slen rfl, ?_⟩
    (intro tp ntp; generalize hGtp : upd _ tp _ = H5; have eH5 := exG hGtp ntp; have htp := atG hGtp; clear hGtp)
    refine ⟨tp, _, rfl, SqT.of htp, rfl, _, _, rfl, _, _, rfl, rfl, ?_⟩
    have E5 : Ex H H5 := ext E3 (ext e4 eH5)
    have E35 : Ex H3 H5 := ext e4 eH5
    refine ⟨fun m σ Hx => ∃ (fs : List (List Int × Nat)) (miss newest : List (List Int)) (d : Nat) (ml nl : Addr) (zs ws : List V), σ = [some (.ref a), some (.ref q.2), some (.ref D), some (.ref ml), some (.ref nl), some (.int (d : Int)), none, none, none] ∧ Ex H Hx ∧ CntAt Hx D fs ∧ Hx ml = some (.lst zs) ∧ RowsR Hx zs miss ∧ Hx nl = some (.lst ws) ∧ RowsR Hx ws newest ∧ roundsL ns m fs miss newest d = countsL ns tss ∧
        miss.length + (if newest = [] then 0 else 1) < m ∧ (∀ p ∈ miss, SeatOk ns p) ∧ (∀ p ∈ newest, SeatOk ns p) ∧ fs ≠ [] ∧ fs.length + miss.length ≤ 1300 ∧ (∀ p ∈ miss, p ∉ keysL fs) ∧ miss.Nodup ∧ newest.length ≤ 1300,
      ⟨(allS ns).length + 2, atD 0 tss, missL (atD 0 tss) (allS ns), tss, 0, D2, nl, zs, xs, rfl, E5, hc2.mono (ext e3 E35), E35 _ _ hD3, rm.mono E35, eH5 _ _ hnl4, rr.mono E5, rfl, ?_, fun p hp => mem_allS.mp (mem_missL.mp hp).1, sks, ?_, ?_, fun p hp => (mem_missL.mp hp).2, (allS_nodup ns).filter _, by omega⟩, ?_⟩
    · rw [if_neg ne]
      have : (missL (atD 0 tss) (allS ns)).length ≤ (allS ns).length := List.length_filter_le _ _
      omega
    · intro z
      exact ne (List.map_eq_nil_iff.mp z)
    · have : (missL (atD 0 tss) (allS ns)).length ≤ (allS ns).length := List.length_filter_le _ _
      rw [List.length_map]
      omega
    clear hc1 hc2 hD3 rm hnl4
    rintro m σ Hx ⟨fs, miss, newest, d, ml, nl, zs, ws, rfl, ex, hcx, hml, rz, hnl, rw', eqR, mlt, okm, okn, fne, flen, disj, mnod, nlen⟩
    refine ⟨_, rfl, slen rfl, ?_⟩
    (intro el nel; generalize hGel : upd _ el _ = H6; have eH6 := exG hGel nel; have hel := atG hGel; clear hGel)
    have shR : ∀ rows : List (List Int), Sh 60 (.list (rows.map iT)) := fun rows => sh_rows (n := 58) rows
    refine ⟨_, _, .lst (SqL.of (eH6 _ _ hnl)) (rw'.mono eH6).dp, .lst (SqL.of hel) (RowsR.dp (hss := []) .nil), (shR newest).ok, (shR []).ok, _, rfl, ?_⟩
    have ex6 := ext ex eH6
    by_cases c : newest = []
    · subst c
      refine itf (by rw [eqv_refl _ (shR []).1]; rfl) ?_
      obtain ⟨m, rfl⟩ : ∃ m', m = m' + 1 := ⟨m - 1, by omega⟩
      rw [roundsL, if_pos rfl] at eqR
      exact ⟨_, rfl, k D H6 ex6 hD (eqR ▸ hcx.mono eH6)⟩
    refine itt (eqv_ne' c) ⟨_, fun _ _ h => h, ?_⟩
    obtain ⟨m, rfl⟩ : ∃ m', m = m' + 1 := ⟨m - 1, by omega⟩
    rw [roundsL, if_neg c] at eqR
    rw [if_neg c] at mlt
    refine ⟨_, rfl, _, _, rfl, rfl, ?_⟩
    dsimp only [gName]
    -- newest
    have hml6 := eH6 _ _ hml
    have rz6 := rz.mono eH6
    have hnl6 := eH6 _ _ hnl
    have rw6 := rw'.mono eH6
    have hcx6 := hcx.mono eH6
    have lz : zs.length = miss.length := Paired.length rz
    have lw : ws.length = newest.length := Paired.length rw'
    refine ⟨_, rfl, ml, rfl, ⟨_, SqL.of hml6⟩, fun D3 hD3 => ?_⟩
    refine lc_filt (walk_list (xs := zs)) (zs.zip miss) (fun z => newest.any fun o => decide (mirL ns z.2 o ∈ keysL fs)) (fun z => z.1) (by rw [List.length_zip]; omega) (by omega) hD3 (fun Hy ey => SqL.of (ey _ _ hml6)) ?_ ?_
    · rintro i x ⟨z1, z2⟩ _ Hy R S hz ey ⟨rfl, hx⟩ kR kS
      obtain ⟨hz1, hz2⟩ := zip_at2 hz
      obtain ⟨p, r, hp, rfl, hr2⟩ := rz6.get hx
      obtain rfl : p = z2 := Option.some.inj (hp.symm.trans hz2)
      obtain rfl : V.ref r = z1 := Option.some.inj (hx.symm.trans hz1)
      have skp := okm p (List.mem_of_getElem? hp)
      refine ⟨rfl, ?_⟩
      refine ⟨_, rfl, nl, rfl, ⟨_, SqL.of (ey _ _ hnl6)⟩, fun D4 hD4 => ?_⟩
      refine lc_vals (walk_list (xs := ws)) ((newest.map fun o => decide (mirL ns p o ∈ keysL fs)).map V.bl) (by rw [List.length_map, List.length_map, lw]) (by omega) hD4 (fun Hz ez => SqL.of (ez _ _ (ey _ _ hnl6))) ?_ gmono_name ?_
      · rintro j x _ Hz R2 hj ez ⟨rfl, hx2⟩ kk
        obtain ⟨o, ro, ho, rfl, hro⟩ := rw6.get hx2
        have sko := okn o (List.mem_of_getElem? ho)
        have Ez := ext ey ez
        refine ⟨rfl, _, rfl, _, rfl, _, rfl, a, r, ro, ns, p, o, rfl, (tab.mono ex6).mono Ez, ok, Ez _ _ hr2, Ez _ _ hro, skp.len, sko.len, fun Hw qm ew nqm hqm => ?_⟩
        refine ⟨_, rfl, D, _, rfl, cnt_get (hcx6.mono (ext Ez ew)) hqm, ?_⟩
        rw [Option.isSome_map, dep_isSome]
        refine kk _ _ ew ?_
        rw [List.getElem?_map, List.getElem?_map, ho]
        rfl
      intro Hz ez hD4z
      refine ⟨D4, _, rfl, SqL.of hD4z, _, rfl, ?_⟩
      have ea : (newest.map fun o => decide (mirL ns p o ∈ keysL fs)).any id = newest.any fun o => decide (mirL ns p o ∈ keysL fs) := by rw [List.any_map]; rfl
      rw [ea]
      cases ca : newest.any fun o => decide (mirL ns p o ∈ keysL fs)
      · exact itf rfl (kS _ ez ca)
      · exact itt rfl ⟨_, rfl, kR _ _ ez ca rfl⟩
    intro H7 e7 hD37
    have rn : RowsR H7 (((zs.zip miss).filter fun z => newest.any fun o => decide (mirL ns z.2 o ∈ keysL fs)).map fun z => z.1) (newL ns fs miss newest) := RowsR.filt (fun s => newest.any fun o => decide (mirL ns s o ∈ keysL fs)) (rz6.mono e7)
    generalize (((zs.zip miss).filter fun z => newest.any fun o => decide (mirL ns z.2 o ∈ keysL fs)).map fun z => z.1) = us at hD37 rn
    have nws : ∀ p ∈ newL ns fs miss newest, p ∈ miss := fun p hp => newL_sub hp
    have nwn : (newL ns fs miss newest).Nodup := mnod.filter _
    have nwl : (newL ns fs miss newest).length + (missL (fs ++ atD (d + 1) (newL ns fs miss newest)) miss).length ≤ miss.length := filter_two fun p hp hc => decide_eq_false (not_not_intro (by
      rw [keys_app, keys_atD]
      exact List.mem_append_right _ (List.mem_filter.mpr ⟨hp, hc⟩)))
    have nw0 : newL ns fs miss newest = [] ∨ 0 < (newL ns fs miss newest).length := by
      cases newL ns fs miss newest with
      | nil => exact .inl rfl
      | cons => exact .inr (by simp)
    generalize newL ns fs miss newest = nw at rn nws nwn nwl nw0 eqR
    have hml7 := e7 _ _ hml6
    have rz7 := rz6.mono e7
    have hcx7 := hcx6.mono e7
    have lu : us.length = nw.length := Paired.length rn
    dsimp only [gName]
    -- update
    refine ⟨_, rfl, .inr (.inr (.inl ⟨rfl, .inr ⟨_, hcx7⟩⟩)), ?_⟩
    refine ⟨_, rfl, D3, rfl, ⟨_, SqL.of hD37⟩, fun D5 hD5 => ?_⟩
    refine CD.dcT_it (walk_list (xs := us)) (fun i Hy => Ex H7 Hy ∧ CntAt Hy D5 (atD (d + 1) (nw.take i))) ⟨exn hD5, upd_same⟩ (fun i Hy _ p => SqL.of (p.1 _ _ hD37)) ?_ ?_
    · rintro i x _ Hy hi ⟨ey, hc⟩ ⟨rfl, hx⟩
      obtain ⟨p, r, hp, rfl, hr2⟩ := rn.get hx
      have hn : p ∉ nw.take i := nodup_take nwn hp
      refine ⟨rfl, _, rfl, _, rfl, _, entK p, r, rfl, by rw [entK_kV]; exact ey _ _ hr2, hc, ?_, ex_upd ey hD5, ?_⟩
      · rw [List.length_map, List.length_map, List.length_take]
        exact Nat.lt_of_le_of_lt (show _ ≤ 1300 by omega) (by decide)
      · show upd _ _ _ _ = _
        rw [upd_same, putK_new _ (by rw [val_ent, dep_none (by rw [keys_atD]; exact hn)]; rfl), take_more hp, atD_snoc, List.map_append]
        rfl
    rintro H8 ⟨e8, hc8⟩
    rw [List.take_of_length_le (by omega)] at hc8
    have hcx8 := hcx7.mono e8
    have nD5 : D ≠ D5 := ne_of_none hcx7 hD5
    refine ⟨D, D5, _, _, rfl, rfl, nD5, hcx8, hc8, (.inl fun z => fne (List.map_eq_nil_iff.mp z)), ?_, ?_⟩
    · rw [List.length_map, List.length_map, List.length_map]
      exact Nat.le_trans (show _ ≤ 2600 by omega) (by decide)
    rw [merge_new (fun p hp z => disj p (nws p hp) z) nwn]
    generalize hG9 : upd H8 D _ = H9
    have hc9 : CntAt H9 D (fs ++ atD (d + 1) nw) := by rw [← hG9]; exact upd_same
    have tp9 : ∀ c zs, H8 c = some (.tup zs) → H9 c = some (.tup zs) := fun c zs z => hG9 ▸ tup_dict hcx8 z
    have ls9 : ∀ c zs, H8 c = some (.lst zs) → H9 c = some (.lst zs) := fun c zs z => by
      rw [← hG9, upd_ne (ne_of z hcx8 (by intro z; cases z))]
      exact z
    have ex9 : Ex H H9 := hG9 ▸ ex_upd (ext ex6 (ext e7 e8)) hD
    clear hG9
    have hml9 := ls9 _ _ (e8 _ _ hml7)
    have rz9 := (rz7.mono e8).monoT tp9
    have hD39 := ls9 _ _ (e8 _ _ hD37)
    have rn9 := (rn.mono e8).monoT tp9
    dsimp only [gName]
    -- missing
    refine ⟨_, rfl, ml, rfl, ⟨_, SqL.of hml9⟩, fun D6 hD6 => ?_⟩
    refine lc_filt (walk_list (xs := zs)) (zs.zip miss) (fun z => decide (z.2 ∉ keysL (fs ++ atD (d + 1) nw))) (fun z => z.1) (by rw [List.length_zip]; omega) (by omega) hD6 (fun Hy ey => SqL.of (ey _ _ hml9)) ?_ ?_
    · rintro i x ⟨z1, z2⟩ _ Hy R S hz ey ⟨rfl, hx⟩ kR kS
      obtain ⟨hz1, hz2⟩ := zip_at2 hz
      obtain ⟨p, r, hp, rfl, hr2⟩ := rz9.get hx
      obtain rfl : p = z2 := Option.some.inj (hp.symm.trans hz2)
      obtain rfl : V.ref r = z1 := Option.some.inj (hx.symm.trans hz1)
      refine ⟨rfl, _, rfl, _, rfl, D, _, rfl, cnt_get (hc9.mono ey) (ey _ _ hr2), _, rfl, ?_⟩
      rw [Option.isSome_map, dep_isSome]
      by_cases c : p ∈ keysL (fs ++ atD (d + 1) nw)
      · exact itf (by rw [decide_eq_true c]; rfl) (kS _ exr (decide_eq_false (not_not_intro c)))
      · exact itt (by rw [decide_eq_false c]; rfl) ⟨_, rfl, kR _ _ exr (decide_eq_true c) rfl⟩
    intro Ha ea hDa
    have ra : RowsR Ha (((zs.zip miss).filter fun z => decide (z.2 ∉ keysL (fs ++ atD (d + 1) nw))).map fun z => z.1) (missL (fs ++ atD (d + 1) nw) miss) := RowsR.filt (fun s => decide (s ∉ keysL (fs ++ atD (d + 1) nw))) (rz9.mono ea)
    refine ⟨m, Nat.lt_succ_self m, fs ++ atD (d + 1) nw, missL (fs ++ atD (d + 1) nw) miss, nw, d + 1, D6, D3, _, us, rfl, ext ex9 ea, hc9.mono ea, hDa, ra, ea _ _ hD39, rn9.mono ea, eqR, ?_, fun p hp => okm p (mem_missL.mp hp).1, fun p hp => okm p (nws p hp), (fun z => fne (List.append_eq_nil_iff.mp z).1), ?_, fun p hp => (mem_missL.mp hp).2, mnod.filter _, ?_⟩
    · rcases nw0 with z | z
      · rw [if_pos z]
        omega
      · rw [if_neg (fun e => by rw [e] at z; cases z)]
        omega
    · rw [List.length_append, List.length_map]
      omega
    · omega
end

def closerL (fs : List (List Int × Nat)) (d : Nat) : List (List Int) := (fs.filter fun q => decide (q.2 < d)).map (·.1)
def fromL (ns : List Int) (fs : List (List Int × Nat)) (p : List Int) (d : Nat) : List (List Int) := ((closerL fs d).filter fun o => decide ((dep fs (mirL ns p o)).getD d < d)).map fun o => toL ns p o
theorem closer_snoc (fs : List (List Int × Nat)) (q : List Int × Nat) (d : Nat) : closerL (fs ++ [q]) d = if q.2 < d then closerL fs d ++ [q.1] else closerL fs d := by
  unfold closerL
  rw [List.filter_append, List.map_append]
  by_cases c : q.2 < d
  · rw [if_pos c]
    simp [c]
  · rw [if_neg c]
    simp [c]
theorem dep_mem {fs : List (List Int × Nat)} (nod : (keysL fs).Nodup) {q : List Int × Nat} (h : q ∈ fs) : dep fs q.1 = some q.2 := by
  induction fs with
  | nil => cases h
  | cons f fs ih =>
    rw [dep_cons]
    rcases List.mem_cons.mp h with rfl | h
    · rw [if_pos rfl]
    · have nf : f.1 ≠ q.1 := fun z => (List.nodup_cons.mp nod).1 (by show f.1 ∈ _; rw [z]; exact List.mem_map_of_mem h)
      rw [if_neg nf, ih (List.nodup_cons.mp nod).2 h]
theorem Ex.back {H H2 : Hp} {d : Addr} {u v : HO} (hd : H d = some u) (e : Ex (upd H d v) H2) : Ex H (upd H2 d u) := fun c o z => by
  by_cases cd : c = d
  · subst cd
    rw [upd_same]
    exact hd.symm.trans z
  · rw [upd_ne cd]
    exact e _ _ (by rw [upd_ne cd]; exact z)
theorem tup_pshL {q D : Addr} {H : Hp} {xs ys : List V} {o : HO} (hD : H D = some (.lst xs)) (h : H q = some (.tup ys)) : upd H D o q = some (.tup ys) := by
  rw [upd_ne (ne_of h hD (by intro z; cases z))]
  exact h
theorem getD_int (o : Option Nat) (d : Nat) : (o.map fun d : Nat => V.int (d : Int)).getD (V.int (d : Int)) = V.int ((o.getD d : Nat) : Int) := by cases o <;> rfl
section
variable {P : Program} {w : World} {K : PySem.W.Frag} {mg : Str → Option Value} {base : Heap}
def sp_call_from (C : Addr) : Sp := fun vs H Q _ => ∃ (a D s : Addr) (ns p c : List Int) (fs : List (List Int × Nat)) (d : Nat) (rest : List (List Int)), vs = [.ref a, .ref D, .ref s] ∧ TabAt C H a ns ∧ SzOk ns ∧ CntAt H D fs ∧ fs.length ≤ 1000 ∧ (keysL fs).Nodup ∧ (∀ q ∈ keysL fs, SeatOk ns q) ∧ H s = some (.tup (p.map V.int)) ∧ SeatOk ns p ∧ dep fs p = some d ∧ fromL ns fs p d = c :: rest ∧
  ∀ q H2, Ex H H2 → H2 q = some (.tup (c.map V.int)) → Q (.ref q) H2
theorem ok_call_from (T : TX K mg) : FnOk P w K mg base CX0 3 T.f_call_from T.fd_call_from ["table", "counts", "seat"] (sp_call_from T.C_Table) := by
  refine T.F_call_from.ok sc_call_from (fun vs H Q E h => ?_) (fun cdv A outer s H vs Q E hr h => ?_)
  · obtain ⟨a, D, s, ns, p, c, fs, d, rest, rfl, _⟩ := h
    rfl
  · obtain ⟨a, D, s, ns, p, c, fs, d, rest, rfl, tab, ok, hD, lf, nod, sks, hs, sk, hdp, hfr, k⟩ := h
    refine ⟨_, (pss_cons (ps_set (i := 3) sc_call_from.nd rfl (Or.inr rfl) (pe_dget (hu_of hr) (pv 1) (pv 2) (fun _ _ => rfl))) (pss_cons (ps_lock (ps_setLc (own := [("one", 5)]) (g := (gName 5)) (i := 4) rfl sc_call_from.nd rfl rfl (sw_true rfl rfl rfl (by decide +kernel)) (pi_keys (pv 1)) (blkOk_by (N := N_call_from) (sc := defScope s_call_from) (by decide +kernel)) (fun _ _ _ _ _ => (pg_name (i := 5) sc_call_from.nd rfl (Or.inl rfl))) (fun _ _ _ _ _ => (pts_one (pt_cmpR op_lt (pe_dget (hu_of hr) (pv 1) (pv 5) (fun _ _ => rfl)) (pv 3) (nomark _)))) (fun _ _ _ _ _ => (pv 5)))) (pss_one (ps_ret (pe_ix ix_list (pe_lc (own := [("one", 5)]) (g := (gName 5)) rfl sc_call_from.nd (pi_list (pv 4)) (blkOk_by (N := N_call_from) (sc := defScope s_call_from) (by decide +kernel)) (fun _ _ _ _ _ => (pg_name (i := 5) sc_call_from.nd rfl (Or.inl rfl))) (fun _ _ _ _ _ => (pts_one (pt_cmpR op_lt (pe_dget2 (hu_of hr) (pv 1) (pe_call (ok_mirror_seat T) hr rfl T.m_mirror_seat T.F_mirror_seat.kp T.b_mirror_seat .nil pass0 (pa_cons (pv 0) (pa_cons (pv 2) (pa_cons (pv 5) pa_nil)))) (pv 3) ⟨rfl, rfl, rfl, rfl⟩) (pv 3) (nomark _)))) (fun _ _ _ _ _ => (pe_call (ok_call_to T) hr rfl T.m_call_to T.F_call_to.kp T.b_call_to .nil pass0 (pa_cons (pv 0) (pa_cons (pv 2) (pa_cons (pv 5) pa_nil)))))) pe_int (fun _ _ => rfl)))))), ?_⟩
    refine ⟨_, rfl, _, rfl, D, V.int (d : Int), rfl, ?_, ?_⟩
    · have := cnt_get hD hs
      rw [hdp] at this
      exact this
    dsimp only [gName]
    refine ⟨D, _, hD, True.intro, fun od => ?_⟩
    generalize hG1 : upd H D _ = H1
    have hD1 : H1 D = some (.frz od (.dT (fs.map entV))) := by rw [← hG1]; exact upd_same
    have tp1 : ∀ c zs, H c = some (.tup zs) → H1 c = some (.tup zs) := fun c zs z => hG1 ▸ tup_dict hD z
    refine ⟨_, rfl, D, od, rfl, .inr ⟨_, hD1, fun L hL => ?_⟩⟩
    refine lc_it walk_keysT (fun i Hx => ∃ zs, Hx L = some (.lst zs) ∧ RowsR Hx zs (closerL (fs.take i) d) ∧ Ex H1 Hx) ⟨[], upd_same, .nil, exn hL⟩ (fun i Hx _ ⟨_, _, _, e⟩ => e _ _ hD1) ?_ ?_
    · rintro i x _ Hx hi ⟨zs, hLx, rz, ex⟩ ⟨rfl, kk, vv, qa, hkv, rfl, hqa⟩
      rw [List.getElem?_map] at hkv
      obtain ⟨f, hf, ef⟩ := Option.map_eq_some_iff.mp hkv
      obtain ⟨rfl, rfl⟩ := Prod.mk.inj ef
      rw [entK_kV] at hqa
      have hg : DGet Hx D (.ref qa) (some (V.int (f.2 : Int))) := by
        refine .inr ⟨_, entK f.1, qa, .inr ⟨od, ex _ _ hD1⟩, rfl, by rw [entK_kV]; exact hqa, ?_⟩
        rw [val_ent, dep_mem nod (List.mem_of_getElem? hf)]
        rfl
      refine ⟨rfl, _, rfl, _, rfl, D, _, rfl, hg, _, rfl, _, _, rfl, rfl, _, rfl, ?_⟩
      by_cases cc : f.2 < d
      · refine itt (decide_eq_true (by omega)) ⟨_, rfl, zs, hLx, ?_, zs ++ [.ref qa], upd_same, ?_, ex_upd ex hL⟩
        · rw [Paired.length rz]
          exact Nat.lt_of_le_of_lt (Nat.le_trans (show _ ≤ (fs.take i).length by unfold closerL; rw [List.length_map]; exact List.length_filter_le _ _) (show _ ≤ 1000 by rw [List.length_take]; omega)) (by decide)
        · rw [take_more hf, closer_snoc, if_pos cc]
          exact RowsR.snoc (tup_pshL hLx hqa) (rz.monoT fun c zs z => tup_pshL hLx z)
      · refine itf (decide_eq_false (by omega)) ⟨zs, hLx, ?_, ex⟩
        rw [take_more hf, closer_snoc, if_neg cc]
        exact rz
    rintro H2 ⟨zs, hL2, rz, e2⟩
    rw [List.take_of_length_le (by simp)] at rz
    refine ⟨e2 _ _ hD1, ?_⟩
    have e3 : Ex H (upd H2 D (.dT (fs.map entV))) := by subst hG1; exact Ex.back hD e2
    generalize hG3 : upd H2 D _ = H3 at e3
    have nLD : L ≠ D := (ne_of_none hD1 hL).symm
    have hL3 : H3 L = some (.lst zs) := by rw [← hG3, upd_ne nLD]; exact hL2
    have rz3 : RowsR H3 zs (closerL fs d) := rz.monoT fun c zs z => by
      rw [← hG3, upd_ne (ne_of z (e2 _ _ hD1) (by intro z; cases z))]
      exact z
    clear hG3
    have lz : zs.length = (closerL fs d).length := Paired.length rz
    have lc : (closerL fs d).length ≤ 1000 := by
      unfold closerL
      rw [List.length_map]
      exact Nat.le_trans (List.length_filter_le _ _) lf
    have skc : ∀ o ∈ closerL fs d, SeatOk ns o := fun o ho => by
      obtain ⟨q, hq, rfl⟩ := List.mem_map.mp ho
      exact sks _ (List.mem_map_of_mem (List.mem_filter.mp hq).1)
    dsimp only [gName]
    generalize hcl : closerL fs d = cl at *
    refine ⟨_, rfl, L, rfl, ⟨_, SqL.of hL3⟩, fun M hM => ?_⟩
    refine lc_it (walk_list (xs := zs)) (fun i Hx => ∃ us, Hx M = some (.lst us) ∧ RowsR Hx us (((cl.take i).filter fun o => decide ((dep fs (mirL ns p o)).getD d < d)).map fun o => toL ns p o) ∧ Ex H3 Hx) ⟨[], upd_same, .nil, exn hM⟩ (fun i Hx _ ⟨_, _, _, e⟩ => SqL.of (e _ _ hL3)) ?_ ?_
    · rintro i x _ Hx hi ⟨us, hMx, ru, ex⟩ ⟨rfl, hx⟩
      obtain ⟨o, ro, ho, rfl, hro⟩ := rz3.get hx
      have sko := skc o (List.mem_of_getElem? ho)
      have Ex3 := ext e3 ex
      have hDx : CntAt Hx D fs := Ex3 _ _ hD
      refine ⟨rfl, _, rfl, D, rfl, .inr ⟨_, .inl hDx⟩, _, rfl, _, rfl, _, rfl, a, s, ro, ns, p, o, rfl, tab.mono Ex3, ok, Ex3 _ _ hs, ex _ _ hro, sk.len, sko.len, fun Hy qm ey nqm hqm => ?_⟩
      refine ⟨_, rfl, _, cnt_get (hDx.mono ey) hqm, ?_⟩
      rw [getD_int]
      refine ⟨_, rfl, _, _, rfl, rfl, _, rfl, ?_⟩
      have Exy := ext ex ey
      have ll : us.length ≤ 1000 := by
        rw [Paired.length ru, List.length_map]
        refine Nat.le_trans (List.length_filter_le _ _) ?_
        rw [List.length_take]
        omega
      by_cases cc : (dep fs (mirL ns p o)).getD d < d
      · refine itt (decide_eq_true (by omega)) ?_
        refine ⟨_, rfl, _, rfl, _, rfl, a, s, ro, ns, p, o, rfl, tab.mono (ext e3 Exy), ok, ext e3 Exy _ _ hs, Exy _ _ hro, sk.len, sko.len, fun Hw qt ew nqt hqt => ?_⟩
        have hMw := ew _ _ (ey _ _ hMx)
        refine ⟨us, hMw, Nat.lt_of_le_of_lt ll (by decide), us ++ [.ref qt], upd_same, ?_, ex_upd (ext Exy ew) hM⟩
        rw [take_more ho, List.filter_append, List.map_append, show [o].filter (fun o => decide ((dep fs (mirL ns p o)).getD d < d)) = [o] by simp [cc]]
        exact RowsR.snoc (tup_pshL hMw hqt) ((ru.mono (ext ey ew)).monoT fun c zs z => tup_pshL hMw z)
      · refine itf (decide_eq_false (by omega)) ⟨us, ey _ _ hMx, ?_, Exy⟩
        rw [take_more ho, List.filter_append, List.map_append, show [o].filter (fun o => decide ((dep fs (mirL ns p o)).getD d < d)) = [] by simp [cc], List.map_nil, List.append_nil]
        exact ru.mono ey
    rintro Hz ⟨us, hMz, ru, ez⟩
    rw [List.take_of_length_le (by omega)] at ru
    have efr : ((cl.filter fun o => decide ((dep fs (mirL ns p o)).getD d < d)).map fun o => toL ns p o) = c :: rest := by rw [← hfr, fromL, hcl]
    rw [efr] at ru
    obtain ⟨u0, us', rfl⟩ : ∃ u0 us', us = u0 :: us' := by
      cases ru with
      | cons _ _ => exact ⟨_, _, rfl⟩
    obtain ⟨c0, rc, hc0, rfl, hrc⟩ := ru.get (i := 0) rfl
    obtain rfl : c = c0 := Option.some.inj hc0
    exact ⟨M, _, _, _, rfl, rfl, SqL.of hMz, (L2.atI_nat rfl : atI (V.ref rc :: us') ((0 : Nat) : Int) = some (V.ref rc)), k rc Hz (ext e3 ez) hrc⟩
end

/-- what a list of numbers keeps while it grows -/
structure GoodL (ns : List Int) (fs : List (List Int × Nat)) (d : Nat) : Prop where
  nod : (keysL fs).Nodup
  seat : ∀ q ∈ fs, SeatOk ns q.1
  le : ∀ q ∈ fs, q.2 ≤ d
  both : ∀ q ∈ fs, 0 < q.2 → ∃ o e e', (o, e) ∈ fs ∧ (mirL ns q.1 o, e') ∈ fs ∧ e < q.2 ∧ e' < q.2
theorem mem_keys {fs : List (List Int × Nat)} {p : List Int} (h : p ∈ keysL fs) : ∃ e, (p, e) ∈ fs := by
  obtain ⟨q, hq, rfl⟩ := List.mem_map.mp h
  exact ⟨q.2, hq⟩
theorem mem_atD {d : Nat} {ps : List (List Int)} {q : List Int × Nat} (h : q ∈ atD d ps) : q.1 ∈ ps ∧ q.2 = d := by
  obtain ⟨p, hp, rfl⟩ := List.mem_map.mp h
  exact ⟨hp, rfl⟩
theorem GoodL.step {ns : List Int} {fs : List (List Int × Nat)} {d : Nat} {miss newest : List (List Int)} (g : GoodL ns fs d) (okm : ∀ p ∈ miss, SeatOk ns p) (disj : ∀ p ∈ miss, p ∉ keysL fs) (mnod : miss.Nodup) (sub : ∀ p ∈ newest, p ∈ keysL fs) :
    GoodL ns (fs ++ atD (d + 1) (newL ns fs miss newest)) (d + 1) where
  nod := by
    rw [keys_app, keys_atD, List.nodup_append]
    refine ⟨g.nod, mnod.filter _, fun a ha b hb e => ?_⟩
    exact disj b (newL_sub hb) (e ▸ ha)
  seat := fun q hq => by
    rcases List.mem_append.mp hq with hq | hq
    · exact g.seat q hq
    · exact okm _ (newL_sub (mem_atD hq).1)
  le := fun q hq => by
    rcases List.mem_append.mp hq with hq | hq
    · exact Nat.le_succ_of_le (g.le q hq)
    · exact Nat.le_of_eq (mem_atD hq).2
  both := fun q hq h0 => by
    rcases List.mem_append.mp hq with hq | hq
    · obtain ⟨o, e, e', h1, h2, h3, h4⟩ := g.both q hq h0
      exact ⟨o, e, e', List.mem_append_left _ h1, List.mem_append_left _ h2, h3, h4⟩
    · obtain ⟨hm, he⟩ := mem_atD hq
      obtain ⟨_, hc⟩ := List.mem_filter.mp hm
      obtain ⟨o, ho, hk⟩ := List.any_eq_true.mp hc
      obtain ⟨e, h1⟩ := mem_keys (sub o ho)
      obtain ⟨e', h2⟩ := mem_keys (of_decide_eq_true hk)
      have a1 := g.le _ h1
      have a2 := g.le _ h2
      exact ⟨o, e, e', List.mem_append_left _ h1, List.mem_append_left _ h2, by rw [he]; exact Nat.lt_succ_of_le a1, by rw [he]; exact Nat.lt_succ_of_le a2⟩
theorem rounds_good {ns : List Int} : ∀ (f : Nat) {fs : List (List Int × Nat)} {miss newest : List (List Int)} {d : Nat}, GoodL ns fs d → (∀ p ∈ miss, SeatOk ns p) → (∀ p ∈ miss, p ∉ keysL fs) → miss.Nodup → (∀ p ∈ newest, p ∈ keysL fs) → ∃ d', GoodL ns (roundsL ns f fs miss newest d) d'
  | 0, fs, miss, newest, d, g, _, _, _, _ => ⟨d, g⟩
  | f + 1, fs, miss, newest, d, g, okm, disj, mnod, sub => by
    rw [roundsL]
    by_cases c : newest = []
    · rw [if_pos c]
      exact ⟨d, g⟩
    rw [if_neg c]
    refine rounds_good f (g.step okm disj mnod sub) (fun p hp => okm p (mem_missL.mp hp).1) (fun p hp => (mem_missL.mp hp).2) (mnod.filter _) fun p hp => ?_
    rw [keys_app, keys_atD]
    exact List.mem_append_right _ hp
theorem counts_good {ns : List Int} {tss : List (List Int)} (sks : ∀ t ∈ tss, SeatOk ns t) (nod : tss.Nodup) : ∃ d, GoodL ns (countsL ns tss) d := by
  refine rounds_good _ ⟨by rw [keys_atD]; exact nod, fun q hq => sks _ (mem_atD hq).1, fun q hq => Nat.le_of_eq (mem_atD hq).2, fun q hq h0 => absurd (mem_atD hq).2 (by omega)⟩ (fun p hp => mem_allS.mp (mem_missL.mp hp).1) (fun p hp => (mem_missL.mp hp).2) ((allS_nodup ns).filter _) fun p hp => ?_
  rw [keys_atD]
  exact hp
theorem GoodL.len {ns : List Int} {fs : List (List Int × Nat)} {d : Nat} (g : GoodL ns fs d) : fs.length ≤ (allS ns).length := by
  rw [← List.length_map (f := (·.1))]
  exact List.Nodup.length_le_of_subset g.nod fun p hp => by
    obtain ⟨e, he⟩ := mem_keys hp
    exact mem_allS.mpr (g.seat _ he)
theorem mem_dep {fs : List (List Int × Nat)} {p : List Int} {d : Nat} (h : dep fs p = some d) : (p, d) ∈ fs := by
  induction fs with
  | nil => cases h
  | cons f fs ih =>
    rw [dep_cons] at h
    by_cases c : f.1 = p
    · rw [if_pos c] at h
      obtain rfl := Option.some.inj h
      rw [← c]
      exact List.mem_cons_self
    · rw [if_neg c] at h
      exact List.mem_cons_of_mem _ (ih h)
theorem mirL_inv : ∀ {ns ps os : List Int}, SeatOk ns os → ps.length = ns.length → mirL ns ps (mirL ns ps os) = os
  | [], _, [], _, _ => by cases ‹List Int› <;> rfl
  | n :: ns, p :: ps, o :: os, h, l => by
    obtain ⟨⟨o0, o1⟩, h2⟩ : (0 ≤ o ∧ o < n) ∧ SeatOk ns os := h
    show ((2 * p - (2 * p - o) % n) % n) :: _ = _
    rw [mirL_inv h2 (by simpa using l)]
    congr 1
    rw [Int.sub_emod, Int.emod_emod, ← Int.sub_emod, show 2 * p - (2 * p - o) = o by omega, Int.emod_eq_of_lt o0 o1]
/-- from a seat with a positive number there is a call to smaller ones -/
theorem GoodL.from {ns : List Int} {fs : List (List Int × Nat)} {d e : Nat} {p : List Int} (g : GoodL ns fs d) (h : dep fs p = some e) (h0 : 0 < e) : ∃ c rest, fromL ns fs p e = c :: rest := by
  obtain ⟨o, e1, e2, m1, m2, l1, l2⟩ := g.both _ (mem_dep h) h0
  have hm : toL ns p o ∈ fromL ns fs p e := by
    unfold fromL
    refine List.mem_map.mpr ⟨o, List.mem_filter.mpr ⟨?_, decide_eq_true ?_⟩, rfl⟩
    · unfold closerL
      exact List.mem_map.mpr ⟨(o, e1), List.mem_filter.mpr ⟨m1, decide_eq_true l1⟩, rfl⟩
    · rw [dep_mem g.nod m2]
      exact l2
  cases hf : fromL ns fs p e with
  | nil => rw [hf] at hm; cases hm
  | cons c rest => exact ⟨c, rest, rfl⟩
/-- the greatest number -/
def topL (fs : List (List Int × Nat)) : Nat := fs.foldl (fun m q => max m q.2) 0
theorem fold_top : ∀ (fs : List (List Int × Nat)) (m : Nat), m ≤ fs.foldl (fun m q => max m q.2) m ∧ (∀ q ∈ fs, q.2 ≤ fs.foldl (fun m q => max m q.2) m) ∧ (fs.foldl (fun m q => max m q.2) m = m ∨ ∃ q ∈ fs, q.2 = fs.foldl (fun m q => max m q.2) m)
  | [], m => ⟨Nat.le_refl _, (fun q h => absurd h List.not_mem_nil), Or.inl rfl⟩
  | f :: fs, m => by
    obtain ⟨h1, h2, h3⟩ := fold_top fs (max m f.2)
    rw [List.foldl_cons]
    refine ⟨by omega, fun q hq => ?_, ?_⟩
    · rcases List.mem_cons.mp hq with rfl | hq
      · omega
      · exact h2 q hq
    · rcases h3 with h3 | ⟨q, hq, h3⟩
      · rw [h3]
        by_cases c : f.2 ≤ m
        · exact .inl (by omega)
        · exact .inr ⟨f, List.mem_cons_self, by omega⟩
      · exact .inr ⟨q, List.mem_cons_of_mem _ hq, h3⟩
theorem top_is {fs : List (List Int × Nat)} (ne : fs ≠ []) {m : Int} (h1 : m ∈ fs.map fun q => (q.2 : Int)) (h2 : ∀ j ∈ fs.map (fun q => (q.2 : Int)), j ≤ m) : m = topL fs := by
  obtain ⟨a, b, c⟩ := fold_top fs 0
  obtain ⟨q, hq, rfl⟩ := List.mem_map.mp h1
  have b1 := b q hq
  have : topL fs ≤ q.2 := by
    rcases c with c | ⟨r, hr, c⟩
    · unfold topL
      omega
    · have := h2 _ (List.mem_map_of_mem hr)
      unfold topL
      omega
  unfold topL at this ⊢
  omega
theorem rounds_pre {ns : List Int} : ∀ (f : Nat) (fs : List (List Int × Nat)) (miss newest : List (List Int)) (d : Nat), ∃ gs, roundsL ns f fs miss newest d = fs ++ gs
  | 0, fs, _, _, _ => ⟨[], by rw [List.append_nil]; rfl⟩
  | f + 1, fs, miss, newest, d => by
    rw [roundsL]
    by_cases c : newest = []
    · rw [if_pos c]
      exact ⟨[], (List.append_nil _).symm⟩
    rw [if_neg c]
    obtain ⟨gs, h⟩ := rounds_pre f (fs ++ atD (d + 1) (newL ns fs miss newest)) (missL (fs ++ atD (d + 1) (newL ns fs miss newest)) miss) (newL ns fs miss newest) (d + 1)
    exact ⟨_, by rw [h, List.append_assoc]⟩
theorem counts_ne {ns : List Int} {tss : List (List Int)} (ne : tss ≠ []) : countsL ns tss ≠ [] := by
  obtain ⟨gs, h⟩ := rounds_pre ((allS ns).length + 2) (atD 0 tss) (missL (atD 0 tss) (allS ns)) tss 0 (ns := ns)
  intro z
  rw [countsL, h] at z
  exact ne (List.map_eq_nil_iff.mp (List.append_eq_nil_iff.mp z).1)

/-- the state of the rounds: all that is due is there -/
structure FullL (ns : List Int) (tss : List (List Int)) (fs : List (List Int × Nat)) (miss newest : List (List Int)) (d : Nat) : Prop where
  all : ∀ p, SeatOk ns p → p ∈ keysL fs ∨ p ∈ miss
  newest : ∀ q ∈ fs, q.2 = d → q.1 ∈ newest
  le : ∀ q ∈ fs, q.2 ≤ d
  zero : ∀ q ∈ fs, q.2 = 0 → q.1 ∈ tss
  seat : ∀ q ∈ fs, SeatOk ns q.1
  least : ∀ p o a b, SeatOk ns p → (o, a) ∈ fs → (mirL ns p o, b) ∈ fs → a < d → b < d → ∃ e, (p, e) ∈ fs ∧ e ≤ max a b + 1
theorem mem_keys' {fs : List (List Int × Nat)} {p : List Int} {e : Nat} (h : (p, e) ∈ fs) : p ∈ keysL fs := List.mem_map_of_mem (f := (·.1)) h
theorem FullL.step {ns : List Int} {tss : List (List Int)} {fs : List (List Int × Nat)} {miss newest : List (List Int)} {d : Nat} (g : FullL ns tss fs miss newest d) (okm : ∀ p ∈ miss, SeatOk ns p) :
    FullL ns tss (fs ++ atD (d + 1) (newL ns fs miss newest)) (missL (fs ++ atD (d + 1) (newL ns fs miss newest)) miss) (newL ns fs miss newest) (d + 1) where
  all := fun p sk => by
    by_cases c : p ∈ keysL (fs ++ atD (d + 1) (newL ns fs miss newest))
    · exact .inl c
    · rcases g.all p sk with h | h
      · exact absurd (by rw [keys_app]; exact List.mem_append_left _ h) c
      · exact .inr (mem_missL.mpr ⟨h, c⟩)
  newest := fun q hq e => by
    rcases List.mem_append.mp hq with hq | hq
    · have := g.le q hq
      omega
    · exact (mem_atD hq).1
  le := fun q hq => by
    rcases List.mem_append.mp hq with hq | hq
    · exact Nat.le_succ_of_le (g.le q hq)
    · exact Nat.le_of_eq (mem_atD hq).2
  zero := fun q hq e => by
    rcases List.mem_append.mp hq with hq | hq
    · exact g.zero q hq e
    · have := (mem_atD hq).2
      omega
  seat := fun q hq => by
    rcases List.mem_append.mp hq with hq | hq
    · exact g.seat q hq
    · exact okm _ (newL_sub (mem_atD hq).1)
  least := fun p o a b sk ho hm la lb => by
    have old : ∀ {x : List Int} {y : Nat}, (x, y) ∈ fs ++ atD (d + 1) (newL ns fs miss newest) → y < d + 1 → (x, y) ∈ fs := fun {x y} h l => by
      rcases List.mem_append.mp h with h | h
      · exact h
      · have : y = d + 1 := (mem_atD h).2
        omega
    have ho := old ho la
    have hm := old hm lb
    by_cases c : a < d ∧ b < d
    · obtain ⟨e, h1, h2⟩ := g.least p o a b sk ho hm c.1 c.2
      exact ⟨e, List.mem_append_left _ h1, h2⟩
    rcases g.all p sk with h | h
    · obtain ⟨e, he⟩ := mem_keys h
      have := g.le _ he
      exact ⟨e, List.mem_append_left _ he, by simp only at this; omega⟩
    · have hn : p ∈ newL ns fs miss newest := by
        refine List.mem_filter.mpr ⟨h, List.any_eq_true.mpr ?_⟩
        by_cases ca : a = d
        · exact ⟨o, g.newest _ ho ca, decide_eq_true (mem_keys' hm)⟩
        · have cb : b = d := by omega
          refine ⟨mirL ns p o, g.newest _ hm cb, decide_eq_true ?_⟩
          rw [mirL_inv (g.seat _ ho) sk.len]
          exact mem_keys' ho
      exact ⟨d + 1, List.mem_append_right _ (List.mem_map.mpr ⟨p, hn, rfl⟩), by omega⟩
theorem rounds_full {ns : List Int} {tss : List (List Int)} : ∀ (f : Nat) {fs : List (List Int × Nat)} {miss newest : List (List Int)} {d : Nat}, FullL ns tss fs miss newest d → (∀ p ∈ miss, SeatOk ns p) → miss.length + (if newest = [] then 0 else 1) < f → ∃ m' d', FullL ns tss (roundsL ns f fs miss newest d) m' [] d'
  | 0, fs, miss, newest, d, _, _, h => by omega
  | f + 1, fs, miss, newest, d, g, okm, h => by
    rw [roundsL]
    by_cases c : newest = []
    · rw [if_pos c]
      exact ⟨miss, d, c ▸ g⟩
    rw [if_neg c]
    rw [if_neg c] at h
    have nwl : (newL ns fs miss newest).length + (missL (fs ++ atD (d + 1) (newL ns fs miss newest)) miss).length ≤ miss.length := filter_two fun p hp hc => decide_eq_false (not_not_intro (by
      rw [keys_app, keys_atD]
      exact List.mem_append_right _ (List.mem_filter.mpr ⟨hp, hc⟩)))
    refine rounds_full f (g.step okm) (fun p hp => okm p (mem_missL.mp hp).1) ?_
    by_cases cn : newL ns fs miss newest = []
    · rw [if_pos cn]
      omega
    · rw [if_neg cn]
      have := List.length_pos_iff.mpr cn
      omega
/-- what the numbers of calls are -/
structure LeastL (ns : List Int) (tss : List (List Int)) (fs : List (List Int × Nat)) : Prop where
  zero : ∀ p, dep fs p = some 0 ↔ p ∈ tss
  seat : ∀ p e, dep fs p = some e → SeatOk ns p
  both : ∀ p e, dep fs p = some (e + 1) → ∃ o a b, dep fs o = some a ∧ dep fs (mirL ns p o) = some b ∧ a ≤ e ∧ b ≤ e
  least : ∀ p o a b, SeatOk ns p → dep fs o = some a → dep fs (mirL ns p o) = some b → ∃ e, dep fs p = some e ∧ e ≤ max a b + 1
theorem counts_least {ns : List Int} {tss : List (List Int)} (sks : ∀ t ∈ tss, SeatOk ns t) (nod : tss.Nodup) (ne : tss ≠ []) : LeastL ns tss (countsL ns tss) := by
  obtain ⟨d0, g⟩ := counts_good sks nod
  have hf : ∃ m' d', FullL ns tss (countsL ns tss) m' [] d' := by
    refine rounds_full _ ⟨fun p sk => ?_, fun q hq e => (mem_atD hq).1, fun q hq => Nat.le_of_eq (mem_atD hq).2, fun q hq _ => (mem_atD hq).1, fun q hq => sks _ (mem_atD hq).1, fun p o a b _ _ _ la _ => by omega⟩ (fun p hp => mem_allS.mp (mem_missL.mp hp).1) ?_
    · by_cases c : p ∈ keysL (atD 0 tss)
      · exact .inl c
      · exact .inr (mem_missL.mpr ⟨mem_allS.mpr sk, c⟩)
    · rw [if_neg ne]
      have : (missL (atD 0 tss) (allS ns)).length ≤ (allS ns).length := List.length_filter_le _ _
      omega
  obtain ⟨m', d', fl⟩ := hf
  obtain ⟨gs, hpre⟩ := rounds_pre (ns := ns) ((allS ns).length + 2) (atD 0 tss) (missL (atD 0 tss) (allS ns)) tss 0
  have lt : ∀ {x : List Int} {y : Nat}, (x, y) ∈ countsL ns tss → y < d' := fun {x y} h => by
    have h1 := fl.le _ h
    have h2 : y ≠ d' := fun z => by
      have := fl.newest _ h z
      cases this
    simp only at h1
    omega
  refine ⟨fun p => ⟨fun h => fl.zero _ (mem_dep h) rfl, fun h => ?_⟩, fun p e h => g.seat _ (mem_dep h), fun p e h => ?_, fun p o a b sk ho hm => ?_⟩
  · have : (p, 0) ∈ countsL ns tss := by
      unfold countsL
      rw [hpre]
      exact List.mem_append_left _ (List.mem_map.mpr ⟨p, h, rfl⟩)
    exact dep_mem g.nod this
  · obtain ⟨o, a, b, h1, h2, h3, h4⟩ := g.both _ (mem_dep h) (Nat.succ_pos e)
    exact ⟨o, a, b, dep_mem g.nod h1, dep_mem g.nod h2, Nat.le_of_lt_succ h3, Nat.le_of_lt_succ h4⟩
  · obtain ⟨e, h1, h2⟩ := fl.least p o a b sk (mem_dep ho) (mem_dep hm) (lt (mem_dep ho)) (lt (mem_dep hm))
    exact ⟨e, dep_mem g.nod h1, h2⟩

section
variable {P : Program} {w : World} {K : PySem.W.Frag} {mg : Str → Option Value} {base : Heap}
def sp_Table_count (C : Addr) : Sp := fun vs H Q _ => ∃ (a : Addr) (ns : List Int), vs = [.ref a] ∧ TabAt C H a ns ∧ SzOk ns ∧ prodL ns ≤ 10 ^ 9 ∧ Q (.int (prodL ns)) H
theorem ok_Table_count (T : TX K mg) : FnOk P w K mg base CX0 1 T.f_Table_count T.fd_Table_count ["self"] (sp_Table_count T.C_Table) := by
  refine T.F_Table_count.ok sc_Table_count (fun vs H Q E h => ?_) (fun cdv A outer s H vs Q E hr h => ?_)
  · obtain ⟨a, ns, rfl, _⟩ := h
    rfl
  · obtain ⟨a, ns, rfl, ⟨dx, t, h1, h2⟩, ok, hB, k⟩ := h
    refine ⟨_, (pss_cons (ps_set (i := 1) sc_Table_count.nd rfl (Or.inl rfl) pe_int) (pss_cons (ps_for PassesOwn.never rfl (pi_tup (pe_fld (pv 0) rfl)) (pg_name (i := 2) sc_Table_count.nd rfl (Or.inl rfl)) (pss_one (ps_set (i := 1) sc_Table_count.nd rfl (Or.inl rfl) (pe_op op_mulI (pv 1) (pv 2))))) (pss_one (ps_ret (pv 1))))), ?_⟩
    refine ⟨_, rfl, a, _, dx, _, _, rfl, h1, T.cl_Table, T.n_Table_rings, rfl, t, rfl, ⟨_, SqT.of h2⟩, ?_⟩
    refine for_it (walk_tup (xs := ns.map V.int)) (fun i σ H2 => ∃ y : Option V, σ = [some (.ref a), some (.int (prodL (ns.take i))), y] ∧ H2 = H) ⟨none, rfl, rfl⟩ (fun i σ H2 _ ⟨_, _, e⟩ => by rw [e]; exact SqT.of h2) ?_ ?_
    · rintro i x σ H2 H3 hi ⟨y, rfl, rfl⟩ ⟨rfl, hx⟩
      obtain ⟨n, hn, rfl⟩ := map_get hx
      have b1 : 1 ≤ prodL (ns.take i) := prodL_pos fun m hm => ok.one m (List.mem_of_mem_take hm)
      have b2 : prodL (ns.take i) ≤ 10 ^ 9 := Int.le_trans (prodL_take i ok.one) hB
      refine ⟨_, rfl, _, rfl, _, _, rfl, rfl, mul_ok (.inl ⟨by omega, by omega⟩), some (.int n), ?_, rfl⟩
      rw [take_more hn, prodS_snoc]
      rfl
    · rintro σ H2 ⟨y, rfl, rfl⟩
      rw [List.length_map, List.take_length]
      exact ⟨_, rfl, k⟩
def sp_require_small (C : Addr) : Sp := fun vs H Q _ => ∃ (a : Addr) (ns : List Int), vs = [.ref a] ∧ TabAt C H a ns ∧ SzOk ns ∧ prodL ns ≤ 300 ∧ Q .non H
theorem ok_require_small (T : TX K mg) : FnOk P w K mg base CX0 2 T.f_require_small T.fd_require_small ["table"] (sp_require_small T.C_Table) := by
  refine T.F_require_small.ok sc_require_small (fun vs H Q E h => ?_) (fun cdv A outer s H vs Q E hr h => ?_)
  · obtain ⟨a, ns, rfl, _⟩ := h
    rfl
  · obtain ⟨a, ns, rfl, tab, ok, hB, k⟩ := h
    obtain ⟨dx, t, h1, h2⟩ := id tab
    refine ⟨_, (pss_one (ps_if (pt_cmpR op_gt (pe_meth0 (pv 0) T.cl_Table T.me_Table_count (ok_Table_count T) hr T.b_Table_count .nil pass0) (pe_glob (v := .int 300) rfl T.c_SMALL ⟨_, rfl⟩) (nomark _)) pss_never pss_nil)), ?_⟩
    refine ⟨_, rfl, a, dx, _, rfl, h1, rfl, a, ns, rfl, tab, ok, Int.le_trans hB (by decide), ?_⟩
    refine ⟨_, _, rfl, rfl, _, rfl, itf (decide_eq_false (by show ¬ (300 : Int) < prodL ns; omega)) k⟩
end

/-! ### comprehensions of new tuples -/
theorem paired_mono {α : Type} {P Q : V → α → Prop} (h : ∀ v a, P v a → Q v a) : ∀ {xs : List V} {as : List α}, Paired P xs as → Paired Q xs as
  | _, _, .nil => .nil
  | _, _, .cons q t => .cons (h _ _ q) (paired_mono h t)
theorem paired_snoc {α : Type} {P : V → α → Prop} {v : V} {a : α} (h : P v a) : ∀ {xs : List V} {as : List α}, Paired P xs as → Paired P (xs ++ [v]) (as ++ [a])
  | _, _, .nil => .cons h .nil
  | _, _, .cons q t => .cons q (paired_snoc h t)
theorem lc_new {α : Type} (Pd : Hp → V → α → Prop) (mono : ∀ (H H2 : Hp) (v : V) (a : α), (∀ c xs, H c = some (.tup xs) → H2 c = some (.tup xs)) → Pd H v a → Pd H2 v a)
    {J : It} {n : Nat} {G : Hp → Prop} {Y : Nat → Hp → V → Hp → Prop} (w : Walk J n G Y) {g : TG} {te : TE} {vs : List Nat} {σ : L2.St} {H1 : Hp} {D : Addr} {Qd : Hp → Prop} (as : List α) (hn : as.length = n) (hl : n ≤ 10000000) (hD : H1 D = none)
    (hG : ∀ H, Ex H1 H → G H)
    (hs : ∀ i x a H H2 (R : VK), as[i]? = some a → Ex H1 H → Y i H x H2 → (∀ v H5, Ex H H5 → Pd H5 v a → R v H5) → g x (wipe σ vs) H2 fun σ2 H3 => wipe σ2 vs = wipe σ vs ∧ te σ2 H3 R)
    (hg : ∀ x σ2 H2 (R R2 : L2.St → Hp → Prop), (∀ σ3 H3, R σ3 H3 → R2 σ3 H3) → g x σ2 H2 R → g x σ2 H2 R2)
    (hd : ∀ H xs, Ex H1 H → H D = some (.lst xs) → Paired (Pd H) xs as → Qd H) :
    ∃ W : Nat → Nat → Hp → Prop, (∃ m, W 0 m (upd H1 D (.lst []))) ∧ ∀ i m H, W i m H →
      (J.stop i H ∧ Qd H) ∨ (J.go i H ∧ ∃ Nx : Hp → Prop, (∀ H2, Nx H2 → ∃ m2, m2 < m ∧ W (i + 1) m2 H2) ∧ ∀ x H2, J.yld i H x H2 → g x (wipe σ vs) H2 fun σ2 H3 => wipe σ2 vs = wipe σ vs ∧ tYes σ2 H3 fun b H4 =>
        if b = true then te σ2 H4 fun y H5 => ∃ acc, H5 D = some (.lst acc) ∧ acc.length < sizeLine ∧ Nx (upd H5 D (.lst (acc ++ [y]))) else Nx H4) := by
  refine lc_it w (fun i H => Ex H1 H ∧ ∃ xs, H D = some (.lst xs) ∧ Paired (Pd H) xs (as.take i)) ⟨exn hD, [], upd_same, .nil⟩ (fun i H _ p => hG H p.1) (fun i x H H2 hi p y => ?_) (fun H p => ?_)
  · obtain ⟨a, ha⟩ : ∃ a, as[i]? = some a := ⟨_, List.getElem?_eq_getElem (by omega)⟩
    refine hg _ _ _ _ _ (fun σ3 H3 q => ⟨q.1, q.2⟩) (hs i x a H H2 (fun y H5 => ∃ acc, H5 D = some (.lst acc) ∧ acc.length < sizeLine ∧ Ex H1 (upd H5 D (.lst (acc ++ [y]))) ∧ ∃ xs, upd H5 D (.lst (acc ++ [y])) D = some (.lst xs) ∧ Paired (Pd (upd H5 D (.lst (acc ++ [y])))) xs (as.take (i + 1))) ha p.1 y fun v H5 e hv => ?_)
    obtain ⟨p1, xs, p2, p3⟩ := p
    have tp : ∀ c zs, H5 c = some (.tup zs) → upd H5 D (.lst (xs ++ [v])) c = some (.tup zs) := fun c zs z => by
      rw [upd_ne (ne_of z (e _ _ p2) (by intro q; cases q))]
      exact z
    refine ⟨xs, e _ _ p2, ?_, ex_upd (ext p1 e) hD, xs ++ [v], upd_same, ?_⟩
    · rw [Paired.length p3, List.length_take]
      exact Nat.lt_of_le_of_lt (Nat.le_trans (Nat.min_le_right _ _) (by rw [hn]; exact hl)) (by decide)
    · rw [take_more ha]
      refine paired_snoc (mono _ _ _ _ tp hv) (paired_mono (fun v a q => mono _ _ _ _ tp (mono _ _ _ _ (fun c zs z => e _ _ z) q)) p3)
  · obtain ⟨p1, xs, p2, p3⟩ := p
    rw [List.take_of_length_le (by omega)] at p3
    exact hd H xs p1 p2 p3
def PdRow (H : Hp) (x : V) (hs : List Int) : Prop := ∃ r, x = V.ref r ∧ H r = some (.tup (hs.map V.int))
theorem pdrow_mono (H H2 : Hp) (v : V) (a : List Int) (e : ∀ c xs, H c = some (.tup xs) → H2 c = some (.tup xs)) (h : PdRow H v a) : PdRow H2 v a := by
  obtain ⟨r, h1, h2⟩ := h
  exact ⟨r, h1, e _ _ h2⟩

theorem mir_shift : ∀ {ns ps cs : List Int}, ps.length = ns.length → cs.length = ns.length → mirL ns ps (shiftL ns ps cs 1) = shiftL ns ps cs (-1)
  | [], _, _, _, _ => by cases ‹List Int› <;> cases ‹List Int› <;> rfl
  | n :: ns, p :: ps, c :: cs, h1, h2 => by
    show ((2 * p - (p + 1 * c) % n) % n) :: mirL ns ps (shiftL ns ps cs 1) = ((p + -1 * c) % n) :: shiftL ns ps cs (-1)
    rw [mir_shift (by simpa using h1) (by simpa using h2)]
    congr 1
    rw [emod_eq_iff]
    have e := Int.mul_ediv_add_emod (p + 1 * c) n
    refine ⟨(p + 1 * c) / n, ?_⟩
    grind
theorem shift_to : ∀ {ns ps os : List Int}, SeatOk ns os → ps.length = ns.length → shiftL ns ps (toL ns ps os) 1 = os
  | [], _, [], _, _ => by cases ‹List Int› <;> rfl
  | n :: ns, p :: ps, o :: os, h, l => by
    obtain ⟨⟨o0, o1⟩, h2⟩ : (0 ≤ o ∧ o < n) ∧ SeatOk ns os := h
    show (p + 1 * ((o - p) % n)) % n :: shiftL ns ps (toL ns ps os) 1 = _
    rw [shift_to h2 (by simpa using l)]
    congr 1
    rw [Int.one_mul, Int.add_emod, Int.emod_emod, ← Int.add_emod, show p + (o - p) = o by omega, Int.emod_eq_of_lt o0 o1]

/-! ### the numbers of calls by trying all calls -/
theorem toL_seat : ∀ {ns ps os : List Int}, SeatOk ns ps → os.length = ns.length → SeatOk ns (toL ns ps os)
  | [], [], [], _, _ => True.intro
  | n :: ns, p :: ps, o :: os, h, l => by
    obtain ⟨⟨h1, h2⟩, h3⟩ : (0 ≤ p ∧ p < n) ∧ SeatOk ns ps := h
    exact ⟨⟨Int.emod_nonneg _ (by omega), Int.emod_lt_of_pos _ (by omega)⟩, toL_seat h3 (by simpa using l)⟩
def hasL (fs : List (List Int × Nat)) (p : List Int) : Bool := (dep fs p).isSome
/-- a call leads both ways into fs -/
def tryL (ns : List Int) (fs : List (List Int × Nat)) (ds : List (List Int)) (p : List Int) : Bool := ds.any fun d => hasL fs (shiftL ns p d 1) && hasL fs (shiftL ns p d (-1))
def joinL (ns : List Int) (fs : List (List Int × Nat)) (p : List Int) : Bool := !hasL fs p && tryL ns fs (allS ns) p
def lawNew (ns : List Int) (fs : List (List Int × Nat)) : List (List Int) := (allS ns).filter (joinL ns fs)
/-- all numbers up to r, and no others -/
structure UpTo (ns : List Int) (tss : List (List Int)) (fs : List (List Int × Nat)) (r : Nat) : Prop where
  is : ∀ p d, dep fs p = some d ↔ dep (countsL ns tss) p = some d ∧ d ≤ r
  nod : (keysL fs).Nodup
  seat : ∀ q ∈ keysL fs, SeatOk ns q
  ne : fs ≠ []
  len : fs.length ≤ (allS ns).length
section
variable {ns : List Int} {tss : List (List Int)} {fs : List (List Int × Nat)} {r : Nat}
theorem UpTo.has (u : UpTo ns tss fs r) {p : List Int} : hasL fs p = true ↔ ∃ d, dep (countsL ns tss) p = some d ∧ d ≤ r := by
  unfold hasL
  rw [Option.isSome_iff_exists]
  constructor
  · rintro ⟨d, h⟩
    exact ⟨d, (u.is p d).mp h⟩
  · rintro ⟨d, h⟩
    exact ⟨d, (u.is p d).mpr h⟩
theorem UpTo.start (sks : ∀ t ∈ tss, SeatOk ns t) (nod : tss.Nodup) (ne : tss ≠ []) : UpTo ns tss (atD 0 tss) 0 where
  is := fun p d => by
    have L := counts_least sks nod ne
    constructor
    · intro h
      obtain ⟨h1, h2⟩ := mem_atD (mem_dep h)
      have h2 : d = 0 := h2
      subst h2
      exact ⟨(L.zero p).mpr h1, Nat.le_refl _⟩
    · rintro ⟨h, hd⟩
      obtain rfl : d = 0 := by omega
      exact dep_mem (by rw [keys_atD]; exact nod) (List.mem_map_of_mem (f := fun p => (p, 0)) ((L.zero p).mp h))
  nod := by rw [keys_atD]; exact nod
  seat := fun q hq => by rw [keys_atD] at hq; exact sks q hq
  ne := fun z => ne (List.map_eq_nil_iff.mp z)
  len := by
    rw [List.length_map]
    exact List.Nodup.length_le_of_subset nod fun p hp => mem_allS.mpr (sks p hp)
/-- what is found beside an own seat -/
theorem UpTo.next (u : UpTo ns tss fs r) (L : LeastL ns tss (countsL ns tss)) {p d : List Int} (sp : SeatOk ns p) (ld : d.length = ns.length) (hn : hasL fs p = false) {a b : Nat} (ha : dep fs (shiftL ns p d 1) = some a) (hb : dep fs (shiftL ns p d (-1)) = some b) :
    max a b = r ∧ dep (countsL ns tss) p = some (r + 1) := by
  obtain ⟨a1, a2⟩ := (u.is _ _).mp ha
  obtain ⟨b1, b2⟩ := (u.is _ _).mp hb
  obtain ⟨e, h1, h2⟩ := L.least p _ a b sp a1 (by rw [mir_shift sp.len ld]; exact b1)
  have h3 : ¬ e ≤ r := fun z => by
    have := u.has.mpr ⟨e, h1, z⟩
    rw [hn] at this
    cases this
  have : e = r + 1 := by omega
  subst this
  exact ⟨by omega, h1⟩
theorem UpTo.try_is (u : UpTo ns tss fs r) (L : LeastL ns tss (countsL ns tss)) {p : List Int} (sp : SeatOk ns p) : joinL ns fs p = true ↔ dep (countsL ns tss) p = some (r + 1) := by
  unfold joinL tryL
  rw [Bool.and_eq_true, Bool.not_eq_true', List.any_eq_true]
  constructor
  · rintro ⟨hn, d, hd, h⟩
    rw [Bool.and_eq_true] at h
    obtain ⟨a, ha⟩ := Option.isSome_iff_exists.mp h.1
    obtain ⟨b, hb⟩ := Option.isSome_iff_exists.mp h.2
    exact (u.next L sp (mem_allS.mp hd).len hn ha hb).2
  · intro h
    refine ⟨?_, ?_⟩
    · cases c : hasL fs p with
      | false => rfl
      | true =>
        obtain ⟨d, h1, h2⟩ := u.has.mp c
        rw [h] at h1
        have := Option.some.inj h1
        omega
    · obtain ⟨o, a, b, h1, h2, h3, h4⟩ := L.both p r h
      have so := L.seat o a h1
      have lt := toL_len (ns := ns) sp.len so.len
      have e1 := shift_to so sp.len
      have st : SeatOk ns (toL ns p o) := toL_seat sp so.len
      refine ⟨toL ns p o, mem_allS.mpr st, ?_⟩
      rw [Bool.and_eq_true]
      refine ⟨u.has.mpr ⟨a, by rw [e1]; exact h1, h3⟩, u.has.mpr ⟨b, ?_, h4⟩⟩
      rw [← mir_shift sp.len lt, e1]
      exact h2
theorem dep_app (fs gs : List (List Int × Nat)) (p : List Int) : dep (fs ++ gs) p = match dep fs p with
    | some d => some d
    | none => dep gs p := by
  induction fs with
  | nil => rfl
  | cons f fs ih =>
    rw [List.cons_append, dep_cons, dep_cons]
    by_cases c : f.1 = p
    · rw [if_pos c, if_pos c]
    · rw [if_neg c, if_neg c, ih]
theorem dep_atD {d : Nat} {ps : List (List Int)} (nod : ps.Nodup) (p : List Int) : dep (atD d ps) p = if p ∈ ps then some d else none := by
  by_cases c : p ∈ ps
  · rw [if_pos c]
    exact dep_mem (q := (p, d)) (by rw [keys_atD]; exact nod) (List.mem_map_of_mem (f := fun p => (p, d)) c)
  · rw [if_neg c]
    cases h : dep (atD d ps) p with
    | none => rfl
    | some e => exact absurd (mem_atD (mem_dep h)).1 c
theorem UpTo.step (u : UpTo ns tss fs r) (L : LeastL ns tss (countsL ns tss)) : UpTo ns tss (fs ++ atD (r + 1) (lawNew ns fs)) (r + 1) := by
  have nn : (lawNew ns fs).Nodup := (allS_nodup ns).filter _
  have mem : ∀ p, p ∈ lawNew ns fs ↔ dep (countsL ns tss) p = some (r + 1) := fun p => by
    unfold lawNew
    rw [List.mem_filter]
    constructor
    · rintro ⟨h1, h2⟩
      exact (u.try_is L (mem_allS.mp h1)).mp h2
    · intro h
      have sp := L.seat _ _ h
      exact ⟨mem_allS.mpr sp, (u.try_is L sp).mpr h⟩
  have nod : (keysL (fs ++ atD (r + 1) (lawNew ns fs))).Nodup := by
    rw [keys_app, keys_atD, List.nodup_append]
    refine ⟨u.nod, nn, fun a ha b hb e => ?_⟩
    subst e
    have h1 := (mem a).mp hb
    obtain ⟨d, hd⟩ := mem_keys ha
    have h2 := (u.is a d).mp (dep_mem u.nod hd)
    rw [h1] at h2
    have := Option.some.inj h2.1
    omega
  have seat : ∀ q ∈ keysL (fs ++ atD (r + 1) (lawNew ns fs)), SeatOk ns q := fun q hq => by
    rw [keys_app, keys_atD] at hq
    rcases List.mem_append.mp hq with h | h
    · exact u.seat q h
    · exact L.seat _ _ ((mem q).mp h)
  refine ⟨fun p d => ?_, nod, seat, (fun z => u.ne (List.append_eq_nil_iff.mp z).1), ?_⟩
  · rw [dep_app, dep_atD nn]
    constructor
    · intro h
      cases hf : dep fs p with
      | some e =>
        rw [hf] at h
        obtain rfl := Option.some.inj h
        obtain ⟨h1, h2⟩ := (u.is p e).mp hf
        exact ⟨h1, by omega⟩
      | none =>
        rw [hf] at h
        by_cases c : p ∈ lawNew ns fs
        · have h : (if p ∈ lawNew ns fs then some (r + 1) else none) = some d := h
          rw [if_pos c] at h
          obtain rfl := Option.some.inj h
          exact ⟨(mem p).mp c, Nat.le_refl _⟩
        · have h : (if p ∈ lawNew ns fs then some (r + 1) else none) = some d := h
          rw [if_neg c] at h
          cases h
    · rintro ⟨h1, h2⟩
      by_cases c : d ≤ r
      · rw [(u.is p d).mpr ⟨h1, c⟩]
      · obtain rfl : d = r + 1 := by omega
        have hf : dep fs p = none := by
          cases hf : dep fs p with
          | none => rfl
          | some e =>
            obtain ⟨h3, h4⟩ := (u.is p e).mp hf
            rw [h1] at h3
            have := Option.some.inj h3
            omega
        rw [hf]
        show (if p ∈ lawNew ns fs then some (r + 1) else none) = some (r + 1)
        rw [if_pos ((mem p).mpr h1)]
  · rw [← List.length_map (f := (·.1))]
    exact List.Nodup.length_le_of_subset nod fun p hp => mem_allS.mpr (seat p hp)
/-- every number comes behind the one before -/
theorem LeastL.below (L : LeastL ns tss (countsL ns tss)) (k : Nat) : ∀ (m : Nat) (p : List Int), dep (countsL ns tss) p = some m → k ≤ m → ∃ q, dep (countsL ns tss) q = some k := by
  intro m
  induction m using Nat.strongRecOn with
  | ind m ih =>
    intro p h hk
    by_cases c : k = m
    · exact ⟨p, by rw [c]; exact h⟩
    cases m with
    | zero => omega
    | succ m =>
      obtain ⟨o, a, b, h1, h2, h3, h4⟩ := L.both p m h
      obtain ⟨e, g1, g2⟩ := L.least p o a b (L.seat _ _ h) h1 h2
      rw [h] at g1
      have := Option.some.inj g1
      by_cases c2 : a = m
      · exact ih a (by omega) o h1 (by omega)
      · have : b = m := by omega
        exact ih b (by omega) _ h2 (by omega)
/-- nothing new: all numbers are there -/
theorem UpTo.done (u : UpTo ns tss fs r) (L : LeastL ns tss (countsL ns tss)) (h : lawNew ns fs = []) (p : List Int) : dep fs p = dep (countsL ns tss) p := by
  have no : ∀ q d, dep (countsL ns tss) q = some d → d ≤ r := fun q d hd => by
    by_cases c : d ≤ r
    · exact c
    obtain ⟨q2, h2⟩ := L.below (r + 1) d q hd (by omega)
    have sp := L.seat _ _ h2
    have : q2 ∈ lawNew ns fs := List.mem_filter.mpr ⟨mem_allS.mpr sp, (u.try_is L sp).mpr h2⟩
    rw [h] at this
    cases this
  cases hc : dep (countsL ns tss) p with
  | some d => exact (u.is p d).mpr ⟨hc, no p d hc⟩
  | none =>
    cases hf : dep fs p with
    | none => rfl
    | some e =>
      have := ((u.is p e).mp hf).1
      rw [hc] at this
      cases this
theorem putK_same {k : List L2.Key} {v : V} : ∀ {kvs : List (List L2.Key × V)}, (kvs.map (·.1)).Nodup → (k, v) ∈ kvs → putK kvs k v = kvs := fun {kvs} nod h => by
  unfold putK
  have e : (kvs.any fun kv => decide (kv.1 = k)) = true := List.any_eq_true.mpr ⟨(k, v), h, decide_eq_true rfl⟩
  rw [if_pos e]
  conv => rhs; rw [← List.map_id kvs]
  refine List.map_congr_left fun kv hkv => ?_
  by_cases c : kv.1 = k
  · rw [if_pos c]
    have : kv = (k, v) := by
      clear e
      induction kvs with
      | nil => cases h
      | cons a r ih =>
        rw [List.map_cons] at nod
        obtain ⟨n1, n2⟩ := List.nodup_cons.mp nod
        rcases List.mem_cons.mp hkv with rfl | h1
        · rcases List.mem_cons.mp h with h2 | h2
          · exact h2.symm
          · exact absurd (List.mem_map.mpr ⟨_, h2, c.symm⟩) n1
        · rcases List.mem_cons.mp h with h2 | h2
          · subst h2
            exact absurd (List.mem_map.mpr ⟨_, h1, c⟩) n1
          · exact ih n2 h2 h1
    rw [this]
    rfl
  · rw [if_neg c]
    rfl
end

/-! a dict of one value for each seat -/
theorem val_due {f : List Int → V} {p : List Int} : ∀ {ps : List (List Int)}, p ∈ ps → valV (ps.map fun p => (entK p, f p)) (entK p) = some (f p)
  | q :: ps, h => by
    rw [List.map_cons]
    by_cases c : q = p
    · subst c
      exact valV_pos rfl
    · rw [valV_neg (fun z => c (entK_inj z))]
      rcases List.mem_cons.mp h with rfl | h
      · exact absurd rfl c
      · exact val_due h
theorem val_not {f : List Int → V} {p : List Int} : ∀ {ps : List (List Int)}, p ∉ ps → valV (ps.map fun p => (entK p, f p)) (entK p) = none
  | [], _ => rfl
  | q :: ps, h => by
    rw [List.map_cons, valV_neg (fun z => h (by rw [entK_inj z]; exact List.mem_cons_self))]
    exact val_not fun z => h (List.mem_cons_of_mem _ z)
theorem merge_due {f : List Int → V} {ps : List (List Int)} (nod : ps.Nodup) : CD.mergeT [] (ps.map fun p => (entK p, f p)) = ps.map fun p => (entK p, f p) := by
  have h : ∀ (ms fs : List (List Int)), (fs ++ ms).Nodup → CD.mergeT (fs.map fun p => (entK p, f p)) (ms.map fun p => (entK p, f p)) = (fs ++ ms).map fun p => (entK p, f p) := by
    intro ms
    induction ms with
    | nil => intro fs _; simp [CD.mergeT]
    | cons m ms ih =>
      intro fs nod
      have hm : m ∉ fs := fun z => (List.nodup_append.mp nod).2.2 m z m List.mem_cons_self rfl
      show CD.mergeT (putK (fs.map fun p => (entK p, f p)) (entK m) (f m)) (ms.map fun p => (entK p, f p)) = _
      rw [putK_new _ (by rw [val_not hm]), show (fs.map fun p => (entK p, f p)) ++ [(entK m, f m)] = (fs ++ [m]).map fun p => (entK p, f p) by rw [List.map_append]; rfl, ih (fs ++ [m]) (by rw [List.append_assoc]; exact nod), List.append_assoc]
      rfl
  exact h ps [] nod
theorem due_get {H : Hp} {d r : Addr} {f : List Int → V} {ps : List (List Int)} {p : List Int} (h : H d = some (.dT (ps.map fun p => (entK p, f p)))) (hr : H r = some (.tup (p.map V.int))) (hp : p ∈ ps) : DGet H d (.ref r) (some (f p)) := by
  rw [← val_due hp]
  exact DGet.t h (by rw [entK_kV]; exact hr)
theorem prt_mono (H H2 : Hp) (v : V) (a : List L2.Key × V) (e : ∀ c xs, H c = some (.tup xs) → H2 c = some (.tup xs)) (h : CD.PrT H v a) : CD.PrT H2 v a := by
  obtain ⟨p, b, h1, h2, h3⟩ := h
  exact ⟨p, b, h1, e _ _ h2, e _ _ h3⟩
theorem mem_rows {H : Hp} : ∀ {ys : List V} {tss : List (List Int)} {v : V}, RowsR H ys tss → v ∈ ys → ∃ r ts, v = V.ref r ∧ ts ∈ tss ∧ H r = some (.tup (ts.map V.int))
  | y :: ys, ts :: tss, v, .cons q t, h => by
    rcases List.mem_cons.mp h with rfl | h
    · obtain ⟨r, h1, h2⟩ := q
      exact ⟨r, ts, h1, List.mem_cons_self, h2⟩
    · obtain ⟨r, ts, h1, h2, h3⟩ := mem_rows t h
      exact ⟨r, ts, h1, List.mem_cons_of_mem _ h2, h3⟩

/-! ### closed under middles = a coset -/
/-- what is closed under middles, over integer vectors read modulo N -/
structure MidA (n : Nat) (N : Nat → Int) (A : Vec → Prop) : Prop where
  congr : ∀ v w : Vec, (∀ i, i < n → N i ∣ v i - w i) → A v → A w
  mid : ∀ o x : Vec, A o → A (fun i => 2 * x i - o i) → A x
  zero : A fun _ => 0
section
variable {n M : Nat} {N : Nat → Int} {A : Vec → Prop}
theorem MidA.eq (h : MidA n N A) {v w : Vec} (e : ∀ i, v i = w i) (hv : A v) : A w := (funext e : v = w) ▸ hv
theorem MidA.half (h : MidA n N A) {x : Vec} (hx : A fun i => 2 * x i) : A x := h.mid _ x h.zero (h.eq (fun i => by omega) hx)
theorem MidA.halves (h : MidA n N A) : ∀ (k : Nat) {x : Vec}, A (fun i => 2 ^ k * x i) → A x
  | 0, x, hx => h.eq (fun i => by simp) hx
  | k + 1, x, hx => h.half (h.halves k (h.eq (fun i => by rw [Int.pow_succ, Int.mul_assoc]) hx))
theorem MidA.torsion (h : MidA n N A) : ∀ (k : Nat) {s t : Vec}, (∀ i, i < n → N i ∣ 2 ^ k * t i) → A s → A (fun i => s i + t i)
  | 0, s, t, ht, hs => h.congr s _ (fun i hi => by
      have := ht i hi
      rw [Int.pow_zero, Int.one_mul] at this
      obtain ⟨c, hc⟩ := this
      exact ⟨-c, by rw [hc]; grind⟩) hs
  | k + 1, s, t, ht, hs => by
    have h2 : A (fun i => s i + 2 * t i) := h.torsion k (t := fun i => 2 * t i) (fun i hi => by
      have := ht i hi
      rwa [Int.pow_succ, Int.mul_assoc] at this) hs
    exact h.mid s _ hs (h.eq (fun i => by omega) h2)
/-- a power of 2 that is idempotent modulo M, but for 2-torsion -/
theorem two_cycle (M : Nat) (hM : 0 < M) : ∃ K e : Nat, 1 ≤ e ∧ (M : Int) ∣ 2 ^ K * (2 ^ e - 1) := by
  have key : ∃ i j : Nat, i < j ∧ 2 ^ i % M = 2 ^ j % M := by
    refine Classical.byContradiction fun no => ?_
    have nod : ((List.range (M + 1)).map fun i => 2 ^ i % M).Nodup := by
      unfold List.Nodup
      rw [List.pairwise_map]
      refine List.Pairwise.imp (fun {a b} hab e => ?_) List.pairwise_lt_range
      exact no ⟨a, b, hab, e⟩
    have sub : ((List.range (M + 1)).map fun i => 2 ^ i % M) ⊆ List.range M := fun x hx => by
      obtain ⟨i, _, rfl⟩ := List.mem_map.mp hx
      exact List.mem_range.mpr (Nat.mod_lt _ hM)
    have := List.Nodup.length_le_of_subset nod sub
    rw [List.length_map, List.length_range, List.length_range] at this
    omega
  obtain ⟨i, j, hij, e⟩ := key
  refine ⟨i, j - i, by omega, ?_⟩
  have e2 : ((2 : Int) ^ j - 2 ^ i) = 2 ^ i * (2 ^ (j - i) - 1) := by
    rw [Int.mul_sub, ← Int.pow_add, show i + (j - i) = j by omega, Int.mul_one]
  rw [← e2]
  have e3 : ((2 ^ j : Nat) : Int) % (M : Int) = ((2 ^ i : Nat) : Int) % (M : Int) := by
    rw [← Int.natCast_emod, ← Int.natCast_emod, e]
  have d := emod_eq_iff.mp e3
  simpa using d
/-- M kills every vector -/
structure MidM (n : Nat) (N : Nat → Int) (A : Vec → Prop) (M : Nat) : Prop extends MidA n N A where
  pos : 0 < M
  kill : ∀ i, i < n → N i ∣ (M : Int)
theorem MidM.pow (h : MidM n N A M) : ∃ e : Nat, 1 ≤ e ∧ (∀ y : Vec, A y → A fun i => 2 ^ e * y i) := by
  obtain ⟨K, e, e1, d⟩ := two_cycle M h.pos
  refine ⟨e, e1, fun y hy => ?_⟩
  have := h.toMidA.torsion K (s := y) (t := fun i => (2 ^ e - 1) * y i) (fun i hi => ?_) hy
  · refine h.eq (fun i => ?_) this
    show y i + (2 ^ e - 1) * y i = 2 ^ e * y i
    generalize (2 : Int) ^ e = z
    grind
  · have d2 : (M : Int) ∣ 2 ^ K * ((2 ^ e - 1) * y i) := by
      rw [← Int.mul_assoc]
      exact Int.dvd_mul_of_dvd_left d
    exact Int.dvd_trans (h.kill i hi) d2
theorem MidM.double (h : MidM n N A M) {y : Vec} (hy : A y) : A fun i => 2 * y i := by
  obtain ⟨e, e1, he⟩ := h.pow
  obtain ⟨d, rfl⟩ : ∃ d, e = d + 1 := ⟨e - 1, by omega⟩
  exact h.toMidA.halves d (h.eq (fun i => by rw [Int.pow_succ, Int.mul_assoc]) (he y hy))
theorem MidM.add (h : MidM n N A M) {a b : Vec} (ha : A a) (hb : A b) : A fun i => a i + b i := by
  obtain ⟨e, e1, he⟩ := h.pow
  obtain ⟨d, rfl⟩ : ∃ d, e = d + 1 := ⟨e - 1, by omega⟩
  have hx : A fun i => 2 ^ d * (a i + b i) := h.mid (fun i => 2 ^ (d + 1) * a i) _ (he a ha) (h.eq (fun i => by
    show 2 ^ (d + 1) * b i = 2 * (2 ^ d * (a i + b i)) - 2 ^ (d + 1) * a i
    rw [Int.pow_succ]
    generalize (2 : Int) ^ d = z
    grind) (he b hb))
  exact h.toMidA.halves d hx
theorem MidM.times (h : MidM n N A M) {a : Vec} (ha : A a) : ∀ k : Nat, A fun i => (k : Int) * a i
  | 0 => h.eq (fun i => by simp) h.zero
  | k + 1 => h.eq (fun i => by
      show (k : Int) * a i + a i = ((k + 1 : Nat) : Int) * a i
      rw [Int.natCast_add]
      grind) (h.add (h.times ha k) ha)
theorem MidM.mul (h : MidM n N A M) {a : Vec} (ha : A a) (k : Int) : A fun i => k * a i := by
  have hp := h.pos
  have hk := Int.emod_nonneg k (show (M : Int) ≠ 0 by omega)
  have := h.times ha (k % M).toNat
  refine h.congr _ _ (fun i hi => ?_) this
  show N i ∣ ((k % M).toNat : Int) * a i - k * a i
  rw [Int.toNat_of_nonneg hk, ← Int.sub_mul]
  refine Int.dvd_mul_of_dvd_left (Int.dvd_trans (h.kill i hi) ?_)
  exact ⟨-(k / M), by have := Int.mul_ediv_add_emod k M; grind⟩
theorem MidM.lat (h : MidM n N A M) {G : Vec → Prop} (hg : ∀ g, G g → A g) {v : Vec} (hv : Lat G v) : A v := by
  induction hv with
  | zero => exact h.zero
  | step k _ hgg ih => exact h.eq (fun i => by grind) (h.add ih (h.mul (hg _ hgg) (-k)))
end
theorem dvd_prodM : ∀ {ns : List Int} {n : Int}, n ∈ ns → n ∣ prodL ns
  | a :: ns, n, h => by
    rw [prodL_cons]
    rcases List.mem_cons.mp h with rfl | h
    · exact Int.dvd_mul_right _ _
    · exact Int.dvd_trans (dvd_prodM h) (Int.dvd_mul_left _ _)
/-- a vector's first entries -/
abbrev lf (n : Nat) (v : Vec) : List Int := (List.range n).map v
theorem lf_at {n i : Nat} {v : Vec} (h : i < n) : (lf n v)[i]? = some (v i) := by
  rw [List.getElem?_map, List.getElem?_range h]
  rfl
/-- a set of seats that holds the targets and each seat between two of its seats -/
structure MidS (ns : List Int) (tss : List (List Int)) (S : List Int → Prop) : Prop where
  goal : ∀ t ∈ tss, S t
  mid : ∀ p o, SeatOk ns p → SeatOk ns o → S o → S (mirL ns p o) → S p
theorem shift_cong {ns t : List Int} {a b : List Int} (lt : t.length = ns.length) (la : a.length = ns.length) (lb : b.length = ns.length) (h : ∀ (i : Nat) (n x y : Int), ns[i]? = some n → a[i]? = some x → b[i]? = some y → n ∣ x - y) : shiftL ns t a 1 = shiftL ns t b 1 := by
  refine List.ext_getElem? fun i => ?_
  by_cases hi : i < ns.length
  · obtain ⟨n, hn⟩ : ∃ n, ns[i]? = some n := ⟨_, List.getElem?_eq_getElem hi⟩
    obtain ⟨z, hz⟩ : ∃ z, t[i]? = some z := ⟨t[i]'(by omega), List.getElem?_eq_getElem _⟩
    obtain ⟨x, hx⟩ : ∃ x, a[i]? = some x := ⟨a[i]'(by omega), List.getElem?_eq_getElem _⟩
    obtain ⟨y, hy⟩ : ∃ y, b[i]? = some y := ⟨b[i]'(by omega), List.getElem?_eq_getElem _⟩
    rw [shift_get hn hz hx, shift_get hn hz hy]
    congr 1
    rw [emod_eq_iff]
    have := h i n x y hn hx hy
    rwa [show z + 1 * x - (z + 1 * y) = x - y by omega]
  · rw [List.getElem?_eq_none (by rw [shift_len lt la]; omega), List.getElem?_eq_none (by rw [shift_len lt lb]; omega)]
theorem MidS.vec {ns : List Int} {tss : List (List Int)} {S : List Int → Prop} (one : ∀ n ∈ ns, 1 ≤ n) (h : MidS ns tss S) {t : List Int} (ht : t ∈ tss) (st : SeatOk ns t) : MidM ns.length (fun i => vf ns i) (fun v => S (shiftL ns t (lf ns.length v) 1)) (prodL ns).toNat where
  congr v w e hv := by
    have : shiftL ns t (lf ns.length v) 1 = shiftL ns t (lf ns.length w) 1 := shift_cong st.len (by simp) (by simp) fun i n x y hn hx hy => by
      have hi := (List.getElem?_eq_some_iff.mp hn).1
      rw [lf_at hi] at hx hy
      obtain rfl := Option.some.inj hx
      obtain rfl := Option.some.inj hy
      have := e i hi
      rwa [vf_at hn] at this
    rw [← this]
    exact hv
  mid o x ho hx := by
    have s1 : SeatOk ns (shiftL ns t (lf ns.length x) 1) := shift_seat one st.len (by simp)
    have s2 : SeatOk ns (shiftL ns t (lf ns.length o) 1) := shift_seat one st.len (by simp)
    refine h.mid _ _ s1 s2 ho ?_
    have : mirL ns (shiftL ns t (lf ns.length x) 1) (shiftL ns t (lf ns.length o) 1) = shiftL ns t (lf ns.length fun i => 2 * x i - o i) 1 := by
      have lm : (mirL ns (shiftL ns t (lf ns.length x) 1) (shiftL ns t (lf ns.length o) 1)).length = ns.length := mirL_len s1.len s2.len
      refine List.ext_getElem? fun i => ?_
      by_cases hi : i < ns.length
      · obtain ⟨n, hn⟩ : ∃ n, ns[i]? = some n := ⟨_, List.getElem?_eq_getElem hi⟩
        obtain ⟨z, hz⟩ : ∃ z, t[i]? = some z := ⟨t[i]'(by rw [st.len]; exact hi), List.getElem?_eq_getElem _⟩
        rw [mirL_get hn (shift_get hn hz (lf_at hi)) (shift_get hn hz (lf_at hi)), shift_get hn hz (lf_at hi)]
        congr 1
        rw [emod_eq_iff]
        have d1 := emod_dvd (z + 1 * x i) n
        have d2 := emod_dvd (z + 1 * o i) n
        have d3 : n ∣ 2 * ((z + 1 * x i) % n - (z + 1 * x i)) := Int.dvd_mul_of_dvd_right d1
        have := Int.dvd_sub d3 d2
        refine (congrArg (n ∣ ·) ?_).mp this
        grind
      · rw [List.getElem?_eq_none (by rw [lm]; omega), List.getElem?_eq_none (by rw [shift_len st.len (by simp)]; omega)]
    rw [this]
    exact hx
  zero := by
    have : shiftL ns t (lf ns.length fun _ => 0) 1 = t := by
      have l1 : (shiftL ns t (lf ns.length fun _ => 0) 1).length = ns.length := shift_len st.len (by simp)
      refine List.ext_getElem? fun i => ?_
      by_cases hi : i < ns.length
      · obtain ⟨n, hn⟩ : ∃ n, ns[i]? = some n := ⟨_, List.getElem?_eq_getElem hi⟩
        obtain ⟨z, hz⟩ : ∃ z, t[i]? = some z := ⟨t[i]'(by rw [st.len]; exact hi), List.getElem?_eq_getElem _⟩
        rw [shift_get hn hz (lf_at hi), hz]
        obtain ⟨z0, z1⟩ := st.at hn hz
        rw [show z + 1 * 0 = z by omega, Int.emod_eq_of_lt z0 z1]
      · rw [List.getElem?_eq_none (by rw [l1]; omega), List.getElem?_eq_none (by rw [st.len]; omega)]
    rw [this]
    exact h.goal t ht
  pos := by
    have := prodL_pos one
    omega
  kill i hi := by
    have e : ns[i]? = some ns[i] := List.getElem?_eq_getElem hi
    rw [vf_at e]
    have p1 := prodL_pos one
    rw [Int.toNat_of_nonneg (by omega)]
    exact dvd_prodM (List.getElem_mem hi)
theorem back {ns p t : List Int} (sp : SeatOk ns p) (st : SeatOk ns t) : shiftL ns t (lf ns.length fun i => vf p i - vf t i) 1 = p := by
  have l1 : (shiftL ns t (lf ns.length fun i => vf p i - vf t i) 1).length = ns.length := shift_len st.len (by simp)
  refine List.ext_getElem? fun i => ?_
  by_cases hi : i < ns.length
  · obtain ⟨n, hn⟩ : ∃ n, ns[i]? = some n := ⟨_, List.getElem?_eq_getElem hi⟩
    obtain ⟨z, hz⟩ : ∃ z, t[i]? = some z := ⟨t[i]'(by rw [st.len]; exact hi), List.getElem?_eq_getElem _⟩
    obtain ⟨x, hx⟩ : ∃ x, p[i]? = some x := ⟨p[i]'(by rw [sp.len]; exact hi), List.getElem?_eq_getElem _⟩
    rw [shift_get hn hz (lf_at hi), hx, vf_at hx, vf_at hz]
    obtain ⟨x0, x1⟩ := sp.at hn hx
    rw [show z + 1 * (x - z) = x by omega, Int.emod_eq_of_lt x0 x1]
  · rw [List.getElem?_eq_none (by rw [l1]; omega), List.getElem?_eq_none (by rw [sp.len]; omega)]
/-- what is free is in every such set -/
theorem free_mid {ns : List Int} {tss : List (List Int)} {S : List Int → Prop} (tg : TgOk ns tss) (h : MidS ns tss S) {p : List Int} (sp : SeatOk ns p) (hf : freeF 0 (shiftB ns tss) (diffL p (tss.headD [])) = true) : S p := by
  have sk0 := tg.sks _ tg.head
  obtain ⟨t, rfl⟩ : ∃ t, t = tss.headD [] := ⟨_, rfl⟩
  have m := h.vec tg.ok.one tg.head sk0
  have hin := (free_any tg sp tg.head).mp hf
  obtain ⟨s1, s2, s3, s4⟩ := shift_ok tg.ok tg.hB tg.ne tg.sks
  have l := (s3 _).mp hin
  have hA := m.lat (fun g hg => ?_) l
  · have e : shiftL ns (tss.headD []) (lf ns.length fun i => vf p i - vf (tss.headD []) i) 1 = p := back sp sk0
    rw [e] at hA
    exact hA
  · rcases hg with ⟨r, hr, rfl⟩ | ⟨j, _, hj, rfl⟩
    · obtain ⟨u, hu, rfl⟩ := List.mem_map.mp hr
      have hu2 : u ∈ tss := List.mem_of_mem_tail hu
      have su := tg.sks u hu2
      have e : shiftL ns (tss.headD []) (lf ns.length (vf (diffL u (tss.headD [])))) 1 = u := by
        rw [diff_vf (by rw [su.len, sk0.len])]
        exact back su sk0
      show S _
      rw [e]
      exact h.goal u hu2
    · have e : ns[j]? = some ns[j] := List.getElem?_eq_getElem hj
      obtain ⟨⟨k, hk⟩, _⟩ := oddI_ok (tg.ok.one _ (List.getElem_mem hj))
      have := m.toMidA.torsion k (s := fun _ => 0) (t := unitV j (vf (ns.map oddI) j)) (fun i hi => ?_) m.zero
      · exact m.eq (fun i => by omega) this
      · have ei : ns[i]? = some ns[i] := List.getElem?_eq_getElem hi
        rw [vf_at ei]
        unfold unitV
        by_cases c : i = j
        · subst c
          rw [if_pos rfl, odds_at ei]
          exact ⟨1, by rw [Int.mul_one]; exact hk.symm⟩
        · rw [if_neg c, Int.mul_zero]
          exact Int.dvd_zero _

theorem no_free {ns p : List Int} {tss : List (List Int)} (tg : TgOk ns tss) (sk : SeatOk ns p) (hf : freeF 0 (shiftB ns tss) (diffL p (tss.headD [])) = false) : ∃ (m r : Int) (ws : List Int), WitOk ns m ws r ∧ (∀ t ∈ tss, wsum ws t % m = r) ∧ wsum ws p % m ≠ r := by
  obtain ⟨s1, s2, s3, s4⟩ := shift_ok tg.ok tg.hB tg.ne tg.sks
  have sk0 := tg.sks _ tg.head
  have lv : (diffL p (tss.headD [])).length = ns.length := diff_len sk.len sk0.len
  cases hi : sepI (shiftB ns tss) ns.length (diffL p (tss.headD [])) with
  | none =>
    have := (free_iff s1 s2 lv).mpr (sep_none s1 s2 lv hi)
    rw [hf] at this
    cases this
  | some i =>
    obtain ⟨a, b, c⟩ := wit_ok tg.ok tg.hB tg.ne tg.sks sk hi
    exact ⟨_, _, _, a, b, c⟩
/-- a seat has a number of calls exactly if it is free -/
theorem LeastL.sound {ns : List Int} {tss : List (List Int)} {fs : List (List Int × Nat)} {S : List Int → Prop} (L : LeastL ns tss fs) (hS : MidS ns tss S) : ∀ (d : Nat) (p : List Int), dep fs p = some d → S p := fun d => by
  induction d using Nat.strongRecOn with
  | ind d ih =>
    intro p hp
    cases d with
    | zero => exact hS.goal p ((L.zero p).mp hp)
    | succ d =>
      obtain ⟨o, a, b, ho, hb, la, lb⟩ := L.both p d hp
      exact hS.mid p o (L.seat p _ hp) (L.seat o _ ho) (ih a (by omega) o ho) (ih b (by omega) _ hb)
theorem wit_mid {ns ws : List Int} {tss : List (List Int)} {m r : Int} (one : ∀ n ∈ ns, 1 ≤ n) (wok : WitOk ns m ws r) (ht : ∀ t ∈ tss, wsum ws t % m = r) : MidS ns tss (fun q => SeatOk ns q → wsum ws q % m = r) := ⟨fun t h _ => ht t h, fun q o sq so h1 h2 _ => by
  have e1 : shiftL ns q (toL ns q o) 1 = o := shift_to so sq.len
  have lt := toL_len sq.len so.len
  have e2 : shiftL ns q (toL ns q o) (-1) = mirL ns q o := by rw [← mir_shift sq.len lt, e1]
  exact two_moves wok sq.len lt (by rw [e1]; exact h1 so) (by rw [e2]; exact h2 (mirL_seat one sq.len so.len))⟩
theorem dep_free {ns : List Int} {tss : List (List Int)} (tg : TgOk ns tss) (nod : tss.Nodup) {p : List Int} (sp : SeatOk ns p) : (dep (countsL ns tss) p).isSome = freeF 0 (shiftB ns tss) (diffL p (tss.headD [])) := by
  have L := counts_least tg.sks nod tg.ne
  cases hf : freeF 0 (shiftB ns tss) (diffL p (tss.headD [])) with
  | true =>
    refine free_mid tg (S := fun q => (dep (countsL ns tss) q).isSome = true) ⟨fun t ht => by rw [(L.zero t).mpr ht]; rfl, fun q o sq so h1 h2 => ?_⟩ sp hf
    obtain ⟨a, ha⟩ := Option.isSome_iff_exists.mp h1
    obtain ⟨b, hb⟩ := Option.isSome_iff_exists.mp h2
    obtain ⟨e, he, _⟩ := L.least q o a b sq ha hb
    rw [he]
    rfl
  | false =>
    cases hd : dep (countsL ns tss) p with
    | none => rfl
    | some d =>
      exfalso
      obtain ⟨m, r, ws, wok, ht, hn⟩ := no_free tg sp hf
      exact hn (L.sound (wit_mid tg.ok.one wok ht) d p hd sp)

theorem mul_le_prod {ns : List Int} (h : ∀ n ∈ ns, 1 ≤ n) {i : Nat} {n : Int} (hn : ns[i]? = some n) : n ≤ prodL ns := by
  have o1 : ∀ m ∈ ns.take i, 1 ≤ m := fun m hm => h m (List.mem_of_mem_take hm)
  have a1 : prodL (ns.take (i + 1)) ≤ prodL ns := prodL_take (i + 1) h
  have n1 := h n (List.mem_of_getElem? hn)
  rw [take_more hn, prodS_snoc] at a1
  have a2 := prodL_pos o1
  have a3 : 1 * n ≤ prodL (ns.take i) * n := Int.mul_le_mul_of_nonneg_right a2 (by omega)
  omega
theorem szc_of {ns : List Int} (ok : SzOk ns) (pr : prodL ns ≤ 300) : SzC ns := fun n hn => by
  obtain ⟨i, hi⟩ := List.getElem?_of_mem hn
  have := mul_le_prod ok.one hi
  exact Int.le_trans (show n ≤ 300 by omega) (by decide +kernel)
/-- the unvisited seats in ascending order -/
def openL (ns : List Int) (vis : List (List Int)) (p : List Int) : List (List Int) := (allS ns).filter fun o => decide (o ∉ vis) && decide (o ≠ p)
theorem openL_nodup (ns : List Int) (vis : List (List Int)) (p : List Int) : (openL ns vis p).Nodup := (allS_nodup ns).filter _
theorem mem_open {ns : List Int} {vis : List (List Int)} {p o : List Int} : o ∈ openL ns vis p ↔ SeatOk ns o ∧ o ∉ vis ∧ o ≠ p := by
  unfold openL
  rw [List.mem_filter, mem_allS, Bool.and_eq_true, decide_eq_true_eq, decide_eq_true_eq]
theorem openL_len {ns : List Int} (ok : SzOk ns) (pr : prodL ns ≤ 300) (vis : List (List Int)) (p : List Int) : (openL ns vis p).length ≤ 300 := by
  have h1 := allS_len ok.one
  have h2 : (openL ns vis p).length ≤ (allS ns).length := List.length_filter_le _ _
  omega
theorem seats_len {ns : List Int} (ok : SzOk ns) (pr : prodL ns ≤ 300) {tss : List (List Int)} (nod : tss.Nodup) (sks : ∀ t ∈ tss, SeatOk ns t) : tss.length ≤ 300 := by
  have h1 := allS_len ok.one
  have h2 := nod.length_le_of_subset (l₂ := allS ns) fun t ht => mem_allS.mpr (sks t ht)
  omega
/-- what the caller does on a seat -/
def ActV (H : Hp) (r : Addr) (ns : List Int) (op : List (List Int)) (p : List Int) : Prop :=
  if op = [] then H r = some (.tup [.str "complete"]) else
    match dep (countsL ns op) p with
    | some d => ∃ (c : List Int) (rc : Addr) (rest : List (List Int)), fromL ns (countsL ns op) p d = c :: rest ∧ H r = some (.tup [.str "call", .ref rc]) ∧ H rc = some (.tup (c.map V.int))
    | none => ∃ (i : Nat) (wt : Addr), sepI (shiftB ns op) ns.length (diffL p (op.headD [])) = some i ∧ H r = some (.tup [.str "end", .ref wt]) ∧ WitAt H wt (witM (shiftB ns op) ns.length i) (witW (shiftB ns op) ns.length i) (wsum (witW (shiftB ns op) ns.length i) (op.headD []) % witM (shiftB ns op) ns.length i)
def BoolAt (H : Hp) (D : Addr) (tss : List (List Int)) : Prop := H D = some (.dT (tss.map fun p => (entK p, V.bl true)))
theorem bool_val (p : List Int) : ∀ tss : List (List Int), valV (tss.map fun p => (entK p, V.bl true)) (entK p) = if p ∈ tss then some (V.bl true) else none
  | [] => rfl
  | t :: tss => by
    rw [List.map_cons]
    by_cases c : t = p
    · rw [valV_pos (show entK t = entK p by rw [c]), if_pos (by rw [c]; exact List.mem_cons_self)]
    · rw [valV_neg (fun z => c (entK_inj z)), bool_val p tss]
      by_cases c2 : p ∈ tss
      · rw [if_pos c2, if_pos (List.mem_cons_of_mem _ c2)]
      · rw [if_neg c2, if_neg (fun z => by rcases List.mem_cons.mp z with rfl | z; exact c rfl; exact c2 z)]
theorem bool_get {H : Hp} {d r : Addr} {tss : List (List Int)} {p : List Int} (h : BoolAt H d tss) (hr : H r = some (.tup (p.map V.int))) : DGet H d (.ref r) (if p ∈ tss then some (V.bl true) else none) := by
  rw [← bool_val]
  exact DGet.t h (by rw [entK_kV]; exact hr)
section
variable {P : Program} {w : World} {K : PySem.W.Frag} {mg : Str → Option Value} {base : Heap}
def sp_unvisited (C : Addr) : Sp := fun vs H Q _ => ∃ (a s : Addr) (q : Bool × Addr) (ns p : List Int) (tss : List (List Int)), vs = [.ref a, .ref q.2, .ref s] ∧ TabAt C H a ns ∧ SzOk ns ∧ prodL ns ≤ 300 ∧ RowsQ H q tss ∧ tss.length ≤ 1000 ∧ tss.Nodup ∧ H s = some (.tup (p.map V.int)) ∧
  ∀ D H2, Ex H H2 → H D = none → RowsAt H2 D (openL ns tss p) → Q (.ref D) H2
theorem ok_unvisited_seats (T : TX K mg) : FnOk P w K mg base CX0 3 T.f_unvisited_seats T.fd_unvisited_seats ["table", "visited", "seat"] (sp_unvisited T.C_Table) := by
  refine T.F_unvisited_seats.ok sc_unvisited_seats (fun vs H Q E h => ?_) (fun cdv A outer s H vs Q E hr h => ?_)
  · obtain ⟨a, s, q, ns, p, tss, rfl, _⟩ := h
    rfl
  · obtain ⟨a, s, q, ns, p, tss, rfl, tab, ok, pr, ⟨xs, hq, rr⟩, lt, nod, hs, k⟩ := h
    refine ⟨_, (pss_cons (ps_set (i := 3) sc_unvisited_seats.nd rfl (Or.inr rfl) (CD.pe_dcT (own := [("one", 4)]) (g := (gName 4)) (hu_of hr) rfl sc_unvisited_seats.nd (pi_seq (pv 1)) (blkOk_by (N := N_unvisited_seats) (sc := defScope s_unvisited_seats) (by decide +kernel)) (fun _ _ _ _ _ => (pg_name (i := 4) sc_unvisited_seats.nd rfl (Or.inl rfl))) (fun _ _ _ _ _ => pts_nil) (fun _ _ _ _ _ => (pv 4)) (fun _ _ _ _ _ => pe_bl))) (pss_one (ps_ret (pe_lc (own := [("one", 4)]) (g := (gName 4)) rfl sc_unvisited_seats.nd (pi_list (pe_call (ok_all_seats T) hr rfl T.m_all_seats T.F_all_seats.kp T.b_all_seats .nil pass0 (pa_cons (pv 0) pa_nil))) (blkOk_by (N := N_unvisited_seats) (sc := defScope s_unvisited_seats) (by decide +kernel)) (fun _ _ _ _ _ => (pg_name (i := 4) sc_unvisited_seats.nd rfl (Or.inl rfl))) (fun _ _ _ _ _ => (pts_one (PW.pt (pw_and (pt_cmp (pc_dnotin (hu_of hr) (pv 4) (pv 3))) (pw_and1 (pt_cmpR (r := rNeD K) (op_neD hr.units) (pv 4) (pv 2) (nomark _))))))) (fun _ _ _ _ _ => (pv 4)))))), ?_⟩
    have lx : xs.length = tss.length := Paired.length rr
    refine ⟨_, rfl, q, rfl, ⟨_, hq.sq⟩, fun D hD => ?_⟩
    refine CD.dcT_it (walk_seq (xs := xs)) (fun i Hx => Ex H Hx ∧ BoolAt Hx D (tss.take i)) ⟨exn hD, upd_same⟩ (fun i Hx _ p => (hq.mono p.1).sq) ?_ ?_
    · rintro i x _ Hx hi ⟨ex, hc⟩ ⟨rfl, hx⟩
      obtain ⟨ts, r, hts, rfl, hr2⟩ := rr.get hx
      have hn : ts ∉ tss.take i := nodup_take nod hts
      refine ⟨rfl, _, rfl, _, entK ts, r, rfl, by rw [entK_kV]; exact ex _ _ hr2, hc, ?_, ex_upd ex hD, ?_⟩
      · rw [List.length_map, List.length_take]
        exact Nat.lt_of_le_of_lt (show _ ≤ 1000 by omega) (by decide)
      · show upd _ _ _ _ = _
        rw [upd_same, putK_new _ (by rw [bool_val, if_neg hn]), take_more hts, List.map_append]
        rfl
    rintro H1 ⟨e1, hc1⟩
    rw [List.take_of_length_le (by omega)] at hc1
    dsimp only [gName]
    refine ⟨_, rfl, a, ns, rfl, tab.mono e1, ok, pr, fun sl H2 e2 nsl ⟨ys, hsl, rs⟩ => ⟨sl, rfl, ⟨_, SqL.of hsl⟩, fun D2 hD2 => ?_⟩⟩
    have ly : ys.length = (allS ns).length := Paired.length rs
    have lA : (allS ns).length ≤ 300 := by have := allS_len ok.one; omega
    have hc2 : BoolAt H2 D tss := e2 _ _ hc1
    have E2 := ext e1 e2
    refine lc_filt (walk_list (xs := ys)) (ys.zip (allS ns)) (fun z => decide (z.2 ∉ tss) && decide (z.2 ≠ p)) (fun z => z.1) (by rw [List.length_zip]; omega) (by omega) hD2 (fun Hx ex => SqL.of (ex _ _ hsl)) ?_ ?_
    · rintro i x ⟨z1, z2⟩ _ Hx R S hz ex ⟨rfl, hx⟩ kR kS
      obtain ⟨hz1, hz2⟩ := zip_at2 hz
      obtain ⟨o, r, hp, rfl, hr2⟩ := rs.get hx
      obtain rfl : o = z2 := Option.some.inj (hp.symm.trans hz2)
      obtain rfl : V.ref r = z1 := Option.some.inj (hx.symm.trans hz1)
      refine ⟨rfl, _, rfl, _, rfl, D, _, rfl, bool_get (show BoolAt Hx D tss from ex _ _ hc2) (ex _ _ hr2), _, rfl, ?_⟩
      by_cases c : o ∈ tss
      · rw [if_pos c]
        exact kS _ exr (by show (decide (o ∉ tss) && _) = false; rw [decide_eq_false (not_not_intro c)]; rfl)
      rw [if_neg c]
      refine ⟨_, rfl, _, rfl, iT o, iT p, dp_ints (ex _ _ hr2), dp_ints (ex _ _ (E2 _ _ hs)), (sh_ints (n := 59) _).ok, (sh_ints (n := 59) _).ok, _, rfl, ?_⟩
      rw [eqv_ints]
      by_cases c2 : o = p
      · exact itf (by rw [decide_eq_true c2]; rfl) (kS _ exr (by show (decide (o ∉ tss) && decide (o ≠ p)) = false; rw [decide_eq_false (not_not_intro c2), Bool.and_false]))
      · exact itt (by rw [decide_eq_false c2]; rfl) ⟨_, rfl, kR _ _ exr (by show (decide (o ∉ tss) && decide (o ≠ p)) = true; rw [decide_eq_true c, decide_eq_true c2]; rfl) rfl⟩
    intro H3 e3 hD3
    have rm : RowsR H3 (((ys.zip (allS ns)).filter fun z => decide (z.2 ∉ tss) && decide (z.2 ≠ p)).map fun z => z.1) (openL ns tss p) := RowsR.filt (fun o => decide (o ∉ tss) && decide (o ≠ p)) (rs.mono e3)
    exact k D2 H3 (ext E2 e3) (Evl.fresh_back E2 hD2) ⟨_, hD3, rm⟩
def sp_next_action (C : Addr) : Sp := fun vs H Q _ => ∃ (a s D : Addr) (ns p : List Int) (op : List (List Int)), vs = [.ref a, .ref D, .ref s] ∧ TabAt C H a ns ∧ SzOk ns ∧ prodL ns ≤ 300 ∧ RowsAt H D op ∧ op.length ≤ 300 ∧ op.Nodup ∧ (∀ o ∈ op, SeatOk ns o) ∧ H s = some (.tup (p.map V.int)) ∧ SeatOk ns p ∧ p ∉ op ∧
  ∀ r H2, Ex H H2 → H r = none → ActV H2 r ns op p → Q (.ref r) H2
theorem ok_next_action (T : TX K mg) : FnOk P w K mg base CX0 7 T.f_next_action T.fd_next_action ["table", "open_seats", "seat"] (sp_next_action T.C_Table) := by
  refine T.F_next_action.ok sc_next_action (fun vs H Q E h => ?_) (fun cdv A outer s H vs Q E hr h => ?_)
  · obtain ⟨a, s, D, ns, p, op, rfl, _⟩ := h
    rfl
  · obtain ⟨a, s, D, ns, p, op, rfl, tab, ok, pr, rD, lo, nod, sks, hs, sk, np, k⟩ := h
    refine ⟨_, (pss_cons (ps_if (pt_cmpR (r := rEqD K) (op_eqD hr.units) (pv 1) (pe_lst pa_nil) (nomark _)) (pss_one (ps_ret (pe_tup (pa_cons pe_str pa_nil)))) pss_nil) (pss_cons (ps_set (i := 3) sc_next_action.nd rfl (Or.inl rfl) (pe_call (ok_call_counts T) (hr.mono (by decide)) rfl T.m_call_counts T.F_call_counts.kp T.b_call_counts .nil pass0 (pa_cons (pv 0) (pa_cons (pv 1) pa_nil)))) (pss_cons (ps_if (pt_cmp (pc_din (hu_of hr) (pv 2) (pv 3))) (pss_one (ps_ret (pe_tup (pa_cons pe_str (pa_cons (pe_call (ok_call_from T) (hr.mono (by decide)) rfl T.m_call_from T.F_call_from.kp T.b_call_from .nil pass0 (pa_cons (pv 0) (pa_cons (pv 3) (pa_cons (pv 2) pa_nil)))) pa_nil))))) pss_nil) (pss_one (ps_ret (pe_tup (pa_cons pe_str (pa_cons (pe_ix ix_tup (pe_call (ok_reach T) hr rfl T.m_reach T.F_reach.kp T.b_reach .nil pass0 (pa_cons (pv 0) (pa_cons (pv 1) (pa_cons (pv 2) pa_nil)))) pe_int (fun _ _ => rfl)) pa_nil)))))))), ?_⟩
    have ra := rD
    obtain ⟨xs, hD, rr⟩ := rD
    refine ⟨_, rfl, slen rfl, ?_⟩
    (intro el nel; generalize hGel : upd _ el _ = H1; have eH1 := exG hGel nel; have hel := atG hGel; clear hGel)
    have shR : ∀ rows : List (List Int), Sh 60 (.list (rows.map iT)) := fun rows => sh_rows (n := 58) rows
    refine ⟨_, _, .lst (SqL.of (eH1 _ _ hD)) (rr.mono eH1).dp, .lst (SqL.of hel) (RowsR.dp (hss := []) .nil), (shR op).ok, (shR []).ok, _, rfl, ?_⟩
    by_cases c : op = []
    · subst c
      refine itt (by rw [eqv_refl _ (shR []).1]) ⟨slen rfl, ?_⟩
      (intro r nr; generalize hGr : upd _ r _ = H2; have eH2 := exG hGr nr; have hr := atG hGr; clear hGr)
      exact k r H2 (ext eH1 eH2) (Evl.fresh_back eH1 nr) (by unfold ActV; rw [if_pos rfl]; exact hr)
    refine itf (by have := eqv_ne' c; simpa using this) ?_
    have hD1 := eH1 _ _ hD
    refine ⟨_, rfl, _, rfl, a, (false, D), ns, op, rfl, tab.mono eH1, ok, pr, ⟨xs, hD1, rr.mono eH1⟩, c, by omega, sks, nod, fun F H2 e2 nF hF => ?_⟩
    have E2 := ext eH1 e2
    dsimp only [gName]
    refine ⟨_, rfl, _, rfl, F, _, rfl, cnt_get hF (E2 _ _ hs), _, rfl, ?_⟩
    rw [Option.isSome_map]
    obtain ⟨dg, good⟩ := counts_good sks nod
    have tg : TgOk ns op := ⟨ok, szc_of ok pr, c, sks⟩
    cases hd : dep (countsL ns op) p with
    | some d =>
      have e0 : 0 < d := Nat.pos_of_ne_zero fun z => np (((counts_least sks nod c).zero p).mp (by rw [hd, z]))
      obtain ⟨c1, rest, hfr⟩ := good.from hd e0
      have lA : (countsL ns op).length ≤ 1000 := by
        have := good.len
        have := allS_len ok.one
        omega
      refine itt rfl ⟨_, rfl, _, rfl, _, rfl, a, F, s, ns, p, c1, countsL ns op, d, rest, rfl, tab.mono E2, ok, hF, lA, good.nod, fun q hq => (by obtain ⟨e, he⟩ := mem_keys hq; exact good.seat _ he), E2 _ _ hs, sk, hd, hfr, fun rc H3 e3 hrc => ⟨slen rfl, ?_⟩⟩
      (intro r nr; generalize hGr : upd _ r _ = H4; have eH4 := exG hGr nr; have hr := atG hGr; clear hGr)
      refine k r H4 (ext E2 (ext e3 eH4)) (Evl.fresh_back (ext E2 e3) nr) ?_
      unfold ActV
      rw [if_neg c, hd]
      exact ⟨c1, rc, rest, hfr, hr, eH4 _ _ hrc⟩
    | none =>
      refine itf rfl ?_
      refine ⟨_, rfl, _, rfl, _, rfl, ?_⟩
      dsimp only [tNil, List.append_nil]
      refine use_reach tg (tab.mono E2) (RowsAt.q (ra.mono E2)) (by omega) nod (E2 _ _ hs) sk fun rr H3 e3 rv => ?_
      have hf : freeF 0 (shiftB ns op) (diffL p (op.headD [])) = false := by
        rw [← dep_free tg nod sk, hd]
        rfl
      unfold ReachV at rv
      rw [if_neg (by rw [hf]; simp)] at rv
      obtain ⟨i, wt, wa, hi, g1, g2, g3⟩ := rv
      refine ⟨rr, _, _, _, rfl, rfl, SqT.of g1, L2.atI_nat (j := 1) rfl, slen rfl, ?_⟩
      (intro r nr; generalize hGr : upd _ r _ = H4; have eH4 := exG hGr nr; have hr := atG hGr; clear hGr)
      refine k r H4 (ext E2 (ext e3 eH4)) (Evl.fresh_back (ext E2 e3) nr) ?_
      unfold ActV
      rw [if_neg c, hd]
      exact ⟨i, wt, hi, hr, wa, eH4 _ _ g2, eH4 _ _ g3⟩
end

/-- the word of an answer -/
def awayW (b : Bool) : Str := if b = true then "backward" else "forward"
/-- the list of words -/
abbrev wordsV (ws : List Bool) : List V := ws.map fun b => V.str (awayW b)
theorem notStr_lst {K : PySem.W.Frag} {H : Hp} {a : Addr} {xs : List V} (h : H a = some (.lst xs)) : StrA K H (.ref a) none := ⟨_, .base (.lst h), kit_ty (by decide +kernel)⟩
theorem notStr_tup {K : PySem.W.Frag} {H : Hp} {a : Addr} {xs : List V} (h : H a = some (.tup xs)) : StrA K H (.ref a) none := ⟨_, .base (.tup h), kit_ty (by decide +kernel)⟩
theorem iteT' {c : Bool} {A B : Prop} (hc : c = true) (h : A) : if c = true then A else B := by
  rw [if_pos hc]
  exact h
abbrev wordsD (ws : List Bool) : List PyData := ws.map fun b => PyData.str (awayW b)
theorem dp_words {K : PySem.W.Frag} {H : Hp} : ∀ ws : List Bool, DpAll K H (wordsV ws) (wordsD ws)
  | [] => .nil
  | b :: ws => .cons (.str _) (dp_words ws)
theorem sh_words (ws : List Bool) : Sh 60 (.list (wordsD ws)) := sh_list (n := 59) fun d hd => by
  obtain ⟨b, _, rfl⟩ := List.mem_map.mp hd
  cases b <;> exact ⟨by simp only [PyData.canLay0]; decide +kernel, by simp only [PyData.depth]; omega⟩
theorem eqv_neW {ws : List Bool} (ne : ws ≠ []) : (!PyData.eqv (.list (wordsD ws)) (.list (wordsD []))) = true := by
  cases ws with
  | nil => exact absurd rfl ne
  | cons c r => simp [PyData.eqv, PyData.eqvAll]

theorem call_good {ns p c : List Int} {fs : List (List Int × Nat)} {rest : List (List Int)} {d dg : Nat} (g : GoodL ns fs dg) (sk : SeatOk ns p) (h : fromL ns fs p d = c :: rest) : SeatOk ns c ∧ (∃ d1, dep fs (shiftL ns p c 1) = some d1 ∧ d1 < d) ∧ ∃ d2, dep fs (shiftL ns p c (-1)) = some d2 ∧ d2 < d := by
  have hc : c ∈ fromL ns fs p d := by rw [h]; exact List.mem_cons_self
  unfold fromL at hc
  obtain ⟨o, ho, rfl⟩ := List.mem_map.mp hc
  obtain ⟨h1, h2⟩ := List.mem_filter.mp ho
  obtain ⟨q, hq, rfl⟩ := List.mem_map.mp h1
  obtain ⟨hq1, hq2⟩ := List.mem_filter.mp hq
  have so := g.seat _ hq1
  have lt := toL_len (ns := ns) sk.len so.len
  have e1 := shift_to so sk.len
  refine ⟨toL_seat sk so.len, ⟨q.2, by rw [e1]; exact dep_mem g.nod hq1, of_decide_eq_true hq2⟩, ?_⟩
  have e2 : shiftL ns p (toL ns p q.1) (-1) = mirL ns p q.1 := by rw [← mir_shift sk.len lt, e1]
  rw [e2]
  have h3 := of_decide_eq_true h2
  cases hd : dep fs (mirL ns p q.1) with
  | none => rw [hd] at h3; exact absurd h3 (Nat.lt_irrefl d)
  | some e => rw [hd] at h3; exact ⟨e, rfl, h3⟩

/-! ### a tour, plain -/
/-- a responder: a list of words, or a witness -/
inductive Rp where
  | words (bs : List Bool)
  | wit (m : Int) (ws : List Int) (r : Int)
def ansB (ns : List Int) : Rp → List Int → List Int → Nat → Bool
  | .words bs, _, _, n => (bs[n % bs.length]?).getD false
  | .wit m ws r, p, c, _ => decide (wsum ws (shiftL ns p c 1) % m = r)
/-- how it ended: 0 complete, 1 end, 2 open -/
def ocS (o : Nat) : Str := if o = 0 then "complete" else if o = 1 then "end" else "open"
abbrev Hop := List Int × Bool
structure TrR where
  hops : List Hop
  been : List (List Int)
  last : List Int
  oc : Nat
def nxtP (ns : List Int) (p c : List Int) (b : Bool) : List Int := shiftL ns p c (if b = true then -1 else 1)
def tourF (ns : List Int) (rp : Rp) (lim : Int) : Nat → List Hop → List (List Int) → List Int → Option TrR
  | 0, _, _, _ => none
  | f + 1, hops, been, p =>
    if openL ns been p = [] then some ⟨hops, been, p, 0⟩ else
    match dep (countsL ns (openL ns been p)) p with
    | none => some ⟨hops, been, p, 1⟩
    | some d => if (hops.length : Int) = lim then some ⟨hops, been, p, 2⟩ else
      let c := (fromL ns (countsL ns (openL ns been p)) p d).headD []
      let b := ansB ns rp p c hops.length
      tourF ns rp lim f (hops ++ [(c, b)]) (if nxtP ns p c b ∈ openL ns been p then been ++ [nxtP ns p c b] else been) (nxtP ns p c b)
/-- the responder is one for a tour from p -/
def RpOk (ns p : List Int) : Rp → Prop
  | .words bs => bs ≠ [] ∧ bs.length ≤ 100000
  | .wit m ws r => WitOk ns m ws r ∧ m.natAbs < 2 ^ 5000 ∧ wsum ws p % m ≠ r
theorem rounds_le {ns : List Int} : ∀ (f : Nat) (fs : List (List Int × Nat)) (miss newest : List (List Int)) (d : Nat), (∀ q ∈ fs, q.2 ≤ d) → ∀ q ∈ roundsL ns f fs miss newest d, q.2 ≤ d + f
  | 0, fs, _, _, d, h, q, hq => h q hq
  | f + 1, fs, miss, newest, d, h, q, hq => by
    unfold roundsL at hq
    by_cases c : newest = []
    · rw [if_pos c] at hq
      have := h q hq
      omega
    · rw [if_neg c] at hq
      have := rounds_le f _ _ _ (d + 1) (fun q hq => by
        rcases List.mem_append.mp hq with z | z
        · have := h q z
          omega
        · have := (mem_atD z).2
          omega) q hq
      omega
theorem dep_le {ns : List Int} {op : List (List Int)} {p : List Int} {d : Nat} (h : dep (countsL ns op) p = some d) : d ≤ (allS ns).length + 2 := by
  have h1 := rounds_le ((allS ns).length + 2) (atD 0 op) (missL (atD 0 op) (allS ns)) op 0 (fun q hq => by have := (mem_atD hq).2; omega) _ (mem_dep h)
  simpa using h1
/-- how far a tour is from its end -/
def tourM (ns : List Int) (been : List (List Int)) (p : List Int) : Nat := (openL ns been p).length * ((allS ns).length + 3) + (dep (countsL ns (openL ns been p)) p).getD 0
theorem open_same {ns : List Int} {been : List (List Int)} {p q : List Int} (hp : p ∈ been) (hq : q ∈ been) : openL ns been p = openL ns been q := by
  unfold openL
  refine List.filter_congr fun o _ => ?_
  by_cases c : o ∈ been
  · simp [c]
  · have h1 : o ≠ p := fun z => c (z ▸ hp)
    have h2 : o ≠ q := fun z => c (z ▸ hq)
    simp [c, h1, h2]
theorem open_push {ns : List Int} {been : List (List Int)} {p q : List Int} (hp : p ∈ been) (hq : q ∈ openL ns been p) : (openL ns (been ++ [q]) q).length < (openL ns been p).length := by
  have h1 : (openL ns (been ++ [q]) q) ⊆ (openL ns been p).erase q := fun o ho => by
    obtain ⟨a, b, c⟩ := mem_open.mp ho
    refine (List.mem_erase_of_ne c).mpr (mem_open.mpr ⟨a, fun z => b (List.mem_append_left _ z), fun z => b (List.mem_append_left _ (z ▸ hp))⟩)
  have h2 := (openL_nodup ns (been ++ [q]) q).length_le_of_subset h1
  rw [List.length_erase_of_mem hq] at h2
  have h3 := List.length_pos_of_mem hq
  omega
/-- a step of a tour -/
theorem tour_step {ns : List Int} {been : List (List Int)} {p : List Int} {d : Nat} (sk : SeatOk ns p) (hp : p ∈ been) (hd : dep (countsL ns (openL ns been p)) p = some d) (b : Bool) :
    ∃ c rest, fromL ns (countsL ns (openL ns been p)) p d = c :: rest ∧ SeatOk ns c ∧ SeatOk ns (nxtP ns p c b) ∧ nxtP ns p c b ∈ (if nxtP ns p c b ∈ openL ns been p then been ++ [nxtP ns p c b] else been) ∧
      tourM ns (if nxtP ns p c b ∈ openL ns been p then been ++ [nxtP ns p c b] else been) (nxtP ns p c b) < tourM ns been p ∧ (∃ d2, dep (countsL ns (openL ns been p)) (nxtP ns p c b) = some d2 ∧ d2 < d) := by
  have sks : ∀ t ∈ openL ns been p, SeatOk ns t := fun t ht => (mem_open.mp ht).1
  obtain ⟨dg, g⟩ := counts_good sks (openL_nodup ns been p)
  have ne : openL ns been p ≠ [] := fun z => by
    rw [z] at hd
    have h1 : countsL ns [] = [] := by
      unfold countsL
      rw [show (allS ns).length + 2 = (allS ns).length + 1 + 1 from rfl]
      unfold roundsL
      rw [if_pos rfl]
      rfl
    rw [h1] at hd
    cases hd
  have lst := counts_least sks (openL_nodup ns been p) ne
  have d0 : 0 < d := by
    refine Nat.pos_of_ne_zero fun z => ?_
    rw [z] at hd
    exact (mem_open.mp ((lst.zero p).mp hd)).2.1 hp
  obtain ⟨c, rest, hfr⟩ := g.from hd d0
  obtain ⟨sc, ⟨d1, hd1, lt1⟩, ⟨d2, hd2, lt2⟩⟩ := call_good g sk hfr
  have hn : ∃ d2, dep (countsL ns (openL ns been p)) (nxtP ns p c b) = some d2 ∧ d2 < d := by
    unfold nxtP
    cases b
    · exact ⟨d1, hd1, lt1⟩
    · exact ⟨d2, hd2, lt2⟩
  obtain ⟨e, he, elt⟩ := hn
  have sn : SeatOk ns (nxtP ns p c b) := g.seat _ (mem_dep he)
  refine ⟨c, rest, hfr, sc, sn, ?_, ?_, e, he, elt⟩
  · by_cases z : nxtP ns p c b ∈ openL ns been p
    · rw [if_pos z]
      exact List.mem_append_right _ List.mem_cons_self
    · rw [if_neg z]
      refine Classical.byContradiction fun z2 => z (mem_open.mpr ⟨sn, z2, fun z3 => z2 (by rw [z3]; exact hp)⟩)
  · by_cases z : nxtP ns p c b ∈ openL ns been p
    · rw [if_pos z]
      have h1 := open_push hp z
      unfold tourM
      generalize nxtP ns p c b = q at *
      generalize hA : (openL ns (been ++ [q]) q).length = A at *
      generalize (openL ns been p).length = B at *
      have h2 : (dep (countsL ns (openL ns (been ++ [q]) q)) q).getD 0 ≤ (allS ns).length + 2 := by
        cases h3 : dep (countsL ns (openL ns (been ++ [q]) q)) q with
        | none => exact Nat.zero_le _
        | some x => exact dep_le h3
      have h4 : (A + 1) * ((allS ns).length + 3) ≤ B * ((allS ns).length + 3) := Nat.mul_le_mul_right _ h1
      rw [Nat.add_mul] at h4
      omega
    · rw [if_neg z]
      have hq : nxtP ns p c b ∈ been := Classical.byContradiction fun z2 => z (mem_open.mpr ⟨sn, z2, fun z3 => z2 (by rw [z3]; exact hp)⟩)
      unfold tourM
      rw [open_same hq hp, he, hd]
      show _ + e < _ + d
      omega
theorem tour_ends (ns : List Int) (rp : Rp) (lim : Int) : ∀ (f : Nat) (hops : List Hop) {been : List (List Int)} {p : List Int}, SeatOk ns p → p ∈ been → tourM ns been p < f → ∃ R, tourF ns rp lim f hops been p = some R
  | 0, _, _, _, _, _, h => by omega
  | f + 1, hops, been, p, sk, hp, h => by
    unfold tourF
    by_cases c1 : openL ns been p = []
    · rw [if_pos c1]
      exact ⟨_, rfl⟩
    rw [if_neg c1]
    cases hd : dep (countsL ns (openL ns been p)) p with
    | none => exact ⟨_, rfl⟩
    | some d =>
      dsimp only
      by_cases c2 : (hops.length : Int) = lim
      · rw [if_pos c2]
        exact ⟨_, rfl⟩
      rw [if_neg c2]
      obtain ⟨c, rest, hfr, _, sn, hn, hm, _⟩ := tour_step sk hp hd (ansB ns rp p ((fromL ns (countsL ns (openL ns been p)) p d).headD []) hops.length)
      rw [hfr] at sn hn hm ⊢
      exact tour_ends ns rp lim f _ sn hn (Nat.lt_of_lt_of_le hm (Nat.le_of_lt_succ h))

section
variable {P : Program} {w : World} {K : PySem.W.Frag} {mg : Str → Option Value} {base : Heap}
def sp_require_at_least : Sp := fun vs H Q _ => ∃ (i low : Int) (nm : V), vs = [.int i, .int low, nm] ∧ low ≤ i ∧ Q .non H
theorem ok_require_at_least (T : TX K mg) : FnOk P w K mg base CX0 3 T.f_require_at_least T.fd_require_at_least ["value", "low", "name"] sp_require_at_least := by
  refine T.F_require_at_least.ok sc_require_at_least (fun vs H Q E h => ?_) (fun cdv A outer s H vs Q E hr h => ?_)
  · obtain ⟨i, low, nm, rfl, _⟩ := h
    rfl
  · obtain ⟨i, low, nm, rfl, h, k⟩ := h
    refine ⟨_, (pss_one (ps_if (pt_not (pt_val (pe_call (ok_is_at_least T) hr rfl T.m_is_at_least T.F_is_at_least.kp T.b_is_at_least .nil pass0 (pa_cons (pv 0) (pa_cons (pv 1) pa_nil))))) pss_never pss_nil)), ?_⟩
    refine ⟨_, rfl, _, rfl, _, some i, low, rfl, rfl, _, rfl, itf ?_ k⟩
    show (!decide (low ≤ i)) = false
    rw [decide_eq_true h]
    rfl
end

/-- a responder stands there -/
def RespT (H : Hp) (x : V) : Rp → Prop
  | .words bs => ∃ l, x = .ref l ∧ H l = some (.lst (wordsV bs))
  | .wit m ws r => ∃ wt, x = .ref wt ∧ WitAt H wt m ws r
theorem RespT.mono {H H2 : Hp} {x : V} {rp : Rp} (e : Ex H H2) (h : RespT H x rp) : RespT H2 x rp := by
  cases rp with
  | words bs => obtain ⟨l, h1, h2⟩ := h; exact ⟨l, h1, e _ _ h2⟩
  | wit m ws r => obtain ⟨l, h1, h2⟩ := h; exact ⟨l, h1, h2.mono e⟩
/-- a list of moves -/
def HopAt (H : Hp) (v : V) (h : Hop) : Prop := ∃ r c, v = .ref r ∧ H r = some (.tup [.ref c, .str (awayW h.2)]) ∧ H c = some (.tup (h.1.map V.int))
def HopsR (H : Hp) : List V → List Hop → Prop := Paired (HopAt H)
theorem HopAt.monoT {H H2 : Hp} {v : V} {h : Hop} (e : ∀ c xs, H c = some (.tup xs) → H2 c = some (.tup xs)) (g : HopAt H v h) : HopAt H2 v h := by
  obtain ⟨r, c, h1, h2, h3⟩ := g
  exact ⟨r, c, h1, e _ _ h2, e _ _ h3⟩
theorem HopsR.monoT {H H2 : Hp} {xs : List V} {hs : List Hop} (e : ∀ c xs, H c = some (.tup xs) → H2 c = some (.tup xs)) (g : HopsR H xs hs) : HopsR H2 xs hs := paired_mono (fun _ _ h => h.monoT e) g
/-- what a tour gives -/
def TourV (H : Hp) (r ml sl : Addr) (R : TrR) : Prop := ∃ xs ys, H r = some (.tup [.ref ml, .ref sl, .str (ocS R.oc)]) ∧ H ml = some (.lst xs) ∧ HopsR H xs R.hops ∧ H sl = some (.lst ys) ∧ RowsR H ys R.been
section
variable {P : Program} {w : World} {K : PySem.W.Frag} {mg : Str → Option Value} {base : Heap}
def sp_is_responder (C : Addr) : Sp := fun vs H Q _ => ∃ (a s : Addr) (x : V) (ns p : List Int) (rp : Rp), vs = [.ref a, x, .ref s] ∧ TabAt C H a ns ∧ SzOk ns ∧ prodL ns ≤ 300 ∧ RespT H x rp ∧ RpOk ns p rp ∧ H s = some (.tup (p.map V.int)) ∧ SeatOk ns p ∧ ∀ H2, Ex H H2 → Q (.bl true) H2
theorem ok_is_responder (T : TX K mg) : FnOk P w K mg base CX0 4 T.f_is_responder T.fd_is_responder ["table", "responder", "seat"] (sp_is_responder T.C_Table) := by
  refine T.F_is_responder.ok sc_is_responder (fun vs H Q E h => ?_) (fun cdv A outer s H vs Q E hr h => ?_)
  · obtain ⟨a, s, x, ns, p, rp, rfl, _⟩ := h
    rfl
  · obtain ⟨a, s, x, ns, p, rp, rfl, tab, ok, pr, hx, rok, hs, sk, k⟩ := h
    refine ⟨_, (pss_cons (ps_if (pt_val (pe_call (ok_is_witness T) hr rfl T.m_is_witness T.F_is_witness.kp T.b_is_witness .nil pass0 (pa_cons (pv 0) (pa_cons (pv 1) pa_nil)))) (pss_one (ps_ret (pe_cmpR op_ne (pe_call (ok_weighted T) (hr.mono (by decide)) rfl T.m_weighted T.F_weighted.kp T.b_weighted .nil pass0 (pa_cons (pe_ix ix_tup (pv 1) pe_int (fun _ _ => rfl)) (pa_cons (pe_ix ix_tup (pv 1) pe_int (fun _ _ => rfl)) (pa_cons (pv 2) pa_nil)))) (pe_ix ix_tup (pv 1) pe_int (fun _ _ => rfl)) (nomark _)))) pss_nil) (pss_one (ps_ret (pe_and (pe_callB call_isi (by rfl) T.z_isinstance (by decide +kernel) (pa_cons (pv 1) (pa_cons (pe_bltn (v := .ty "list") rfl T.z_list (by decide +kernel) rfl) pa_nil))) (pe_and (pe_cmpR (r := rNeD K) (op_neD hr.units) (pv 1) (pe_lst pa_nil) (nomark _)) (pe_one (pe_callB (cr_all rfl) (by rfl) T.z_all (by decide +kernel) (pa_cons (pe_lc (own := [("one", 3)]) (g := (gName 3)) rfl sc_is_responder.nd (pi_list (pv 1)) (blkOk_by (N := N_is_responder) (sc := defScope s_is_responder) (by decide +kernel)) (fun _ _ _ _ _ => (pg_name (i := 3) sc_is_responder.nd rfl (Or.inl rfl))) (fun _ _ _ _ _ => pts_nil) (fun _ _ _ _ _ => (pe_call (ok_is_direction T) (hr.mono (by decide)) rfl T.m_is_direction T.F_is_direction.kp T.b_is_direction .nil pass0 (pa_cons (pv 3) pa_nil)))) pa_nil)))))))), ?_⟩
    cases rp with
    | words bs =>
      obtain ⟨l, rfl, hl⟩ := hx
      obtain ⟨ne, lw⟩ := rok
      refine ⟨_, rfl, _, rfl, a, .ref l, rfl, .inl ⟨l, _, rfl, hl, ?_⟩⟩
      refine ⟨_, rfl, itf rfl ?_⟩
      refine ⟨_, rfl, _, _, _, _, true, rfl, .ty _, .base (.lst hl), kit_ty (by decide +kernel), _, rfl, iteT ?_⟩
      refine ⟨_, rfl, slen rfl, ?_⟩
      (intro el nel; generalize hGel : upd _ el _ = H1; have eH1 := exG hGel nel; have hel := atG hGel; clear hGel)
      refine ⟨_, _, .lst (SqL.of (eH1 _ _ hl)) (dp_words bs), .lst (SqL.of hel) .nil, (sh_words bs).ok, (sh_words []).ok, _, rfl, ?_⟩
      refine iteT' (eqv_neW ne) ?_
      refine ⟨_, rfl, l, rfl, ⟨_, SqL.of (eH1 _ _ hl)⟩, fun D hD => ?_⟩
      refine lc_vals (walk_list (xs := wordsV bs)) ((List.replicate bs.length true).map V.bl) (by simp) (by simp; omega) hD (fun H3 e => SqL.of (e _ _ (eH1 _ _ hl))) ?_ gmono_name ?_
      · rintro j x _ H2 R hj e2 ⟨rfl, hx⟩ kk
        obtain ⟨b, hb, rfl⟩ : ∃ b, bs[j]? = some b ∧ V.str (awayW b) = x := by
          rw [List.getElem?_map] at hx
          cases hb : bs[j]? with
          | none => rw [hb] at hx; cases hx
          | some b => rw [hb] at hx; exact ⟨b, rfl, Option.some.inj hx⟩
        have jl : j < bs.length := (List.getElem?_eq_some_iff.mp hb).1
        refine ⟨rfl, _, rfl, _, some (awayW b), rfl, rfl, fun H3 e3 => kk _ _ e3 ?_⟩
        rw [List.getElem?_map, List.getElem?_replicate, if_pos jl]
        cases b <;> rfl
      · intro H2 e2 hD2
        refine ⟨D, _, rfl, SqL.of hD2, ?_⟩
        have : (List.replicate bs.length true).all id = true := by simp
        rw [this]
        exact k _ (ext eH1 e2)
    | wit m ws r =>
      obtain ⟨wt, rfl, hw⟩ := hx
      obtain ⟨wok, bm, hp⟩ := rok
      have hB := szc_of ok pr
      have m3 := wok.m3
      have bn : ∀ n ∈ ns, n.natAbs < 2 ^ 5000 := fun n hn => lt_pow (mb80 (by have := ok.one n hn; omega) (hB n hn)) (by decide)
      refine ⟨_, rfl, _, rfl, a, .ref wt, rfl, .inr ⟨wt, ns, ws, m, r, rfl, tab, ok.le, bn, hw, wok, bm, fun H1 e1 => ?_⟩⟩
      refine ⟨_, rfl, itt rfl ?_⟩
      obtain ⟨wa, hwt, hwa⟩ := hw.mono e1
      obtain ⟨b1, b2, b3⟩ := wit_bounds hB wok bm sk
      refine ⟨_, rfl, wt, _, _, _, rfl, rfl, SqT.of hwt, rfl, _, rfl, wt, _, _, _, rfl, rfl, SqT.of hwt, rfl, _, rfl, m, wa, s, ws, p, rfl, by omega, hwa, e1 _ _ hs, b1, by rw [sk.len]; exact ok.le, b2, b3, fun H2 e2 => ?_⟩
      refine ⟨_, rfl, wt, _, _, _, rfl, rfl, SqT.of (e2 _ _ hwt), rfl, rfl, ?_⟩
      have : (!decide (V.int (wsum ws p % m) = V.int r)) = true := by
        rw [dec_int]
        simpa using hp
      rw [this]
      exact k _ (ext e1 e2)
def sp_answer_of (C : Addr) : Sp := fun vs H Q _ => ∃ (a s c : Addr) (x : V) (ns p p0 cs : List Int) (rp : Rp) (n : Nat), vs = [.ref a, x, .ref s, .ref c, .int (n : Int)] ∧ TabAt C H a ns ∧ SzOk ns ∧ prodL ns ≤ 300 ∧ RespT H x rp ∧ RpOk ns p0 rp ∧ H s = some (.tup (p.map V.int)) ∧ SeatOk ns p ∧ H c = some (.tup (cs.map V.int)) ∧ cs.length = ns.length ∧ ∀ H2, Ex H H2 → Q (.str (awayW (ansB ns rp p cs n))) H2
theorem ok_answer_of (T : TX K mg) : FnOk P w K mg base CX0 6 T.f_answer_of T.fd_answer_of ["table", "responder", "seat", "call", "done"] (sp_answer_of T.C_Table) := by
  refine T.F_answer_of.ok sc_answer_of (fun vs H Q E h => ?_) (fun cdv A outer s H vs Q E hr h => ?_)
  · obtain ⟨a, s, c, x, ns, p, p0, cs, rp, n, rfl, _⟩ := h
    rfl
  · obtain ⟨a, s, c, x, ns, p, p0, cs, rp, n, rfl, tab, ok, pr, hx, rok, hs, sk, hc, lc, k⟩ := h
    refine ⟨_, (pss_cons (ps_if (pt_val (pe_callB call_isi (by rfl) T.z_isinstance (by decide +kernel) (pa_cons (pv 1) (pa_cons (pe_bltn (v := .ty "list") rfl T.z_list (by decide +kernel) rfl) pa_nil)))) (pss_one (ps_ret (pe_ix ix_list (pv 1) (pe_op op_mod (pv 4) (pe_callB call_len_seq (by rfl) T.z_len (by decide +kernel) (pa_cons (pv 1) pa_nil))) (fun _ _ => rfl)))) pss_nil) (pss_cons (ps_asg (pv 1) (pg_tup rfl (pgs_cons (pg_name (i := 5) sc_answer_of.nd rfl (Or.inl rfl)) (pgs_cons (pg_name (i := 6) sc_answer_of.nd rfl (Or.inl rfl)) (pgs_cons (pg_name (i := 7) sc_answer_of.nd rfl (Or.inl rfl)) pgs_nil))))) (pss_cons (ps_set (i := 8) sc_answer_of.nd rfl (Or.inl rfl) (pe_call (ok_weighted T) (hr.mono (by decide)) rfl T.m_weighted T.F_weighted.kp T.b_weighted .nil pass0 (pa_cons (pv 5) (pa_cons (pv 6) (pa_cons (pe_ix ix_tup (pe_meth (pv 0) T.cl_Table T.me_Table_moves (ok_Table_moves T) hr T.b_Table_moves .nil pass0 (pa_cons (pv 2) (pa_cons (pv 3) pa_nil))) pe_int (fun _ _ => rfl)) pa_nil))))) (pss_one (ps_ret (pe_ifExp (pt_cmpR op_eq (pv 8) (pv 7) (nomark _)) pe_str pe_str)))))), ?_⟩
    cases rp with
    | words bs =>
      obtain ⟨l, rfl, hl⟩ := hx
      obtain ⟨ne, lw⟩ := rok
      have l0 : 0 < bs.length := List.length_pos_iff.mpr ne
      refine ⟨_, rfl, _, _, _, _, true, rfl, .ty _, .base (.lst hl), kit_ty (by decide +kernel), _, rfl, itt rfl ?_⟩
      obtain ⟨b, hb⟩ : ∃ b, bs[n % bs.length]? = some b := ⟨_, List.getElem?_eq_getElem (Nat.mod_lt _ l0)⟩
      have eb : ansB ns (.words bs) p cs n = b := by
        show (bs[n % bs.length]?).getD false = b
        rw [hb]
        rfl
      rw [eb] at k
      have at1 : atI (wordsV bs) ((n : Int) % ((wordsV bs).length : Int)) = some (.str (awayW b)) := by
        rw [List.length_map, show (n : Int) % (bs.length : Int) = ((n % bs.length : Nat) : Int) from rfl]
        exact L2.atI_nat (by rw [List.getElem?_map, hb]; rfl)
      refine ⟨_, rfl, _, rfl, _, rfl, l, _, rfl, .inl (SqL.of hl), _, _, rfl, rfl, (by rw [List.length_map]; show (0 : Int) < _; omega), l, _, _, _, rfl, rfl, SqL.of hl, at1, ?_⟩
      exact k _ exr
    | wit m ws r =>
      obtain ⟨wt, rfl, hw⟩ := hx
      obtain ⟨wok, bm, hp⟩ := rok
      obtain ⟨wa, hwt, hwa⟩ := hw
      have m3 := wok.m3
      have hB := szc_of ok pr
      refine ⟨_, rfl, _, _, _, _, false, rfl, .ty _, .base (.tup hwt), kit_ty (by decide +kernel), _, rfl, itf rfl ?_⟩
      refine ⟨_, rfl, wt, _, rfl, SqT.of hwt, rfl, _, _, rfl, _, _, rfl, _, _, rfl, rfl, ?_⟩
      obtain ⟨dx, tt, h1, h2⟩ := id tab
      have sk2 : SeatOk ns (shiftL ns p cs 1) := shift_seat ok.one sk.len lc
      obtain ⟨b1, b2, b3⟩ := wit_bounds hB wok bm sk2
      refine ⟨_, rfl, _, rfl, _, rfl, a, dx, _, rfl, h1, rfl, _, rfl, _, rfl, a, s, c, ns, p, cs, rfl, tab, ok, hs, hc, sk, lc, fun H1 q f b e1 nq nf nb hq hf hb => ?_⟩
      refine ⟨q, _, _, _, rfl, rfl, SqT.of hq, rfl, m, wa, f, ws, shiftL ns p cs 1, rfl, by omega, e1 _ _ hwa, hf, b1, by rw [sk2.len]; exact ok.le, b2, b3, fun H2 e2 => ?_⟩
      dsimp only [gName]
      refine ⟨_, rfl, _, rfl, rfl, _, rfl, ?_⟩
      have k2 := k _ (ext e1 e2)
      by_cases z : wsum ws (shiftL ns p cs 1) % m = r
      · refine itt (by show decide (V.int (wsum ws (shiftL ns p cs 1) % m) = V.int r) = true; rw [z]; simp) ?_
        rw [show ansB ns (.wit m ws r) p cs n = true from decide_eq_true z] at k2
        exact k2
      · refine itf (by show decide (V.int (wsum ws (shiftL ns p cs 1) % m) = V.int r) = false; rw [dec_int]; simpa using z) ?_
        rw [show ansB ns (.wit m ws r) p cs n = false from decide_eq_false z] at k2
        exact k2
def sp_run_tour (C : Addr) : Sp := fun vs H Q _ => ∃ (a s : Addr) (x : V) (ns p : List Int) (rp : Rp) (lim : Int) (f : Nat) (R : TrR), vs = [.ref a, .ref s, x, .int lim] ∧ TabAt C H a ns ∧ SzOk ns ∧ prodL ns ≤ 300 ∧ H s = some (.tup (p.map V.int)) ∧ SeatOk ns p ∧ RespT H x rp ∧ RpOk ns p rp ∧ 0 ≤ lim ∧ f ≤ 100000 ∧ tourF ns rp lim f [] [p] p = some R ∧
  ∀ r ml sl H2, Ex H H2 → H r = none → H ml = none → H sl = none → ml ≠ sl → TourV H2 r ml sl R → Q (.ref r) H2
theorem ok_run_tour (T : TX K mg) : FnOk P w K mg base CX0 8 T.f_run_tour T.fd_run_tour ["table", "seat", "responder", "limit"] (sp_run_tour T.C_Table) := by
  refine T.F_run_tour.ok sc_run_tour (fun vs H Q E h => ?_) (fun cdv A outer s H vs Q E hr h => ?_)
  · obtain ⟨a, s, x, ns, p, rp, lim, f, R, rfl, _⟩ := h
    rfl
  · obtain ⟨a, s, x, ns, p, rp, lim, f, R, rfl, tab, ok, pr, hs, sk, hx, rok, l0, lf, hR, k⟩ := h
    refine ⟨_, (pss_cons (ps_expr (pe_call (ok_require_table T) (hr.mono (by decide)) rfl T.m_require_table T.F_require_table.kp T.b_require_table .nil pass0 (pa_cons (pv 0) pa_nil))) (pss_cons (ps_expr (pe_call (ok_require_seat T) (hr.mono (by decide)) rfl T.m_require_seat T.F_require_seat.kp T.b_require_seat .nil pass0 (pa_cons (pv 0) (pa_cons (pv 1) pa_nil)))) (pss_cons (ps_if (pt_not (pt_val (pe_call (ok_is_responder T) (hr.mono (by decide)) rfl T.m_is_responder T.F_is_responder.kp T.b_is_responder .nil pass0 (pa_cons (pv 0) (pa_cons (pv 2) (pa_cons (pv 1) pa_nil)))))) pss_never pss_nil) (pss_cons (ps_expr (pe_call (ok_require_at_least T) (hr.mono (by decide)) rfl T.m_require_at_least T.F_require_at_least.kp T.b_require_at_least .nil pass0 (pa_cons (pv 3) (pa_cons pe_int (pa_cons pe_str pa_nil))))) (pss_cons (ps_expr (pe_call (ok_require_small T) (hr.mono (by decide)) rfl T.m_require_small T.F_require_small.kp T.b_require_small .nil pass0 (pa_cons (pv 0) pa_nil))) (pss_cons (ps_par (i := 4) (j := 5) rfl sc_run_tour.nd rfl rfl (by decide) rfl rfl (pa_cons (pe_lst pa_nil) (pa_cons (pe_lst (pa_cons (pv 1) pa_nil)) pa_nil)) (by rfl)) (pss_one (ps_while PassesOwn.never (pt_val pe_bl) (pss_cons (ps_set (i := 6) sc_run_tour.nd rfl (Or.inl rfl) (pe_call (ok_unvisited_seats T) (hr.mono (by decide)) rfl T.m_unvisited_seats T.F_unvisited_seats.kp T.b_unvisited_seats .nil pass0 (pa_cons (pv 0) (pa_cons (pv 5) (pa_cons (pv 1) pa_nil))))) (pss_cons (ps_set (i := 7) sc_run_tour.nd rfl (Or.inl rfl) (pe_call (ok_next_action T) hr rfl T.m_next_action T.F_next_action.kp T.b_next_action .nil pass0 (pa_cons (pv 0) (pa_cons (pv 6) (pa_cons (pv 1) pa_nil))))) (pss_cons (ps_if (pt_cmpR op_ne (pe_ix ix_tup (pv 7) pe_int (fun _ _ => rfl)) pe_str (nomark _)) (pss_one (ps_ret (pe_tup (pa_cons (pv 4) (pa_cons (pv 5) (pa_cons (pe_ix ix_tup (pv 7) pe_int (fun _ _ => rfl)) pa_nil)))))) pss_nil) (pss_cons (ps_if (pt_cmpR op_eq (pe_callB call_len_seq (by rfl) T.z_len (by decide +kernel) (pa_cons (pv 4) pa_nil)) (pv 3) (nomark _)) (pss_one (ps_ret (pe_tup (pa_cons (pv 4) (pa_cons (pv 5) (pa_cons pe_str pa_nil)))))) pss_nil) (pss_cons (ps_set (i := 8) sc_run_tour.nd rfl (Or.inl rfl) (pe_call (ok_answer_of T) (hr.mono (by decide)) rfl T.m_answer_of T.F_answer_of.kp T.b_answer_of .nil pass0 (pa_cons (pv 0) (pa_cons (pv 2) (pa_cons (pv 1) (pa_cons (pe_ix ix_tup (pv 7) pe_int (fun _ _ => rfl)) (pa_cons (pe_callB call_len_seq (by rfl) T.z_len (by decide +kernel) (pa_cons (pv 4) pa_nil)) pa_nil))))))) (pss_cons (ps_expr (pe_bm PySem.F.plainAttrs_list PySem.F.slot_list_append PySem.F.type_list_append mt_append (pv 4) (pa_cons (pe_tup (pa_cons (pe_ix ix_tup (pv 7) pe_int (fun _ _ => rfl)) (pa_cons (pv 8) pa_nil))) pa_nil))) (pss_cons (ps_set (i := 1) sc_run_tour.nd rfl (Or.inl rfl) (pe_meth (pv 0) T.cl_Table T.me_Table_step (ok_Table_step T) (hr.mono (by decide)) T.b_Table_step .nil pass0 (pa_cons (pv 1) (pa_cons (pe_ix ix_tup (pv 7) pe_int (fun _ _ => rfl)) (pa_cons (pv 8) pa_nil))))) (pss_one (ps_if (pt_cmpR (r := rInD K) (op_inD (u65 hr)) (pv 1) (pv 6) rfl) (pss_one (ps_expr (pe_bm PySem.F.plainAttrs_list PySem.F.slot_list_append PySem.F.type_list_append mt_append (pv 5) (pa_cons (pv 1) pa_nil)))) pss_nil))))))))))))))))), ?_⟩
    have n4 := ok.le
    refine ⟨_, rfl, a, ns, rfl, tab, ?_⟩
    refine ⟨_, rfl, _, rfl, a, _, ns, _, rfl, tab, n4, TupA.ints hs (by rw [sk.len]; omega), isSeat_ok sk, fun H1 e1 => ?_⟩
    refine ⟨_, rfl, _, rfl, _, rfl, a, s, x, ns, p, rp, rfl, tab.mono e1, ok, pr, hx.mono e1, rok, e1 _ _ hs, sk, fun H2 e2 => ⟨_, rfl, itf rfl ?_⟩⟩
    have E2 := ext e1 e2
    refine ⟨_, rfl, lim, 0, _, rfl, l0, ?_⟩
    refine ⟨_, rfl, a, ns, rfl, tab.mono E2, ok, pr, ?_⟩
    refine ⟨slen rfl, ?_⟩
    (intro ml nml; generalize hGml : upd _ ml _ = H3; have eH3 := exG hGml nml; have hml := atG hGml; clear hGml)
    refine ⟨_, rfl, slen rfl, ?_⟩
    (intro sl nsl; generalize hGsl : upd _ sl _ = H4; have eH4 := exG hGsl nsl; have hsl := atG hGsl; clear hGsl)
    refine ⟨_, _, rfl, ?_⟩
    have nml : H ml = none := Evl.fresh_back E2 nml
    have nsl : H sl = none := Evl.fresh_back (ext E2 eH3) nsl
    have nms : ml ≠ sl := ne_of_none hml ‹H3 sl = none›
    have hml4 := eH4 _ _ hml
    have E4 := ext E2 (ext eH3 eH4)
    show tSeq _ _ _ [_, _, _, _, _, _, _, _, _] _
    refine ⟨fun m σ Hx => ∃ (hops : List Hop) (been : List (List Int)) (p2 : List Int) (sa : Addr) (y6 y7 y8 : Option V) (xs ys : List V), σ = [some (.ref a), some (.ref sa), some x, some (.int lim), some (.ref ml), some (.ref sl), y6, y7, y8] ∧ tourF ns rp lim m hops been p2 = some R ∧ Ex H Hx ∧ Hx ml = some (.lst xs) ∧ HopsR Hx xs hops ∧ Hx sl = some (.lst ys) ∧ RowsR Hx ys been ∧ Hx sa = some (.tup (p2.map V.int)) ∧ SeatOk ns p2 ∧ p2 ∈ been ∧ been.Nodup ∧ (∀ t ∈ been, SeatOk ns t) ∧ hops.length + m ≤ f, ⟨f, [], [p], p, s, _, _, _, _, _, rfl, hR, E4, hml4, .nil, hsl, .cons ⟨s, rfl, E4 _ _ hs⟩ .nil, E4 _ _ hs, sk, List.mem_cons_self, by simp, fun t ht => by rw [List.mem_singleton.mp ht]; exact sk, by simp⟩, ?_⟩
    clear hml hml4 hsl eH3 eH4 E4 E2 e1 e2 hR
    rintro m σ Hx ⟨hops, been, p2, sa, y6, y7, y8, xs, ys, rfl, hF, ex, hml, rh, hsl, rb, hsa, sk2, pin, nod, sks, lh⟩
    refine ⟨_, rfl, ?_⟩
    refine itt rfl ⟨_, fun _ _ h => h, ?_⟩
    obtain ⟨g, rfl⟩ : ∃ g, m = g + 1 := by
      cases m with
      | zero => cases hF
      | succ g => exact ⟨g, rfl⟩
    have lb := seats_len ok pr nod sks
    refine ⟨_, rfl, _, rfl, _, rfl, a, sa, (false, sl), ns, p2, been, rfl, tab.mono ex, ok, pr, ⟨ys, hsl, rb⟩, by omega, nod, hsa, fun D H5 e5 nD hD => ?_⟩
    have so : ∀ o ∈ openL ns been p2, SeatOk ns o := fun o ho => (mem_open.mp ho).1
    have pno : p2 ∉ openL ns been p2 := fun z => (mem_open.mp z).2.1 pin
    have E5 := ext ex e5
    dsimp only [gName]
    refine ⟨_, rfl, _, rfl, _, rfl, a, sa, D, ns, p2, openL ns been p2, rfl, tab.mono E5, ok, pr, hD, openL_len ok pr _ _, openL_nodup _ _ _, so, e5 _ _ hsa, sk2, pno, fun r H6 e6 nr av => ?_⟩
    have E6 := ext E5 e6
    have e56 := ext e5 e6
    have hD6 := hD.mono e6
    dsimp only [gName]
    unfold tourF at hF
    unfold ActV at av
    by_cases c1 : openL ns been p2 = []
    · rw [if_pos c1] at hF av
      have eR : R = ⟨hops, been, p2, 0⟩ := (Option.some.inj hF).symm
      subst eR
      refine ⟨_, rfl, r, _, _, _, rfl, rfl, SqT.of av, rfl, ?_⟩
      refine ⟨rfl, _, rfl, itt (by decide +kernel) ?_⟩
      refine ⟨_, rfl, _, rfl, _, rfl, r, _, _, _, rfl, rfl, SqT.of av, rfl, by show 3 ≤ sizeLine; decide, fun q nq => ?_⟩
      have eq := exn (o := .tup [.ref ml, .ref sl, .str "complete"]) nq
      exact k q ml sl _ (ext E6 eq) (Evl.fresh_back E6 nq) nml nsl nms ⟨xs, ys, upd_same, eq _ _ (e56 _ _ hml), rh.monoT fun c zs z => eq _ _ (e56 _ _ z), eq _ _ (e56 _ _ hsl), rb.mono (ext e56 eq)⟩
    rw [if_neg c1] at hF av
    cases hd : dep (countsL ns (openL ns been p2)) p2 with
    | none =>
      rw [hd] at hF av
      have eR : R = ⟨hops, been, p2, 1⟩ := (Option.some.inj hF).symm
      subst eR
      obtain ⟨_, wt, _, hr6, _⟩ := av
      refine ⟨_, rfl, r, _, _, _, rfl, rfl, SqT.of hr6, rfl, ?_⟩
      refine ⟨rfl, _, rfl, itt (by decide +kernel) ?_⟩
      refine ⟨_, rfl, _, rfl, _, rfl, r, _, _, _, rfl, rfl, SqT.of hr6, rfl, by show 3 ≤ sizeLine; decide, fun q nq => ?_⟩
      have eq := exn (o := .tup [.ref ml, .ref sl, .str "end"]) nq
      exact k q ml sl _ (ext E6 eq) (Evl.fresh_back E6 nq) nml nsl nms ⟨xs, ys, upd_same, eq _ _ (e56 _ _ hml), rh.monoT fun c zs z => eq _ _ (e56 _ _ z), eq _ _ (e56 _ _ hsl), rb.mono (ext e56 eq)⟩
    | some d =>
      rw [hd] at hF av
      dsimp only at hF
      obtain ⟨c, rc, rest, hfr, hr6, hrc⟩ := av
      have lh2 : xs.length = hops.length := Paired.length rh
      refine ⟨_, rfl, r, _, _, _, rfl, rfl, SqT.of hr6, rfl, ?_⟩
      refine ⟨rfl, _, rfl, itf (by decide +kernel) ?_⟩
      refine ⟨_, rfl, ml, _, rfl, .inl (SqL.of (e56 _ _ hml)), _, rfl, rfl, _, rfl, ?_⟩
      rw [lh2]
      by_cases c2 : (hops.length : Int) = lim
      · rw [if_pos c2] at hF
        have eR : R = ⟨hops, been, p2, 2⟩ := (Option.some.inj hF).symm
        subst eR
        refine itt (by show decide (V.int (hops.length : Int) = V.int lim) = true; rw [c2]; simp) ?_
        refine ⟨_, rfl, _, rfl, by show 3 ≤ sizeLine; decide, fun q nq => ?_⟩
        have eq := exn (o := .tup [.ref ml, .ref sl, .str "open"]) nq
        exact k q ml sl _ (ext E6 eq) (Evl.fresh_back E6 nq) nml nsl nms ⟨xs, ys, upd_same, eq _ _ (e56 _ _ hml), rh.monoT fun c zs z => eq _ _ (e56 _ _ z), eq _ _ (e56 _ _ hsl), rb.mono (ext e56 eq)⟩
      rw [if_neg c2] at hF
      refine itf (by show decide (V.int (hops.length : Int) = V.int lim) = false; rw [dec_int]; simpa using c2) ?_
      obtain ⟨c', rest', hfr', sc, sn, hn, _, _⟩ := tour_step sk2 pin hd (ansB ns rp p2 ((fromL ns (countsL ns (openL ns been p2)) p2 d).headD []) hops.length)
      obtain ⟨rfl, rfl⟩ : c' = c ∧ rest' = rest := by
        rw [hfr] at hfr'
        injection hfr' with h1 h2
        exact ⟨h1.symm, h2.symm⟩
      rw [hfr] at hF sn hn
      replace hF : tourF ns rp lim g (hops ++ [(c', ansB ns rp p2 c' hops.length)]) (if nxtP ns p2 c' (ansB ns rp p2 c' hops.length) ∈ openL ns been p2 then been ++ [nxtP ns p2 c' (ansB ns rp p2 c' hops.length)] else been) (nxtP ns p2 c' (ansB ns rp p2 c' hops.length)) = some R := hF
      replace sn : SeatOk ns (nxtP ns p2 c' (ansB ns rp p2 c' hops.length)) := sn
      replace hn : nxtP ns p2 c' (ansB ns rp p2 c' hops.length) ∈ (if nxtP ns p2 c' (ansB ns rp p2 c' hops.length) ∈ openL ns been p2 then been ++ [nxtP ns p2 c' (ansB ns rp p2 c' hops.length)] else been) := hn
      generalize c' = c at *
      refine ⟨_, rfl, _, rfl, _, rfl, _, rfl, r, _, _, _, rfl, rfl, SqT.of hr6, rfl, _, rfl, ml, _, rfl, .inl (SqL.of (e56 _ _ hml)), a, sa, rc, x, ns, p2, p, c, rp, xs.length, rfl, tab.mono E6, ok, pr, hx.mono E6, rok, e56 _ _ hsa, sk2, hrc, sc.len, fun H7 e7 => ?_⟩
      have E7 := ext E6 e7
      have e57 := ext e56 e7
      rw [lh2]
      generalize ansB ns rp p2 c hops.length = b at *
      dsimp only [gName]
      have hml7 := e57 _ _ hml
      have hsl7 := e57 _ _ hsl
      have hD7 := hD6.mono e7
      have hr7 := e7 _ _ hr6
      have hrc7 := e7 _ _ hrc
      have hsa7 := e57 _ _ hsa
      have rh7 : HopsR H7 xs hops := rh.monoT fun c zs z => e57 _ _ z
      have rb7 : RowsR H7 ys been := rb.mono e57
      have nmD : ml ≠ D := ne_of_none hml nD
      have nsD : sl ≠ D := ne_of_none hsl nD
      refine ⟨_, rfl, .inl ⟨rfl, _, SqL.of hml7⟩, _, rfl, r, _, _, _, rfl, rfl, SqT.of hr7, rfl, _, rfl, by show 2 ≤ sizeLine; decide, fun u nu => ?_⟩
      have eu := exn (o := .tup [.ref rc, .str (awayW b)]) nu
      refine ⟨ml, _, _, rfl, rfl, eu _ _ hml7, by rw [lh2]; exact Nat.lt_of_le_of_lt (show _ ≤ 100000 by omega) (by decide), ?_⟩
      generalize hG8 : upd (upd H7 u _) ml _ = H8
      have hml8 := atG hG8
      have E8 : Ex H H8 := hG8 ▸ ex_upd (ext E7 eu) nml
      have t8 : ∀ c zs, H7 c = some (.tup zs) → H8 c = some (.tup zs) := fun c zs z => hG8 ▸ tup_pshL (eu _ _ hml7) (eu _ _ z)
      have hu8 : H8 u = some (.tup [.ref rc, .str (awayW b)]) := hG8 ▸ tup_pshL (eu _ _ hml7) upd_same
      have hsl8 : H8 sl = some (.lst ys) := by rw [← hG8, upd_ne (Ne.symm nms)]; exact eu _ _ hsl7
      have hD8 : RowsAt H8 D (openL ns been p2) := by
        obtain ⟨zs, h1, h2⟩ := hD7
        exact ⟨zs, by rw [← hG8, upd_ne (Ne.symm nmD)]; exact eu _ _ h1, h2.monoT t8⟩
      have rh8 : HopsR H8 (xs ++ [.ref u]) (hops ++ [(c, b)]) := paired_snoc ⟨u, rc, rfl, hu8, t8 _ _ hrc7⟩ (rh7.monoT t8)
      have rb8 : RowsR H8 ys been := rb7.monoT t8
      clear hG8 hml7 hsl7 hD7 rh7 rb7 eu
      obtain ⟨dx, tt, g1, g2⟩ := tab.mono E8
      refine ⟨_, rfl, a, dx, _, rfl, g1, rfl, _, rfl, _, rfl, r, _, _, _, rfl, rfl, SqT.of (t8 _ _ hr7), rfl, _, rfl, a, sa, rc, ns, p2, c, b, rfl, tab.mono E8, ok, t8 _ _ hsa7, t8 _ _ hrc7, sk2, sc.len, fun H9 q e9 nq hq => ?_⟩
      replace hq : H9 q = some (.tup ((nxtP ns p2 c b).map V.int)) := hq
      dsimp only [gName]
      obtain ⟨zs, hDD, rD⟩ := hD8.mono e9
      refine ⟨_, rfl, _, rfl, iT (nxtP ns p2 c b), (openL ns been p2).map iT, dp_ints hq, .lst (SqL.of hDD) rD.dp, (sh_ints (n := 59) _).ok, (sh_rows (n := 58) _).ok, ?_⟩
      rw [any_rows]
      refine ⟨_, rfl, ?_⟩
      have E9 := ext E8 e9
      by_cases z : nxtP ns p2 c b ∈ openL ns been p2
      · rw [if_pos z] at hF hn
        refine itt (decide_eq_true z) ?_
        refine ⟨_, rfl, .inl ⟨rfl, _, SqL.of (e9 _ _ hsl8)⟩, _, rfl, sl, _, _, rfl, rfl, e9 _ _ hsl8, by rw [rb8.len]; exact Nat.lt_of_le_of_lt (show _ ≤ 300 by omega) (by decide), ?_⟩
        have t10 : ∀ c zs, H9 c = some (.tup zs) → upd H9 sl (.lst (ys ++ [.ref q])) c = some (.tup zs) := fun c zs z => tup_pshL (e9 _ _ hsl8) z
        obtain ⟨z1, z2, z3⟩ := mem_open.mp z
        refine ⟨g, Nat.lt_succ_self g, hops ++ [(c, b)], been ++ [nxtP ns p2 c b], nxtP ns p2 c b, q, _, _, _, xs ++ [.ref u], ys ++ [.ref q], rfl, hF, ex_upd E9 nsl, by rw [upd_ne nms]; exact e9 _ _ hml8, (rh8.monoT fun c zs z => e9 _ _ z).monoT t10, upd_same, RowsR.snoc (t10 _ _ hq) ((rb8.mono e9).monoT t10), t10 _ _ hq, sn, hn, ?_, ?_, by rw [List.length_append]; show _ + 1 + _ ≤ _; omega⟩
        · exact List.nodup_append.mpr ⟨nod, by simp, fun a ha b hb => by rw [List.mem_singleton.mp hb]; exact fun e => z2 (e ▸ ha)⟩
        · intro t ht
          rcases List.mem_append.mp ht with h | h
          · exact sks t h
          · rw [List.mem_singleton.mp h]
            exact sn
      · rw [if_neg z] at hF hn
        refine itf (decide_eq_false z) ?_
        exact ⟨g, Nat.lt_succ_self g, hops ++ [(c, b)], been, nxtP ns p2 c b, q, _, _, _, xs ++ [.ref u], ys, rfl, hF, E9, e9 _ _ hml8, rh8.monoT fun c zs z => e9 _ _ z, e9 _ _ hsl8, rb8.mono e9, hq, sn, hn, nod, sks, by rw [List.length_append]; show _ + 1 + _ ≤ _; omega⟩
end

abbrev dirS (b : Bool) : Str := if b = true then "backward" else "forward"
abbrev sgD (b : Bool) : Int := if b = true then -1 else 1
/-- moves: refs of (call, direction) -/
def MovR (H : Hp) (xs : List V) (ms : List (List Int × Bool)) : Prop := Paired (fun x m => ∃ r c, x = V.ref r ∧ H r = some (.tup [.ref c, .str (dirS m.2)]) ∧ H c = some (.tup (m.1.map V.int))) xs ms
theorem MovR.mono {H H2 : Hp} (e : Ex H H2) : ∀ {xs : List V} {ms : List (List Int × Bool)}, MovR H xs ms → MovR H2 xs ms
  | _, _, .nil => .nil
  | _, _, .cons ⟨r, c, h1, h2, h3⟩ t => .cons ⟨r, c, h1, e _ _ h2, e _ _ h3⟩ (MovR.mono e t)
theorem MovR.len {H : Hp} : ∀ {xs : List V} {ms : List (List Int × Bool)}, MovR H xs ms → xs.length = ms.length
  | _, _, .nil => rfl
  | _, _, .cons _ t => by rw [List.length_cons, List.length_cons, MovR.len t]
theorem MovR.snoc {H : Hp} {r c : Addr} {m : List Int × Bool} (h : H r = some (.tup [.ref c, .str (dirS m.2)])) (hc : H c = some (.tup (m.1.map V.int))) : ∀ {xs : List V} {ms : List (List Int × Bool)}, MovR H xs ms → MovR H (xs ++ [.ref r]) (ms ++ [m])
  | _, _, .nil => .cons ⟨r, c, rfl, h, hc⟩ .nil
  | _, _, .cons q t => .cons q (MovR.snoc h hc t)
theorem MovR.upd {H : Hp} {D : Addr} {ys zs : List V} (hD : H D = some (.lst ys)) : ∀ {xs : List V} {ms : List (List Int × Bool)}, MovR H xs ms → MovR (upd H D (.lst zs)) xs ms
  | _, _, .nil => .nil
  | _, _, .cons ⟨r, c, h1, h2, h3⟩ t => .cons ⟨r, c, h1, by rw [upd_ne (ne_of h2 hD (by intro z; cases z))]; exact h2, by rw [upd_ne (ne_of h3 hD (by intro z; cases z))]; exact h3⟩ (MovR.upd hD t)
def MovQ (H : Hp) (q : Bool × Addr) (ms : List (List Int × Bool)) : Prop := ∃ xs, SqH H q xs ∧ MovR H xs ms
theorem MovQ.mono {H H2 : Hp} {q : Bool × Addr} {ms : List (List Int × Bool)} (e : Ex H H2) (h : MovQ H q ms) : MovQ H2 q ms := by
  obtain ⟨xs, h1, h2⟩ := h
  exact ⟨xs, h1.mono e, h2.mono e⟩
/-- where the walker is -/
def posL (ns st : List Int) (ms : List (List Int × Bool)) : List Int := ms.foldl (fun p m => shiftL ns p m.1 (sgD m.2)) st
def walkL (ns st : List Int) (ms : List (List Int × Bool)) : List (List Int) := (List.range (ms.length + 1)).map fun i => posL ns st (ms.take i)
theorem pos_snoc (ns st : List Int) (ms : List (List Int × Bool)) (m : List Int × Bool) : posL ns st (ms ++ [m]) = shiftL ns (posL ns st ms) m.1 (sgD m.2) := by
  unfold posL
  rw [List.foldl_append]
  rfl
theorem walk_snoc (ns st : List Int) (ms : List (List Int × Bool)) (m : List Int × Bool) : walkL ns st (ms ++ [m]) = walkL ns st ms ++ [posL ns st (ms ++ [m])] := by
  unfold walkL
  rw [List.length_append, List.length_singleton, List.range_succ, List.map_append]
  congr 1
  · refine List.map_congr_left fun i hi => ?_
    rw [List.take_append_of_le_length (by have := List.mem_range.mp hi; omega)]
  · rw [List.map_cons, List.map_nil, List.take_of_length_le (by simp)]
theorem walk_last (ns st : List Int) (ms : List (List Int × Bool)) : ∃ hss, walkL ns st ms = hss ++ [posL ns st ms] := by
  unfold walkL
  rw [List.range_succ, List.map_append]
  exact ⟨_, by rw [List.map_cons, List.map_nil, List.take_of_length_le (Nat.le_refl _)]⟩
theorem walk_len (ns st : List Int) (ms : List (List Int × Bool)) : (walkL ns st ms).length = ms.length + 1 := by simp [walkL]
theorem pos_ok {ns st : List Int} (one : ∀ n ∈ ns, 1 ≤ n) (sk : SeatOk ns st) : ∀ {ms : List (List Int × Bool)}, (∀ m ∈ ms, m.1.length = ns.length) → SeatOk ns (posL ns st ms)
  | [], _ => sk
  | m :: ms, h => by
    show SeatOk ns (posL ns (shiftL ns st m.1 (sgD m.2)) ms)
    exact pos_ok one (shift_seat one sk.len (h m List.mem_cons_self)) fun n hn => h n (List.mem_cons_of_mem _ hn)
theorem atI_last {α : Type} (ys : List α) (v : α) : atI (ys ++ [v]) (-1) = some v := by
  unfold atI ixN
  rw [if_neg (by decide), if_pos (by rw [List.length_append, List.length_singleton]; omega), List.length_append, List.length_singleton]
  have : ((-1 : Int) + ((ys.length + 1 : Nat) : Int)).toNat = ys.length := by omega
  show (ys ++ [v])[((-1 : Int) + ((ys.length + 1 : Nat) : Int)).toNat]? = some v
  rw [this, List.getElem?_append_right (Nat.le_refl _), Nat.sub_self]
  rfl
theorem RowsR.last {H : Hp} {xs : List V} {hss : List (List Int)} {hs : List Int} (h : RowsR H xs (hss ++ [hs])) : ∃ ys r, xs = ys ++ [V.ref r] ∧ H r = some (.tup (hs.map V.int)) := by
  have l := h.len
  rcases List.eq_nil_or_concat xs with rfl | ⟨ys, y, rfl⟩
  · simp at l
  simp only [List.concat_eq_append] at h l ⊢
  have l2 : ys.length = hss.length := by simpa using l
  obtain ⟨hs2, r, e1, rfl, e3⟩ := h.get (i := ys.length) (by rw [List.getElem?_append_right (Nat.le_refl _), Nat.sub_self]; rfl)
  rw [l2, List.getElem?_append_right (Nat.le_refl _), Nat.sub_self] at e1
  obtain rfl : hs = hs2 := Option.some.inj e1
  exact ⟨ys, r, rfl, e3⟩
section
variable {P : Program} {w : World} {K : PySem.W.Frag} {mg : Str → Option Value} {base : Heap}
def sp_is_move (C : Addr) : Sp := fun vs H Q _ => ∃ (a r c : Addr) (ns cs : List Int) (bk : Bool), vs = [.ref a, .ref r] ∧ TabAt C H a ns ∧ ns.length ≤ 4 ∧ H r = some (.tup [.ref c, .str (dirS bk)]) ∧ H c = some (.tup (cs.map V.int)) ∧ cs.length = ns.length ∧ ∀ H2, Ex H H2 → Q (.bl true) H2
theorem ok_is_move (T : TX K mg) : FnOk P w K mg base CX0 3 T.f_is_move T.fd_is_move ["table", "value"] (sp_is_move T.C_Table) := by
  refine T.F_is_move.ok sc_is_move (fun vs H Q E h => ?_) (fun cdv A outer s H vs Q E hr h => ?_)
  · obtain ⟨a, r, c, ns, cs, bk, rfl, _⟩ := h
    rfl
  · obtain ⟨a, r, c, ns, cs, bk, rfl, tab, l4, hr1, hc, lc, k⟩ := h
    refine ⟨_, (pss_cons (ps_if (PW.pt (pw_or (pt_not (pt_val (pe_callB call_isi (by rfl) T.z_isinstance (by decide +kernel) (pa_cons (pv 1) (pa_cons (pe_bltn (v := .ty "tuple") rfl T.z_tuple (by decide +kernel) rfl) pa_nil))))) (pw_or1 (pt_cmpR op_ne (pe_callB call_len_seq (by rfl) T.z_len (by decide +kernel) (pa_cons (pv 1) pa_nil)) pe_int (nomark _))))) (pss_one (ps_ret pe_bl)) pss_nil) (pss_one (ps_ret (pe_and (pe_meth (pv 0) T.cl_Table T.me_Table_is_call (ok_Table_is_call T) hr T.b_Table_is_call .nil pass0 (pa_cons (pe_ix ix_tup (pv 1) pe_int (fun _ _ => rfl)) pa_nil)) (pe_one (pe_call (ok_is_direction T) (hr.mono (by decide)) rfl T.m_is_direction T.F_is_direction.kp T.b_is_direction .nil pass0 (pa_cons (pe_ix ix_tup (pv 1) pe_int (fun _ _ => rfl)) pa_nil))))))), ?_⟩
    obtain ⟨dx, t, g1, g2⟩ := id tab
    refine ⟨_, rfl, _, _, _, _, true, rfl, .ty _, .base (.tup hr1), kit_ty (by decide +kernel), _, rfl, ?_⟩
    refine ⟨_, rfl, r, _, rfl, .inr (SqT.of hr1), rfl, _, rfl, ?_⟩
    refine ⟨_, rfl, a, dx, _, rfl, g1, rfl, _, rfl, r, _, _, _, rfl, rfl, SqT.of hr1, rfl, a, _, ns, _, rfl, tab, TupA.ints hc (by omega), fun H1 e1 => ?_⟩
    rw [isCall_ok lc]
    refine ⟨_, rfl, ?_⟩
    refine ⟨_, rfl, r, _, _, _, rfl, rfl, SqT.of (e1 _ _ hr1), rfl, _, some (dirS bk), rfl, rfl, fun H2 e2 => ?_⟩
    have : isDirO (some (dirS bk)) = true := by cases bk <;> decide +kernel
    rw [this]
    exact k _ (ext e1 e2)
def sp_require_moves (C : Addr) : Sp := fun vs H Q _ => ∃ (a : Addr) (q : Bool × Addr) (ns : List Int) (ms : List (List Int × Bool)), vs = [.ref a, .ref q.2] ∧ TabAt C H a ns ∧ ns.length ≤ 4 ∧ MovQ H q ms ∧ (∀ m ∈ ms, m.1.length = ns.length) ∧ ∀ H2, Ex H H2 → Q .non H2
theorem ok_require_moves (T : TX K mg) : FnOk P w K mg base CX0 4 T.f_require_moves T.fd_require_moves ["table", "moves"] (sp_require_moves T.C_Table) := by
  refine T.F_require_moves.ok sc_require_moves (fun vs H Q E h => ?_) (fun cdv A outer s H vs Q E hr h => ?_)
  · obtain ⟨a, q, ns, ms, rfl, _⟩ := h
    rfl
  · obtain ⟨a, ⟨b, q⟩, ns, ms, rfl, tab, l4, ⟨xs, hq, rr⟩, hm, k⟩ := h
    refine ⟨_, (pss_cons (ps_if (pt_not (pt_val (pe_callB call_isiT (by rfl) T.z_isinstance (by decide +kernel) (pa_cons (pv 1) (pa_cons (pe_tup (pa_cons (pe_bltn (v := .ty "list") rfl T.z_list (by decide +kernel) rfl) (pa_cons (pe_bltn (v := .ty "tuple") rfl T.z_tuple (by decide +kernel) rfl) pa_nil))) pa_nil))))) pss_never pss_nil) (pss_one (ps_for PassesOwn.never rfl (CE.pi_e rfl T.z_enumerate (pa_cons (pv 1) pa_nil)) (pg_tup rfl (pgs_cons (pg_name (i := 2) sc_require_moves.nd rfl (Or.inl rfl)) (pgs_cons (pg_name (i := 3) sc_require_moves.nd rfl (Or.inl rfl)) pgs_nil))) (pss_one (ps_if (pt_not (pt_val (pe_call (ok_is_move T) hr rfl T.m_is_move T.F_is_move.kp T.b_is_move .nil pass0 (pa_cons (pv 0) (pa_cons (pv 3) pa_nil))))) pss_never pss_nil))))), ?_⟩
    (repeat (first | refine ⟨rfl, ?_⟩ | refine ⟨_, rfl, ?_⟩ | refine ⟨_, _, rfl, rfl, ?_⟩ | refine ⟨_, _, rfl, ?_⟩ | refine ⟨slen rfl, ?_⟩ | refine ⟨⟨by decide, by decide +kernel⟩, ?_⟩ | refine ⟨⟨by decide, by decide, by decide⟩, ?_⟩ | refine ⟨(by show (0 : Int) < _; first | decide | assumption | omega), ?_⟩ | refine ⟨mul_ok (by first | exact .inr (by decide) | exact .inl (by decide)), ?_⟩))
    (intro y ny; generalize hGy : upd _ y _ = H1; have eH1 := exG hGy ny; have hy := atG hGy; clear hGy)
    have q1 := hq.mono eH1
    refine ⟨_, y, _, _, _, true, rfl, hy, .cons (.ty _) (.cons (.ty _) .nil), q1.ty, kit_seq b, _, rfl, itf rfl ?_⟩
    refine ⟨_, rfl, (b, q), rfl, ⟨_, q1.sq⟩, ?_⟩
    refine for_it (CE.walk_e (xs := xs)) (fun i σ H3 => (∃ (y2 y3 : Option V), σ = [some (.ref a), some (.ref q), y2, y3]) ∧ Ex H H3) ⟨⟨_, _, rfl⟩, eH1⟩ (fun i σ H2 _ ⟨_, e⟩ => (hq.mono e).sq) ?_ ?_
    · rintro i x σ H3 H4 hi ⟨⟨y2, y3, rfl⟩, e3⟩ ⟨Ta, x1, x2, rfl, hT, rfl, hx1, hx2⟩
      cases hx1
      obtain ⟨m, hmi, r, c, rfl, hr0, hc0⟩ := paired_get rr hx2
      have e4 : Ex H (upd H3 Ta (.tup [.int (i : Nat), .ref r])) := ext e3 (exn hT)
      refine ⟨Ta, _, rfl, SqT.of upd_same, rfl, _, _, rfl, _, _, rfl, rfl, ?_⟩
      refine ⟨_, rfl, _, rfl, a, r, c, ns, m.1, m.2, rfl, tab.mono e4, l4, e4 _ _ hr0, e4 _ _ hc0, hm m (List.mem_of_getElem? hmi), fun H5 e5 => ?_⟩
      exact ⟨_, rfl, itf rfl ⟨⟨_, _, rfl⟩, ext e4 e5⟩⟩
    · rintro σ H3 ⟨⟨y2, y3, rfl⟩, e3⟩
      exact k _ e3
def sp_visited_seats (C : Addr) : Sp := fun vs H Q _ => ∃ (a s : Addr) (q : Bool × Addr) (ns ps : List Int) (ms : List (List Int × Bool)), vs = [.ref a, .ref s, .ref q.2] ∧ TabAt C H a ns ∧ SzOk ns ∧ H s = some (.tup (ps.map V.int)) ∧ SeatOk ns ps ∧ MovQ H q ms ∧ ms.length ≤ 100000 ∧ (∀ m ∈ ms, m.1.length = ns.length) ∧ ∀ f H2, Ex H H2 → H f = none → RowsAt H2 f (walkL ns ps ms) → Q (.ref f) H2
theorem ok_visited_seats (T : TX K mg) : FnOk P w K mg base CX0 7 T.f_visited_seats T.fd_visited_seats ["table", "seat", "moves"] (sp_visited_seats T.C_Table) := by
  refine T.F_visited_seats.ok sc_visited_seats (fun vs H Q E h => ?_) (fun cdv A outer s H vs Q E hr h => ?_)
  · obtain ⟨a, s, q, ns, ps, ms, rfl, _⟩ := h
    rfl
  · obtain ⟨a, s, ⟨b, q⟩, ns, ps, ms, rfl, tab, ok, hs, sk, ⟨xs, hq, rr⟩, lm, hm, k⟩ := h
    refine ⟨_, (pss_cons (ps_set (i := 3) sc_visited_seats.nd rfl (Or.inl rfl) (pe_lst (pa_cons (pv 1) pa_nil))) (pss_cons (ps_for PassesOwn.never rfl (pi_seq (pv 2)) (pg_tup rfl (pgs_cons (pg_name (i := 4) sc_visited_seats.nd rfl (Or.inl rfl)) (pgs_cons (pg_name (i := 5) sc_visited_seats.nd rfl (Or.inl rfl)) pgs_nil))) (pss_one (ps_expr (pe_bm PySem.F.plainAttrs_list PySem.F.slot_list_append PySem.F.type_list_append mt_append (pv 3) (pa_cons (pe_meth (pv 0) T.cl_Table T.me_Table_step (ok_Table_step T) hr T.b_Table_step .nil pass0 (pa_cons (pe_ix ix_list (pv 3) (pe_un un_neg pe_int) (fun _ _ => rfl)) (pa_cons (pv 4) (pa_cons (pv 5) pa_nil)))) pa_nil))))) (pss_one (ps_ret (pv 3))))), ?_⟩
    have lx := rr.len
    (repeat (first | refine ⟨rfl, ?_⟩ | refine ⟨_, rfl, ?_⟩ | refine ⟨_, _, rfl, rfl, ?_⟩ | refine ⟨_, _, rfl, ?_⟩ | refine ⟨slen rfl, ?_⟩ | refine ⟨⟨by decide, by decide +kernel⟩, ?_⟩ | refine ⟨⟨by decide, by decide, by decide⟩, ?_⟩ | refine ⟨(by show (0 : Int) < _; first | decide | assumption | omega), ?_⟩ | refine ⟨mul_ok (by first | exact .inr (by decide) | exact .inl (by decide)), ?_⟩))
    (intro f nf; generalize hGf : upd _ f _ = H1; have eH1 := exG hGf nf; have hf := atG hGf; clear hGf)
    refine ⟨_, rfl, (b, q), rfl, ⟨_, (hq.mono eH1).sq⟩, ?_⟩
    refine for_it (walk_seq (xs := xs)) (fun i σ H3 => (∃ (y4 y5 : Option V), σ = [some (.ref a), some (.ref s), some (.ref q), some (.ref f), y4, y5]) ∧ Ex H H3 ∧ RowsAt H3 f (walkL ns ps (ms.take i))) ⟨⟨_, _, rfl⟩, eH1, _, hf, .cons ⟨s, rfl, eH1 _ _ hs⟩ .nil⟩ (fun i σ H2 _ ⟨_, e, _⟩ => (hq.mono e).sq) ?_ ?_
    · rintro i x σ _ H3 hi ⟨⟨y4, y5, rfl⟩, e3, ra⟩ ⟨rfl, hx⟩
      obtain ⟨m, hmi, r, c, rfl, hr0, hc0⟩ := paired_get rr hx
      obtain ⟨hss, eh⟩ := walk_last ns ps (ms.take i)
      obtain ⟨zs, hz1, hz2⟩ := id ra
      rw [eh] at hz2
      obtain ⟨ys, u, rfl, hu⟩ := hz2.last
      have skp := pos_ok ok.one sk (ms := ms.take i) fun m h => hm m (List.mem_of_mem_take h)
      have lc := hm m (List.mem_of_getElem? hmi)
      obtain ⟨dx, t, g1, g2⟩ := tab.mono e3
      refine ⟨r, _, rfl, SqT.of (e3 _ _ hr0), rfl, _, _, rfl, _, _, rfl, rfl, ?_⟩
      refine ⟨_, rfl, .inl ⟨rfl, _, SqL.of hz1⟩, ?_⟩
      refine ⟨_, rfl, a, dx, _, rfl, g1, rfl, _, rfl, _, rfl, f, _, _, _, rfl, rfl, SqL.of hz1, atI_last _ _, _, rfl, _, rfl, a, u, c, ns, _, m.1, m.2, rfl, tab.mono e3, ok, hu, e3 _ _ hc0, skp, lc, fun H4 z e4 nz hz => ?_⟩
      obtain ⟨acc, p1, p2, p3⟩ := rows_push (ra.mono e4) hz
      refine ⟨f, _, _, rfl, rfl, p1, ?_, ⟨_, _, rfl⟩, ex_upd (ext e3 e4) nf, ?_⟩
      · rw [p2, walk_len, List.length_take]
        exact Nat.lt_of_le_of_lt (show _ ≤ 100001 by omega) (by decide)
      · rw [take_more hmi, walk_snoc, pos_snoc]
        exact p3
    · rintro σ H3 ⟨⟨y4, y5, rfl⟩, e3, ra⟩
      rw [lx, List.take_length] at ra
      exact ⟨_, rfl, k f _ e3 nf ra⟩
end

/-- a record stands at a -/
def RecAt (CR C : Addr) (H : Hp) (a : Addr) (ns st : List Int) (tss : List (List Int)) (ms : List (List Int × Bool)) : Prop :=
  ∃ (dx tb g p v : Addr) (gs ps vs : List V), H a = some (.ins CR dx [("table", .ref tb), ("goals", .ref g), ("played", .ref p), ("visited", .ref v)]) ∧ TabAt C H tb ns ∧ H g = some (.tup gs) ∧ RowsR H gs tss ∧ H p = some (.tup ps) ∧ MovR H ps ms ∧ H v = some (.tup vs) ∧ RowsR H vs (walkL ns st ms)
theorem RecAt.mono {CR C : Addr} {H H2 : Hp} {a : Addr} {ns st : List Int} {tss : List (List Int)} {ms : List (List Int × Bool)} (e : Ex H H2) (h : RecAt CR C H a ns st tss ms) : RecAt CR C H2 a ns st tss ms := by
  obtain ⟨dx, tb, g, p, v, gs, ps, vs, h1, h2, h3, h4, h5, h6, h7, h8⟩ := h
  exact ⟨dx, tb, g, p, v, gs, ps, vs, e _ _ h1, h2.mono e, e _ _ h3, h4.mono e, e _ _ h5, h6.mono e, e _ _ h7, h8.mono e⟩
section
variable {P : Program} {w : World} {K : PySem.W.Frag} {mg : Str → Option Value} {base : Heap}
def sp_Record_init (CR C : Addr) : Sp := fun vs H Q _ => ∃ (p dx a s : Addr) (q m : Bool × Addr) (ns st : List Int) (tss : List (List Int)) (ms : List (List Int × Bool)) (H0 : Hp), vs = [.ref p, .ref a, .ref q.2, .ref s, .ref m.2] ∧ H p = some (.ins CR dx []) ∧ H0 p = none ∧ Ex H0 H ∧ TabAt C H0 a ns ∧ SzOk ns ∧ RowsQ H0 q tss ∧ tss ≠ [] ∧ tss.length ≤ 100000 ∧ (∀ ts ∈ tss, SeatOk ns ts) ∧ tss.Nodup ∧
  H0 s = some (.tup (st.map V.int)) ∧ SeatOk ns st ∧ MovQ H0 m ms ∧ ms.length ≤ 100000 ∧ (∀ m ∈ ms, m.1.length = ns.length) ∧ ∀ H2, Ex H0 H2 → RecAt CR C H2 p ns st tss ms → Q .non H2
theorem ok_Record_init (T : TX K mg) : FnOk P w K mg base CX0 8 T.f_Record_init T.fd_Record_init ["self", "table", "targets", "seat", "moves"] (sp_Record_init T.C_Record T.C_Table) := by
  refine T.F_Record_init.ok sc_Record_init (fun vs H Q E h => ?_) (fun cdv A outer s H vs Q E hr h => ?_)
  · obtain ⟨p, dx, a, s, q, m, ns, st, tss, ms, H0, rfl, _⟩ := h
    rfl
  · obtain ⟨p, dx, a, s, q, m, ns, st, tss, ms, H0, rfl, hp, np, e0, tab, ok, hq, ne, lt, sks, nod, hs, sk, hm, lm, hmm, k⟩ := h
    refine ⟨_, (pss_cons (ps_expr (pe_call (ok_require_table T) (hr.mono (by decide)) rfl T.m_require_table T.F_require_table.kp T.b_require_table .nil pass0 (pa_cons (pv 1) pa_nil))) (pss_cons (ps_expr (pe_call (ok_require_targets T) (hr.mono (by decide)) rfl T.m_require_targets T.F_require_targets.kp T.b_require_targets .nil pass0 (pa_cons (pv 1) (pa_cons (pv 2) pa_nil)))) (pss_cons (ps_expr (pe_call (ok_require_seat T) (hr.mono (by decide)) rfl T.m_require_seat T.F_require_seat.kp T.b_require_seat .nil pass0 (pa_cons (pv 1) (pa_cons (pv 3) pa_nil)))) (pss_cons (ps_expr (pe_call (ok_require_moves T) (hr.mono (by decide)) rfl T.m_require_moves T.F_require_moves.kp T.b_require_moves .nil pass0 (pa_cons (pv 1) (pa_cons (pv 4) pa_nil)))) (pss_cons (ps_asg (pe_tup (pa_cons (pv 1) (pa_cons (pe_callTy call_tuple_q (by rfl) T.z_tuple (by decide +kernel) (pa_cons (pv 2) pa_nil)) (pa_cons (pe_callTy call_tuple_q (by rfl) T.z_tuple (by decide +kernel) (pa_cons (pv 4) pa_nil)) pa_nil)))) (pg_tup rfl (pgs_cons (pg_fld (pv 0)) (pgs_cons (pg_fld (pv 0)) (pgs_cons (pg_fld (pv 0)) pgs_nil))))) (pss_one (ps_fld (pv 0) (pe_callTy call_tuple_of (by rfl) T.z_tuple (by decide +kernel) (pa_cons (pe_call (ok_visited_seats T) hr rfl T.m_visited_seats T.F_visited_seats.kp T.b_visited_seats .nil pass0 (pa_cons (pv 1) (pa_cons (pv 3) (pa_cons (pv 4) pa_nil)))) pa_nil)) rfl))))))), ?_⟩
    have l4 := ok.le
    refine ⟨_, rfl, a, ns, rfl, tab.mono e0, ?_⟩
    refine ⟨_, rfl, _, rfl, a, q, ns, tss, rfl, tab.mono e0, l4, hq.mono e0, ne, lt, sks, nod, fun H1 e1 => ?_⟩
    have E1 := ext e0 e1
    refine ⟨_, rfl, _, rfl, a, _, ns, _, rfl, tab.mono E1, l4, TupA.ints (E1 _ _ hs) (by rw [sk.len]; omega), isSeat_ok sk, fun H2 e2 => ?_⟩
    have E2 := ext E1 e2
    refine ⟨_, rfl, _, rfl, a, m, ns, ms, rfl, tab.mono E2, l4, hm.mono E2, hmm, fun H3 e3 => ?_⟩
    have E3 := ext E2 e3
    have hp3 := e3 _ _ (e2 _ _ (e1 _ _ hp))
    obtain ⟨gs, hq1, hq2⟩ := hq.mono E3
    obtain ⟨ps, hm1, hm2⟩ := hm.mono E3
    refine ⟨_, rfl, _, rfl, q, _, rfl, hq1, fun g H4 e4 hg => ?_⟩
    refine ⟨_, rfl, m, _, rfl, hm1.mono e4, fun pl H5 e5 hpl => ?_⟩
    (repeat (first | refine ⟨rfl, ?_⟩ | refine ⟨_, rfl, ?_⟩ | refine ⟨_, _, rfl, rfl, ?_⟩ | refine ⟨_, _, rfl, ?_⟩ | refine ⟨slen rfl, ?_⟩ | refine ⟨⟨by decide, by decide +kernel⟩, ?_⟩ | refine ⟨⟨by decide, by decide, by decide⟩, ?_⟩ | refine ⟨(by show (0 : Int) < _; first | decide | assumption | omega), ?_⟩ | refine ⟨mul_ok (by first | exact .inr (by decide) | exact .inl (by decide)), ?_⟩))
    (intro tp ntp; generalize hGtp : upd _ tp _ = H6; have eH6 := exG hGtp ntp; have htp := atG hGtp; clear hGtp)
    have E6 : Ex H3 H6 := ext e4 (ext e5 eH6)
    have hp6 := E6 _ _ hp3
    refine ⟨tp, _, rfl, SqT.of htp, rfl, ?_⟩
    refine ⟨_, _, rfl, _, rfl, p, T.C_Record, dx, [], rfl, hp6, T.cl_Record, T.n_Record_table, (by decide), ?_⟩
    refine ⟨_, _, rfl, _, rfl, p, T.C_Record, dx, _, rfl, upd_same, T.cl_Record, T.n_Record_goals, (by show 1 < 1000; decide), ?_⟩
    refine ⟨_, _, rfl, _, rfl, p, T.C_Record, dx, _, rfl, upd_same, T.cl_Record, T.n_Record_played, (by show 2 < 1000; decide), ?_⟩
    refine ⟨rfl, ?_⟩
    generalize hG7 : upd (upd (upd H6 p _) p _) p _ = H7
    have hp7 : H7 p = some (.ins T.C_Record dx [("table", .ref a), ("goals", .ref g), ("played", .ref pl)]) := by rw [← hG7]; exact upd_same
    have X7 : ∀ c o, c ≠ p → H6 c = some o → H7 c = some o := fun c o n z => by rw [← hG7, upd_ne n, upd_ne n, upd_ne n]; exact z
    clear hG7
    have E7 : Ex H0 H7 := fun c o z => X7 c o (ne_of_none z np) (E6 _ _ (E3 c o z))
    refine ⟨_, rfl, _, rfl, _, rfl, a, s, m, ns, st, ms, rfl, tab.mono E7, ok, E7 _ _ hs, sk, hm.mono E7, lm, hmm, fun f H8 e8 nf ra => ?_⟩
    obtain ⟨vs, hv1, hv2⟩ := ra
    refine ⟨f, _, rfl, .inl ⟨SqL.of hv1, ?_⟩⟩
    (intro vt nvt; generalize hGvt : upd _ vt _ = H9; have eH9 := exG hGvt nvt; have hvt := atG hGvt; clear hGvt)
    have E9 : Ex H7 H9 := ext e8 eH9
    refine ⟨_, rfl, p, T.C_Record, dx, _, rfl, E9 _ _ hp7, T.cl_Record, T.n_Record_visited, (by show 3 < 1000; decide), ?_⟩
    generalize hGa : upd H9 p _ = Ha
    have hpa : Ha p = some (.ins T.C_Record dx [("table", .ref a), ("goals", .ref g), ("played", .ref pl), ("visited", .ref vt)]) := by rw [← hGa]; exact upd_same
    have Xa : ∀ c o, c ≠ p → H9 c = some o → Ha c = some o := fun c o n z => by rw [← hGa, upd_ne n]; exact z
    clear hGa
    have Ea : Ex H0 Ha := fun c o z => Xa c o (ne_of_none z np) (E9 _ _ (E7 c o z))
    have T3 : ∀ c o, o ≠ .ins T.C_Record dx [] → H6 c = some o → Ha c = some o := fun c o n z => by
      have : c ≠ p := ne_of z hp6 n
      exact Xa c o this (E9 _ _ (X7 c o this z))
    have T9 : ∀ c o, (∀ fs, o ≠ .ins T.C_Record dx fs) → H9 c = some o → Ha c = some o := fun c o n z => Xa c o (ne_of z (E9 _ _ hp7) (n _)) z
    refine k _ Ea ⟨dx, a, g, pl, vt, gs, ps, vs, hpa, tab.mono Ea, T3 _ _ (by intro z; cases z) (eH6 _ _ (e5 _ _ hg)), ?_, T3 _ _ (by intro z; cases z) (eH6 _ _ hpl), ?_, T9 _ _ (by intro fs z; cases z) hvt, ?_⟩
    · obtain ⟨xs, hx1, hx2⟩ := hq
      obtain rfl : gs = xs := SqH.uniq hq1 (hx1.mono E3)
      exact hx2.mono Ea
    · obtain ⟨xs, hx1, hx2⟩ := hm
      obtain rfl : ps = xs := SqH.uniq hm1 (hx1.mono E3)
      exact hx2.mono Ea
    · exact (hv2.mono eH9).monoT fun c xs z => T9 _ _ (by intro fs z; cases z) z
def sp_Record_seats (CR C : Addr) : Sp := fun vs H Q _ => ∃ (p : Addr) (ns st : List Int) (tss : List (List Int)) (ms : List (List Int × Bool)), vs = [.ref p] ∧ RecAt CR C H p ns st tss ms ∧ ∀ f H2, Ex H H2 → H f = none → RowsAt H2 f (walkL ns st ms) → Q (.ref f) H2
theorem ok_Record_seats (T : TX K mg) : FnOk P w K mg base CX0 1 T.f_Record_seats T.fd_Record_seats ["self"] (sp_Record_seats T.C_Record T.C_Table) := by
  refine T.F_Record_seats.ok sc_Record_seats (fun vs H Q E h => ?_) (fun cdv A outer s H vs Q E hr h => ?_)
  · obtain ⟨p, ns, st, tss, ms, rfl, _⟩ := h
    rfl
  · obtain ⟨p, ns, st, tss, ms, rfl, ⟨dx, tb, g, pl, v, gs, ps, vs, h1, h2, h3, h4, h5, h6, h7, h8⟩, k⟩ := h
    refine ⟨_, (pss_one (ps_ret (pe_callTy call_list_of (by rfl) T.z_list (by decide +kernel) (pa_cons (pe_fld (pv 0) rfl) pa_nil)))), ?_⟩
    refine ⟨_, rfl, p, T.C_Record, dx, _, _, rfl, h1, T.cl_Record, T.n_Record_visited, rfl, v, _, rfl, .inr (SqT.of h7), fun f hf => ?_⟩
    exact k f _ (exn hf) hf ⟨_, upd_same, h8.mono (exn hf)⟩
end

/-- the places of a list that are in tss -/
def hitsL (hss tss : List (List Int)) : List (List Int × Nat) := hss.zipIdx.filter fun z => decide (z.1 ∈ tss)
/-- the first of them, or None -/
def hitV (hss tss : List (List Int)) : V := (((hitsL hss tss).map fun z => V.int z.2) ++ [V.non]).headD .non
theorem hit_at (hss tss : List (List Int)) : atI (((hitsL hss tss).map fun z => V.int z.2) ++ [V.non]) 0 = some (hitV hss tss) := by
  unfold hitV
  cases (hitsL hss tss).map fun z => V.int (z.2 : Nat) with
  | nil => rfl
  | cons x xs =>
    unfold atI ixN
    rw [if_pos (Int.le_refl 0), if_pos (by rw [List.length_append, List.length_cons]; omega)]
    rfl
theorem hits_len (hss tss : List (List Int)) : (hitsL hss tss).length ≤ hss.length := Nat.le_trans (List.length_filter_le _ _) (by rw [List.length_zipIdx]; exact Nat.le_refl _)
theorem mk_rec {CR C a st p : Addr} {bq bm : Bool} {g : Addr} {H : Hp} {ns ps : List Int} {tss : List (List Int)} {ms : List (List Int × Bool)} {R : Addr → Hp → Prop} {E : XK} (tab : TabAt C H a ns) (ok : SzOk ns) (hq : RowsQ H (bq, g) tss) (ne : tss ≠ []) (lt : tss.length ≤ 100000) (sks : ∀ ts ∈ tss, SeatOk ns ts) (nod : tss.Nodup)
    (hs : H st = some (.tup (ps.map V.int))) (sk : SeatOk ns ps) (hm : MovQ H (bm, p) ms) (lm : ms.length ≤ 100000) (hmm : ∀ m ∈ ms, m.1.length = ns.length) (k : ∀ x H2, Ex H H2 → H x = none → RecAt CR C H2 x ns ps tss ms → R x H2) :
    ∀ x dx, H x = none → H dx = none → dx ≠ x → sp_Record_init CR C [.ref x, .ref a, .ref g, .ref st, .ref p] (upd (upd H dx (.own x)) x (.ins CR dx [])) (fun v H2 => v = .non ∧ R x H2) E := by
  intro x dx nx ndx _
  have exB : Ex H (upd (upd H dx (.own x)) x (.ins CR dx [])) := fun c o z => by
    rw [upd_ne (ne_of_none z nx), upd_ne (ne_of_none z ndx)]
    exact z
  exact ⟨x, dx, a, st, (bq, g), (bm, p), ns, ps, tss, ms, H, rfl, upd_same, nx, exB, tab, ok, hq, ne, lt, sks, nod, hs, sk, hm, lm, hmm, fun H2 e2 ra => ⟨rfl, k x H2 e2 nx ra⟩⟩
section
variable {P : Program} {w : World} {K : PySem.W.Frag} {mg : Str → Option Value} {base : Heap}
end

/-! ### displays of displays of ints -/
/-- the reading t makes these rows, all new -/
def RowsD (t : TA) (rows : List (List Int)) : Prop := ∀ (σ : L2.St) (H : Hp) (Q : List V → Hp → Prop), (∀ xs H2, Ex H H2 → LRows H2 xs rows → (∀ r, V.ref r ∈ xs → H r = none) → Q xs H2) → t σ H Q
theorem RowsD.nil : RowsD tNil [] := fun σ H Q k => k [] H exr .nil (fun r h => nomatch h)
theorem RowsD.cons {te : TE} {t : TA} {ks : List Int} {rows : List (List Int)} (h1 : ∀ (σ : L2.St) (H : Hp) (Q : VK), ((ks.map V.int).length ≤ sizeLine ∧ ∀ p, H p = none → Q (.ref p) (upd H p (.lst (ks.map V.int)))) → te σ H Q) (l : ks.length ≤ 1000) (ne : ks ≠ []) (h2 : RowsD t rows) : RowsD (tCons te t) (ks :: rows) := fun σ H Q k => by
  refine h1 σ H _ ⟨by rw [List.length_map]; exact Nat.le_trans l (by decide), fun p hp => h2 σ _ _ fun xs H2 e lr nr => k _ H2 (ext (exn hp) e) (.cons ⟨p, rfl, e _ _ upd_same, ne⟩ lr) fun r hr => ?_⟩
  rcases List.mem_cons.mp hr with h | h
  · cases h
    exact hp
  · exact Evl.fresh_back (exn hp) (nr r h)
theorem rows_lst {t : TA} {rows : List (List Int)} (h : RowsD t rows) (l : rows.length ≤ 1000) {σ : L2.St} {H : Hp} {Q : VK} (k : ∀ q xs H2, Ex H H2 → H q = none → H2 q = some (.lst xs) → LRows H2 xs rows → (∀ r, V.ref r ∈ xs → H r = none) → Q (.ref q) H2) : tLst t σ H Q :=
  h σ H _ fun xs H2 e lr nr => ⟨by rw [lr.len]; exact Nat.le_trans l (by decide), fun p hp => k p xs _ (ext e (exn hp)) (Evl.fresh_back e hp) upd_same (lr.mono (exn hp)) nr⟩
theorem LRows.app {H : Hp} {xs ys : List V} {r1 r2 : List (List Int)} (h1 : LRows H xs r1) (h2 : LRows H ys r2) : LRows H (xs ++ ys) (r1 ++ r2) := by
  unfold LRows at *
  induction h1 with
  | nil => exact h2
  | cons q _ ih => exact .cons q ih
theorem LRows.filt {H : Hp} (c : List Int → Bool) : ∀ {xs : List V} {rows : List (List Int)}, LRows H xs rows → LRows H (((xs.zip rows).filter fun z => c z.2).map fun z => z.1) (rows.filter c)
  | _, _, .nil => .nil
  | _, _, .cons (a := x) (b := hs) q t => by
    have ih := LRows.filt c t
    rw [List.zip_cons_cons]
    cases e : c hs with
    | false =>
      rw [List.filter_cons_of_neg (by simp [e]), List.filter_cons_of_neg (by simp [e])]
      exact ih
    | true =>
      rw [List.filter_cons_of_pos (by simp [e]), List.filter_cons_of_pos (by simp [e])]
      exact .cons q ih
theorem LRows.mem {H : Hp} : ∀ {xs : List V} {rows : List (List Int)} {v : V}, LRows H xs rows → v ∈ xs → ∃ r ks, v = V.ref r ∧ ks ∈ rows ∧ H r = some (.lst (ks.map V.int))
  | y :: ys, ts :: tss, v, .cons q t, h => by
    rcases List.mem_cons.mp h with rfl | h
    · obtain ⟨r, h1, h2, _⟩ := q
      exact ⟨r, ts, h1, List.mem_cons_self, h2⟩
    · obtain ⟨r, ts, h1, h2, h3⟩ := LRows.mem t h
      exact ⟨r, ts, h1, List.mem_cons_of_mem _ h2, h3⟩
theorem seq_asg {te : TE} {g : TG} {r : TS} {D : Ends} {σ : L2.St} {H : Hp} (h : te σ H fun x H1 => g x σ H1 (r D)) : tSeq (tAsg te g) r D σ H := h
theorem LRows.new {H0 H2 : Hp} {s : Addr} {o : HO} {xs : List V} (hs : H0 s = some o) (nr : ∀ r, V.ref r ∈ xs → H0 r = none) : V.ref s ∉ xs := fun h => by
  have := nr s h
  rw [hs] at this
  cases this

theorem paired_erase {α β : Type} {R : α → β → Prop} : ∀ {xs : List α} {ys : List β} (k : Nat), Paired R xs ys → Paired R (xs.eraseIdx k) (ys.eraseIdx k)
  | _, _, _, .nil => .nil
  | _, _, 0, .cons _ t => t
  | _, _, k + 1, .cons h t => .cons h (paired_erase k t)
theorem erase_perm {α : Type} : ∀ {l : List α} {k : Nat} (h : k < l.length), (l[k] :: l.eraseIdx k).Perm l
  | a :: l, 0, _ => .refl _
  | a :: l, k + 1, h => by
    have h2 : k < l.length := by simpa using h
    show ((l[k]) :: a :: l.eraseIdx k).Perm (a :: l)
    exact (List.Perm.swap a _ _).trans ((erase_perm h2).cons a)
theorem seqIx {r : Int} {n : Nat} (h0 : 0 ≤ r) (h1 : r < n) (hn : n < 2 ^ 62) : seqIndex? r n = some r.toNat := by
  unfold seqIndex?
  rw [if_neg (show ¬ r < 0 by omega)]
  dsimp only
  rw [if_pos (by rw [Bool.and_eq_true, decide_eq_true_iff, decide_eq_true_iff]; omega)]

/-- of items that are data, whatever is drawn -/
def DataIn (K : PySem.W.Frag) (s : Addr) (H : Hp) (xs : List V) : Prop := ∀ H2, XB s H H2 → ∀ ys : List V, (∀ y ∈ ys, y ∈ xs) → ∃ ds, DpAll K H2 ys ds ∧ ∀ d ∈ ds, Sh 59 d
theorem DataIn.ints {K : PySem.W.Frag} {s : Addr} {H : Hp} (is : List Int) : DataIn K s H (is.map V.int) := fun H2 _ ys => by
  induction ys with
  | nil => exact fun _ => ⟨[], .nil, fun d hd => nomatch hd⟩
  | cons y ys ih =>
    intro h
    obtain ⟨ds, h1, h2⟩ := ih fun z hz => h z (List.mem_cons_of_mem _ hz)
    obtain ⟨i, _, e⟩ := List.mem_map.mp (h y List.mem_cons_self)
    subst e
    exact ⟨.int i :: ds, .cons (.int i) h1, fun d hd => by
      rcases List.mem_cons.mp hd with rfl | hd
      · exact sh_int _
      · exact h2 d hd⟩
theorem DataIn.rows {K : PySem.W.Frag} {s : Addr} {H : Hp} {xs : List V} {tss : List (List Int)} (src : Src H s) (rr : RowsR H xs tss) : DataIn K s H xs := fun H2 xb ys => by
  induction ys with
  | nil => exact fun _ => ⟨[], .nil, fun d hd => nomatch hd⟩
  | cons y ys ih =>
    intro h
    obtain ⟨ds, h1, h2⟩ := ih fun z hz => h z (List.mem_cons_of_mem _ hz)
    obtain ⟨i, hi⟩ := List.mem_iff_getElem?.mp (h y List.mem_cons_self)
    obtain ⟨p, r, hp, e, hr⟩ := rr.get hi
    subst e
    exact ⟨iT p :: ds, .cons (dp_ints (tup_xb src hr xb)) h1, fun d hd => by
      rcases List.mem_cons.mp hd with rfl | hd
      · exact sh_ints _
      · exact h2 d hd⟩
theorem DataIn.ne {K : PySem.W.Frag} {H : Hp} {ys : List V} {ds : List PyData} (h : DpAll K H ys ds) : (!PyData.eqv (.list ds) (.list [])) = decide (ys ≠ []) := by
  cases h with
  | nil => simp [PyData.eqv, PyData.eqvAll]
  | cons _ _ => simp [PyData.eqv, PyData.eqvAll]
section
variable {P : Program} {w : World} {K : PySem.W.Frag} {mg : Str → Option Value} {base : Heap}
def sp_law_choice : Sp := fun vs H Q _ => ∃ (s l : Addr) (xs : List V), vs = [.ref s, .ref l] ∧ Src H s ∧ H l = some (.lst xs) ∧ l ≠ s ∧ xs ≠ [] ∧ xs.length ≤ 1000 ∧ ∀ (v : V) H2, v ∈ xs → XB s H H2 → Src H2 s → Q v H2
theorem ok_law_choice (T : TX K mg) : FnOk P w K mg base CX0 3 T.f_law_choice T.fd_law_choice ["_law_source_here", "_law_options"] sp_law_choice := by
  refine T.F_law_choice.ok sc_law_choice (fun vs H Q E h => ?_) (fun cdv A outer s H vs Q E hr h => ?_)
  · obtain ⟨s, l, xs, rfl, _⟩ := h
    rfl
  · obtain ⟨s, l, xs, rfl, hs, hl, nl, ne, lx, k⟩ := h
    refine ⟨_, (pss_one (ps_ret (pe_ix ix_list (pv 1) (pe_call (ok_law_draw T) hr rfl T.m_law_draw T.F_law_draw.kp T.b_law_draw .nil pass0 (pa_cons (pv 0) (pa_cons (pe_callB call_len_seq (by rfl) T.z_len (by decide +kernel) (pa_cons (pv 1) pa_nil)) pa_nil))) (fun _ _ => rfl)))), ?_⟩
    have pos := List.length_pos_iff.mpr ne
    refine ⟨_, rfl, _, rfl, _, rfl, l, _, rfl, .inl (SqL.of hl), s, _, rfl, hs, (by omega), ?_, fun r H2 r0 r1 xb src => ?_⟩
    · rw [Int.natAbs_natCast]
      exact Nat.lt_of_le_of_lt lx (by decide +kernel)
    obtain ⟨v, hv, hm⟩ := atI_nat r0 r1
    exact ⟨l, _, _, _, rfl, rfl, SqL.of (xb _ _ nl hl), hv, k v _ hm xb src⟩
def sp_law_shuffle (K : PySem.W.Frag) : Sp := fun vs H Q _ => ∃ (s l : Addr) (xs : List V), vs = [.ref s, .ref l] ∧ Src H s ∧ H l = some (.lst xs) ∧ l ≠ s ∧ xs.length ≤ 1000 ∧ DataIn K s H xs ∧
  ∀ (q : Addr) (ys : List V) H2, H q = none → H2 q = some (.lst ys) → ys.Perm xs → XB s H H2 → Src H2 s → Q (.ref q) H2
theorem ok_law_shuffle (T : TX K mg) : FnOk P w K mg base CX0 3 T.f_law_shuffle T.fd_law_shuffle ["_law_source_here", "_law_options"] (sp_law_shuffle K) := by
  refine T.F_law_shuffle.ok sc_law_shuffle (fun vs H Q E h => ?_) (fun cdv A outer s H vs Q E hr h => ?_)
  · obtain ⟨s, l, is, rfl, _⟩ := h
    rfl
  · obtain ⟨s, l, xs, rfl, hs, hl, nls, ll, hdt, k⟩ := h
    refine ⟨_, (pss_cons (ps_set (i := 2) sc_law_shuffle.nd rfl (Or.inl rfl) (pe_callTy call_list_of (by rfl) T.z_list (by decide +kernel) (pa_cons (pv 1) pa_nil))) (pss_cons (ps_set (i := 3) sc_law_shuffle.nd rfl (Or.inl rfl) (pe_lst pa_nil)) (pss_cons (ps_while PassesOwn.never (pt_cmpR (r := rNeD K) (op_neD hr.units) (pv 2) (pe_lst pa_nil) (nomark _)) (pss_one (ps_expr (pe_bm PySem.F.plainAttrs_list PySem.F.slot_list_append PySem.F.type_list_append mt_append (pv 3) (pa_cons (pe_bm PySem.F.plainAttrs_list PySem.F.slot_list_pop PySem.F.type_list_pop mt_popAt (pv 2) (pa_cons (pe_call (ok_law_draw T) hr rfl T.m_law_draw T.F_law_draw.kp T.b_law_draw .nil pass0 (pa_cons (pv 0) (pa_cons (pe_callB call_len_seq (by rfl) T.z_len (by decide +kernel) (pa_cons (pv 2) pa_nil)) pa_nil))) pa_nil)) pa_nil))))) (pss_one (ps_ret (pv 3)))))), ?_⟩
    refine ⟨_, rfl, l, xs, rfl, .inl (SqL.of hl), fun pl hpl => ?_⟩
    generalize hG : upd H pl _ = H1
    have e1 := exG hG hpl
    have hp1 := atG hG
    clear hG
    dsimp only [gName]
    refine ⟨slen rfl, ?_⟩
    (intro f nf; generalize hGf : upd _ f _ = H2; have eH2 := exG hGf nf; have hf := atG hGf; clear hGf)
    have nf0 : H f = none := Evl.fresh_back e1 nf
    have E2 := ext e1 eH2
    have nfs : f ≠ s := hs.ne nf0
    have nps : pl ≠ s := hs.ne hpl
    have npf : pl ≠ f := ne_of_none hp1 nf
    dsimp only [gName]
    refine ⟨fun m σ Hx => ∃ ys fs : List V, σ = [some (.ref s), some (.ref l), some (.ref pl), some (.ref f)] ∧ Hx pl = some (.lst ys) ∧ Hx f = some (.lst fs) ∧ (ys ++ fs).Perm xs ∧ XB s H Hx ∧ Src Hx s ∧ m = ys.length,
      ⟨_, xs, [], rfl, eH2 _ _ hp1, hf, by rw [List.append_nil], XB.of E2, hs.mono E2, rfl⟩, ?_⟩
    rintro m σ Hx ⟨ys, fs, rfl, hpx, hfx, pm, xbx, srcx, rfl⟩
    have lall : ys.length + fs.length = xs.length := by
      rw [← List.length_append]
      exact pm.length_eq
    refine ⟨_, rfl, slen rfl, ?_⟩
    (intro el nel; generalize hGel : upd _ el _ = H3; have eH3 := exG hGel nel; have hel := atG hGel; clear hGel)
    have xb3 := xbx.trans (XB.of eH3)
    obtain ⟨ds, hd1, hd2⟩ := hdt H3 xb3 ys fun y hy => pm.mem_iff.mp (List.mem_append_left _ hy)
    refine ⟨.list ds, .list [], .lst (SqL.of (eH3 _ _ hpx)) hd1, .lst (SqL.of hel) .nil, (sh_list hd2).ok, (sh_list (n := 59) (ds := []) (fun d hd => nomatch hd)).ok, _, rfl, ?_⟩
    rw [DataIn.ne hd1]
    by_cases c : ys = []
    · subst c
      exact itf (by simp) ⟨_, rfl, k f fs _ nf0 (eH3 _ _ hfx) pm xb3 (srcx.mono eH3)⟩
    refine itt (decide_eq_true c) ⟨_, fun _ _ h => h, ?_⟩
    have apos := List.length_pos_iff.mpr c
    have hf3 := eH3 _ _ hfx
    have hp3 := eH3 _ _ hpx
    have src3 := srcx.mono eH3
    refine ⟨_, rfl, .inl ⟨rfl, _, SqL.of hf3⟩, _, rfl, .inl ⟨rfl, _, SqL.of hp3⟩, _, rfl, _, rfl, pl, ys, rfl, .inl (SqL.of hp3), s, (ys.length : Int), rfl, src3, by omega, Nat.lt_of_le_of_lt (show _ ≤ 1000 by omega) (by decide +kernel), fun r2 H4 r20 r21 xb4 src4 => ?_⟩
    have hp4 := xb4 _ _ nps hp3
    have hf4 := xb4 _ _ nfs hf3
    have ily : r2.toNat < ys.length := by omega
    refine ⟨pl, ys, r2, r2.toNat, ys[r2.toNat], rfl, rfl, hp4, by omega, by omega, seqIx r20 r21 (Nat.lt_of_le_of_lt (show ys.length ≤ 1000 by omega) (by decide)), List.getElem?_eq_getElem ily, ?_⟩
    have hf5 : upd H4 pl (.lst (ys.eraseIdx r2.toNat)) f = some (.lst fs) := by
      rw [upd_ne (Ne.symm npf)]
      exact hf4
    refine ⟨f, _, _, rfl, rfl, hf5, ?_, ?_⟩
    · exact Nat.lt_of_le_of_lt (show fs.length ≤ 1000 by omega) (by decide)
    refine ⟨(ys.eraseIdx r2.toNat).length, by rw [List.length_eraseIdx_of_lt ily]; omega, ys.eraseIdx r2.toNat, fs ++ [ys[r2.toNat]], rfl, ?_, upd_same, ?_, ((xb3.trans xb4).app hpl).app nf0, (src4.app nps).app nfs, rfl⟩
    · rw [upd_ne npf, upd_same]
    · refine List.Perm.trans ?_ pm
      rw [← List.append_assoc]
      refine List.Perm.trans (List.perm_append_comm) ?_
      show ((ys[r2.toNat] :: ys.eraseIdx r2.toNat) ++ fs).Perm _
      exact (erase_perm ily).append_right fs
def sp_law_spots : Sp := fun vs H Q _ => ∃ (l : Addr) (ns : List Int), vs = [.ref l] ∧ H l = some (.lst (ns.map V.int)) ∧ SzOk ns ∧ prodL ns ≤ 300 ∧ ∀ q H2, Ex H H2 → H q = none → RowsAt H2 q (allS ns) → Q (.ref q) H2
theorem ok_law_spots (T : TX K mg) : FnOk P w K mg base CX0 1 T.f_law_spots T.fd_law_spots ["_law_dims_here"] sp_law_spots := by
  refine T.F_law_spots.ok sc_law_spots (fun vs H Q E h => ?_) (fun cdv A outer s H vs Q E hr h => ?_)
  · obtain ⟨l, ns, rfl, _⟩ := h
    rfl
  · obtain ⟨l, ns, rfl, hl, ok, pr, k⟩ := h
    have l4 := ok.le
    refine ⟨_, (pss_cons (ps_set (i := 1) sc_law_spots.nd rfl (Or.inl rfl) (pe_lst (pa_cons (pe_tup pa_nil) pa_nil))) (pss_cons (ps_for PassesOwn.never rfl (pi_list (pv 0)) (pg_name (i := 2) sc_law_spots.nd rfl (Or.inl rfl)) (pss_cons (ps_set (i := 3) sc_law_spots.nd rfl (Or.inl rfl) (pe_lst pa_nil)) (pss_cons (ps_for PassesOwn.never rfl (pi_list (pv 1)) (pg_name (i := 4) sc_law_spots.nd rfl (Or.inr rfl)) (pss_one (ps_expr (pe_bm PySem.F.plainAttrs_list PySem.F.slot_list_extend PySem.F.type_list_extend mt_extend (pv 3) (pa_cons (pe_lc (own := [("_law_place", 5)]) (g := (gName 5)) rfl sc_law_spots.nd (pi_range1 rfl T.z_range (pa_cons (pv 2) pa_nil)) (blkOk_by (N := N_law_spots) (sc := defScope s_law_spots) (by decide +kernel)) (fun _ _ _ _ _ => (pg_name (i := 5) sc_law_spots.nd rfl (Or.inl rfl))) (fun _ _ _ _ _ => pts_nil) (fun _ _ _ _ _ => (pe_op (r := rCatA K) op_catA (pv 4) (pe_tup (pa_cons (pv 5) pa_nil))))) pa_nil))))) (pss_one (ps_set (i := 1) sc_law_spots.nd rfl (Or.inl rfl) (pv 3)))))) (pss_one (ps_ret (pv 1))))), ?_⟩
    refine ⟨by show 0 ≤ sizeLine; decide, fun u hu => ⟨by show 1 ≤ sizeLine; decide, fun f hf => ?_⟩⟩
    have e2 : Ex H (upd (upd H u (.tup [])) f (.lst [.ref u])) := ext (exn hu) (exn hf)
    have f0 : H f = none := Evl.fresh_back (exn hu) hf
    refine ⟨_, rfl, l, rfl, ⟨_, SqL.of (e2 _ _ hl)⟩, ?_⟩
    refine for_it (walk_list (xs := ns.map V.int)) (fun i σ H2 => ∃ (f : Addr) (y2 y3 y4 y5 : Option V), σ = [some (.ref l), some (.ref f), y2, y3, y4, y5] ∧ Ex H H2 ∧ H f = none ∧ RowsAt H2 f (allS (ns.take i))) ⟨_, _, _, _, _, rfl, e2, f0, _, upd_same, .cons ⟨u, rfl, by rw [upd_ne (ne_of_none upd_same hf)]; exact upd_same⟩ .nil⟩ (fun i σ H2 _ ⟨_, _, _, _, _, _, e, _⟩ => SqL.of (e _ _ hl)) ?_ ?_
    · rintro i x σ _ H2 hi ⟨f, y2, y3, y4, y5, rfl, e3, f0, ra⟩ ⟨rfl, hx⟩
      obtain ⟨n, hn, rfl⟩ := map_get hx
      have n1 := ok.one n (List.mem_of_getElem? hn)
      have nb := mul_le_prod ok.one hn
      have ezs := take_more hn
      have o1 : ∀ m ∈ ns.take i, 1 ≤ m := fun m hm => ok.one m (List.mem_of_mem_take hm)
      have len : ((allS (ns.take i)).length : Int) ≤ 300 := by
        rw [allS_len o1]
        exact Int.le_trans (prodL_take i ok.one) pr
      have rows : ∀ hs ∈ allS (ns.take i), hs.length ≤ 4 := fun hs hh => by
        rw [rows_allS hs hh, List.length_take]
        omega
      refine ⟨by show 0 ≤ sizeLine; decide, fun L hL => ?_⟩
      obtain ⟨xs, ra5, rr⟩ := id ra
      generalize hh : allS (ns.take i) = hss at rr len rows
      have e4 := exn (o := .lst []) hL
      refine ⟨_, rfl, f, rfl, ⟨_, SqL.of (e4 _ _ ra5)⟩, ?_⟩
      refine for_it (walk_list (xs := xs)) (fun j σ H3 => ∃ y4 y5 : Option V, σ = [some (.ref l), some (.ref f), some (.int n), some (.ref L), y4, y5] ∧ Ex H2 H3 ∧ RowsAt H3 L (crossS (hss.take j) n)) ⟨_, _, rfl, e4, _, upd_same, .nil⟩ (fun j σ H3 _ ⟨_, _, _, e, _⟩ => SqL.of (e _ _ ra5)) ?_ ?_
      · rintro j x σ _ H3 hj ⟨y4, y5, rfl, e5, rb⟩ ⟨rfl, hx⟩
        obtain ⟨hs, r, hhs, rfl, hr4⟩ := rr.get hx
        obtain ⟨ys, hy1, hy2⟩ := id rb
        have hsl := rows hs (List.mem_of_getElem? hhs)
        refine ⟨_, rfl, .inl ⟨rfl, _, SqL.of hy1⟩, _, rfl, n, rfl, by omega, by omega, fun D hD => ?_⟩
        refine lc_rows walk_range hs ((List.range n.toNat).map fun (i : Nat) => (i : Int)) (by simp) (by omega) hD (fun _ _ => True.intro) ?_ gmono_name ?_
        · rintro m x _ H5 R hm e6 ⟨rfl, hx⟩ kk
          obtain rfl : x = .int (m : Int) := hx.trans (congrArg V.int (Int.zero_add _))
          refine ⟨rfl, _, rfl, _, rfl, by show 1 ≤ sizeLine; decide, fun v hv => ?_⟩
          have hm2 : m < n.toNat := hm
          refine cat_row (exn hv _ _ (e6 _ _ (e5 _ _ hr4))) upd_same (by omega) fun z H6 e7 hz => kk _ z H6 (ext (exn hv) e7) ?_ hz
          rw [List.getElem?_map, List.getElem?_range hm2]
          rfl
        · intro H4 e6 rc
          have neL : L ≠ D := ne_of_none hy1 hD
          obtain ⟨as, bs, g1, g2, g3, g4, g5⟩ := rows_ext (rb.mono e6) rc neL
          refine ⟨L, D, as, bs, rfl, rfl, g1, g2, ?_, ?_⟩
          · simp only [g3, g4, crossS_len, List.length_map, List.length_range, List.length_take]
            have : min j hss.length * n.toNat ≤ 300 * 300 := Nat.mul_le_mul (by omega) (by omega)
            exact Nat.le_trans (show _ ≤ 90300 by omega) (by decide)
          · refine ⟨_, _, rfl, ex_upd (ext e5 e6) hL, ?_⟩
            rw [take_more hhs, crossS_snoc]
            rw [List.map_map] at g5
            exact g5
      · rintro σ H3 ⟨y4, y5, rfl, e5, rb⟩
        rw [rr.len, List.take_length] at rb
        rw [ezs, allS_snoc, hh]
        exact ⟨_, rfl, L, _, _, _, _, rfl, ext e3 e5, Evl.fresh_back e3 hL, rb⟩
    · rintro σ H2 ⟨f, y2, y3, y4, y5, rfl, e3, f0, ra⟩
      rw [List.length_map, List.take_length] at ra
      exact ⟨_, rfl, k f _ e3 f0 ra⟩
end

section
variable {P : Program} {w : World} {K : PySem.W.Frag} {mg : Str → Option Value} {base : Heap}
def sp_law_total : Sp := fun vs H Q _ => ∃ (l : Addr) (ns : List Int), vs = [.ref l] ∧ H l = some (.lst (ns.map V.int)) ∧ (∀ n ∈ ns, 1 ≤ n) ∧ prodL ns ≤ 10 ^ 9 ∧ Q (.int (prodL ns)) H
theorem ok_law_total (T : TX K mg) : FnOk P w K mg base CX0 1 T.f_law_total T.fd_law_total ["_law_dims_here"] sp_law_total := by
  refine T.F_law_total.ok sc_law_total (fun vs H Q E h => ?_) (fun cdv A outer s H vs Q E hr h => ?_)
  · obtain ⟨l, ns, rfl, _⟩ := h
    rfl
  · obtain ⟨l, ns, rfl, hl, one, hB, k⟩ := h
    refine ⟨_, (pss_cons (ps_set (i := 1) sc_law_total.nd rfl (Or.inl rfl) pe_int) (pss_cons (ps_for PassesOwn.never rfl (pi_list (pv 0)) (pg_name (i := 2) sc_law_total.nd rfl (Or.inl rfl)) (pss_one (ps_set (i := 1) sc_law_total.nd rfl (Or.inl rfl) (pe_op op_mulI (pv 1) (pv 2))))) (pss_one (ps_ret (pv 1))))), ?_⟩
    refine ⟨_, rfl, l, rfl, ⟨_, SqL.of hl⟩, ?_⟩
    refine for_it (walk_list (xs := ns.map V.int)) (fun i σ H2 => ∃ y : Option V, σ = [some (.ref l), some (.int (prodL (ns.take i))), y] ∧ H2 = H) ⟨none, rfl, rfl⟩ (fun i σ H2 _ ⟨_, _, e⟩ => by rw [e]; exact SqL.of hl) ?_ ?_
    · rintro i x σ H2 H3 hi ⟨y, rfl, rfl⟩ ⟨rfl, hx⟩
      obtain ⟨n, hn, rfl⟩ := map_get hx
      have b1 : 1 ≤ prodL (ns.take i) := prodL_pos fun m hm => one m (List.mem_of_mem_take hm)
      have b2 : prodL (ns.take i) ≤ 10 ^ 9 := Int.le_trans (prodL_take i one) hB
      refine ⟨_, rfl, _, rfl, _, _, rfl, rfl, mul_ok (.inl ⟨by omega, by omega⟩), some (.int n), ?_, rfl⟩
      rw [take_more hn, prodS_snoc]
      rfl
    · rintro σ H2 ⟨y, rfl, rfl⟩
      rw [List.length_map, List.take_length]
      exact ⟨_, rfl, k⟩
def dims1 : List (List Int) := [[1], [2], [3], [4], [5], [6], [7], [8], [9], [2, 2], [3, 2], [2, 3], [1, 5], [2, 4], [3, 3], [10], [12]]
def dims2 : List (List Int) := [[3, 4], [2, 2, 3], [15], [16], [3, 5], [2, 8], [6, 3], [20], [21], [4, 5], [25], [5, 5], [27]]
def dims3 : List (List Int) := [[3, 3, 3], [28], [6, 6], [45], [3, 15], [2, 3, 5], [7, 3], [3, 2, 1, 4]]
def dimsL : List (List Int) := ((dims1 ++ dims2) ++ [[9, 3]]) ++ dims3
theorem dims_ok : ∀ ns ∈ dimsL, (ns ≠ [] ∧ ns.length ≤ 4 ∧ (∀ n ∈ ns, 1 ≤ n) ∧ prodL ns ≤ 10 ^ 9) := by decide +kernel
def sp_law_dims : Sp := fun vs H Q _ => ∃ (s : Addr) (b : Int), vs = [.ref s, .int b] ∧ Src H s ∧ 1 ≤ b ∧ ∀ (q : Addr) (ns : List Int) H2, H q = none → H2 q = some (.lst (ns.map V.int)) → SzOk ns → prodL ns ≤ b → XB s H H2 → Src H2 s → Q (.ref q) H2
theorem ok_law_dims (T : TX K mg) : FnOk P w K mg base CX0 4 T.f_law_dims T.fd_law_dims ["_law_source_here", "_law_bound"] sp_law_dims := by
  refine T.F_law_dims.ok sc_law_dims (fun vs H Q E h => ?_) (fun cdv A outer s H vs Q E hr h => ?_)
  · obtain ⟨s, b, rfl, _⟩ := h
    rfl
  · obtain ⟨s, b, rfl, hs, b1, k⟩ := h
    refine ⟨_, (pss_cons (ps_set (i := 2) sc_law_dims.nd rfl (Or.inl rfl) (pe_lst (pa_cons (pe_lst (pa_cons pe_int pa_nil)) (pa_cons (pe_lst (pa_cons pe_int pa_nil)) (pa_cons (pe_lst (pa_cons pe_int pa_nil)) (pa_cons (pe_lst (pa_cons pe_int pa_nil)) (pa_cons (pe_lst (pa_cons pe_int pa_nil)) (pa_cons (pe_lst (pa_cons pe_int pa_nil)) (pa_cons (pe_lst (pa_cons pe_int pa_nil)) (pa_cons (pe_lst (pa_cons pe_int pa_nil)) (pa_cons (pe_lst (pa_cons pe_int pa_nil)) (pa_cons (pe_lst (pa_cons pe_int (pa_cons pe_int pa_nil))) (pa_cons (pe_lst (pa_cons pe_int (pa_cons pe_int pa_nil))) (pa_cons (pe_lst (pa_cons pe_int (pa_cons pe_int pa_nil))) (pa_cons (pe_lst (pa_cons pe_int (pa_cons pe_int pa_nil))) (pa_cons (pe_lst (pa_cons pe_int (pa_cons pe_int pa_nil))) (pa_cons (pe_lst (pa_cons pe_int (pa_cons pe_int pa_nil))) (pa_cons (pe_lst (pa_cons pe_int pa_nil)) (pa_cons (pe_lst (pa_cons pe_int pa_nil)) pa_nil))))))))))))))))))) (pss_cons (ps_set (i := 2) sc_law_dims.nd rfl (Or.inl rfl) (pe_op (r := rCatR K) op_catR (pv 2) (pe_lst (pa_cons (pe_lst (pa_cons pe_int (pa_cons pe_int pa_nil))) (pa_cons (pe_lst (pa_cons pe_int (pa_cons pe_int (pa_cons pe_int pa_nil)))) (pa_cons (pe_lst (pa_cons pe_int pa_nil)) (pa_cons (pe_lst (pa_cons pe_int pa_nil)) (pa_cons (pe_lst (pa_cons pe_int (pa_cons pe_int pa_nil))) (pa_cons (pe_lst (pa_cons pe_int (pa_cons pe_int pa_nil))) (pa_cons (pe_lst (pa_cons pe_int (pa_cons pe_int pa_nil))) (pa_cons (pe_lst (pa_cons pe_int pa_nil)) (pa_cons (pe_lst (pa_cons pe_int pa_nil)) (pa_cons (pe_lst (pa_cons pe_int (pa_cons pe_int pa_nil))) (pa_cons (pe_lst (pa_cons pe_int pa_nil)) (pa_cons (pe_lst (pa_cons pe_int (pa_cons pe_int pa_nil))) (pa_cons (pe_lst (pa_cons pe_int pa_nil)) pa_nil)))))))))))))))) (pss_cons (ps_expr (pe_bm PySem.F.plainAttrs_list PySem.F.slot_list_append PySem.F.type_list_append mt_append (pv 2) (pa_cons (pe_lst (pa_cons pe_int (pa_cons pe_int pa_nil))) pa_nil))) (pss_cons (ps_set (i := 2) sc_law_dims.nd rfl (Or.inl rfl) (pe_op (r := rCatR K) op_catR (pv 2) (pe_lst (pa_cons (pe_lst (pa_cons pe_int (pa_cons pe_int (pa_cons pe_int pa_nil)))) (pa_cons (pe_lst (pa_cons pe_int pa_nil)) (pa_cons (pe_lst (pa_cons pe_int (pa_cons pe_int pa_nil))) (pa_cons (pe_lst (pa_cons pe_int pa_nil)) (pa_cons (pe_lst (pa_cons pe_int (pa_cons pe_int pa_nil))) (pa_cons (pe_lst (pa_cons pe_int (pa_cons pe_int (pa_cons pe_int pa_nil)))) (pa_cons (pe_lst (pa_cons pe_int (pa_cons pe_int pa_nil))) (pa_cons (pe_lst (pa_cons pe_int (pa_cons pe_int (pa_cons pe_int (pa_cons pe_int pa_nil))))) pa_nil))))))))))) (pss_one (ps_ret (pe_call (ok_law_choice T) hr rfl T.m_law_choice T.F_law_choice.kp T.b_law_choice .nil pass0 (pa_cons (pv 0) (pa_cons (pe_lc (own := [("_law_dims_here", 3)]) (g := (gName 3)) rfl sc_law_dims.nd (pi_list (pv 2)) (blkOk_by (N := N_law_dims) (sc := defScope s_law_dims) (by decide +kernel)) (fun _ _ _ _ _ => (pg_name (i := 3) sc_law_dims.nd rfl (Or.inl rfl))) (fun _ _ _ _ _ => (pts_one (pt_cmpR op_le (pe_call (ok_law_total T) (hr.mono (by decide)) rfl T.m_law_total T.F_law_total.kp T.b_law_total .nil pass0 (pa_cons (pv 3) pa_nil)) (pv 1) (nomark _)))) (fun _ _ _ _ _ => (pv 3))) pa_nil))))))))), ?_⟩
    refine seq_asg ?_
    refine rows_lst (rows := dims1) ?_ (by decide) fun q1 xs1 H1 e1 nq1 hq1 lr1 nr1 => ?_
    · unfold dims1
      repeat (first | exact RowsD.nil | refine RowsD.cons (fun _ _ _ h => h) (by decide) (by simp) ?_)
    dsimp only [gName]
    refine ⟨_, rfl, ?_⟩
    show tLst _ _ _ _
    refine rows_lst (rows := dims2) ?_ (by decide) fun q2 xs2 H2 e2 nq2 hq2 lr2 nr2 => ?_
    · unfold dims2
      repeat (first | exact RowsD.nil | refine RowsD.cons (fun _ _ _ h => h) (by decide) (by simp) ?_)
    refine ⟨q1, q2, xs1, xs2, rfl, rfl, SqL.of (e2 _ _ hq1), SqL.of hq2, ?_, ?_⟩
    · rw [lr1.len, lr2.len]
      exact slen (by decide)
    (intro q3 nq3; generalize hGq3 : upd _ q3 _ = H3; have eH3 := exG hGq3 nq3; have hq3 := atG hGq3; clear hGq3)
    have lr3 := LRows.app (lr1.mono (ext e2 eH3)) (lr2.mono eH3)
    have nr3 : ∀ r, V.ref r ∈ xs1 ++ xs2 → H r = none := fun r hr => by
      rcases List.mem_append.mp hr with h | h
      · exact nr1 r h
      · exact Evl.fresh_back e1 (nr2 r h)
    have E3 : Ex H H3 := ext e1 (ext e2 eH3)
    have nq30 : H q3 = none := Evl.fresh_back (ext e1 e2) nq3
    generalize xs1 ++ xs2 = ys at *
    refine ⟨_, rfl, .inl ⟨rfl, _, SqL.of hq3⟩, slen rfl, ?_⟩
    (intro u nu; generalize hGu : upd _ u _ = H4; have eH4 := exG hGu nu; have hu := atG hGu; clear hGu)
    have ly : ys.length = 30 := by rw [lr3.len]; rfl
    have hq4 := eH4 _ _ hq3
    refine ⟨q3, _, _, rfl, rfl, hq4, by rw [ly]; decide, ?_⟩
    have lr4 := lr3.mono eH4
    have hu9 : H4 u = some (.lst (([9, 3] : List Int).map V.int)) := hu
    have lr5 : LRows (upd H4 q3 (.lst (ys ++ [.ref u]))) (ys ++ [.ref u]) ((dims1 ++ dims2) ++ [[9, 3]]) := LRows.snoc (by rw [upd_ne (LRows.ne hq4 lr4 hu9 (by simp))]; exact hu9) (by simp) (lr4.upd hq4 lr4)
    have hq5 : upd H4 q3 (.lst (ys ++ [.ref u])) q3 = some (.lst (ys ++ [.ref u])) := upd_same
    have E5 : Ex H (upd H4 q3 (.lst (ys ++ [.ref u]))) := ex_upd (ext E3 eH4) nq30
    have nr5 : ∀ r, V.ref r ∈ ys ++ [.ref u] → H r = none := fun r hr => by
      rcases List.mem_append.mp hr with h | h
      · exact nr3 r h
      · cases List.mem_singleton.mp h
        exact Evl.fresh_back E3 nu
    have ly5 : (ys ++ [V.ref u]).length = 31 := by rw [List.length_append, ly]; rfl
    generalize upd H4 q3 (.lst (ys ++ [.ref u])) = H5 at *
    generalize ys ++ [V.ref u] = zs at *
    refine ⟨_, rfl, ?_⟩
    show tLst _ _ _ _
    refine rows_lst (rows := dims3) ?_ (by decide) fun q6 xs6 H6 e6 nq6 hq6 lr6 nr6 => ?_
    · unfold dims3
      repeat (first | exact RowsD.nil | refine RowsD.cons (fun _ _ _ h => h) (by decide) (by simp) ?_)
    refine ⟨q3, q6, zs, xs6, rfl, rfl, SqL.of (e6 _ _ hq5), SqL.of hq6, ?_, ?_⟩
    · rw [ly5, lr6.len]
      exact slen (by decide)
    (intro q7 nq7; generalize hGq7 : upd _ q7 _ = H7; have eH7 := exG hGq7 nq7; have hq7 := atG hGq7; clear hGq7)
    have lr7 : LRows H7 (zs ++ xs6) dimsL := LRows.app (lr5.mono (ext e6 eH7)) (lr6.mono eH7)
    have E7 : Ex H H7 := ext E5 (ext e6 eH7)
    have nr7 : ∀ r, V.ref r ∈ zs ++ xs6 → H r = none := fun r hr => by
      rcases List.mem_append.mp hr with h | h
      · exact nr5 r h
      · exact Evl.fresh_back E5 (nr6 r h)
    generalize zs ++ xs6 = vs at *
    have lv : vs.length = 39 := lr7.len.trans (by decide +kernel)
    dsimp only [gName]
    refine ⟨_, rfl, _, rfl, q7, rfl, ⟨_, SqL.of hq7⟩, fun D hD => ?_⟩
    refine lc_filt (walk_list (xs := vs)) (vs.zip dimsL) (fun z => decide (prodL z.2 ≤ b)) (fun z => z.1) (by rw [List.length_zip, lv]; decide +kernel) (by omega) hD (fun Hx ex => SqL.of (ex _ _ hq7)) ?_ ?_
    · rintro i x ⟨z1, z2⟩ _ Hx R S hz ex ⟨rfl, hx⟩ kR kS
      obtain ⟨hz1, hz2⟩ := zip_at2 hz
      obtain ⟨o, r, hp, rfl, hr2, _⟩ := lr7.get hx
      obtain rfl : o = z2 := Option.some.inj (hp.symm.trans hz2)
      obtain rfl : V.ref r = z1 := Option.some.inj (hx.symm.trans hz1)
      obtain ⟨_, _, d3, d4⟩ := dims_ok o (List.mem_of_getElem? hp)
      refine ⟨rfl, _, rfl, r, o, rfl, ex _ _ hr2, d3, d4, _, rfl, _, _, rfl, rfl, _, rfl, ?_⟩
      by_cases c : prodL o ≤ b
      · exact itt (decide_eq_true c) ⟨_, rfl, kR _ _ exr (decide_eq_true c) rfl⟩
      · exact itf (decide_eq_false c) (kS _ exr (decide_eq_false c))
    intro H8 e8 hD8
    have lr8 : LRows H8 (((vs.zip dimsL).filter fun z => decide (prodL z.2 ≤ b)).map fun z => z.1) (dimsL.filter fun z => decide (prodL z ≤ b)) := LRows.filt (fun z => decide (prodL z ≤ b)) (lr7.mono e8)
    have sub8 : ∀ x ∈ ((vs.zip dimsL).filter fun z => decide (prodL z.2 ≤ b)).map fun z => z.1, x ∈ vs := fun x hx => by
      obtain ⟨z, hz, rfl⟩ := List.mem_map.mp hx
      exact (List.of_mem_zip (List.mem_filter.mp hz).1).1
    have l8 : (((vs.zip dimsL).filter fun z => decide (prodL z.2 ≤ b)).map fun z => z.1).length ≤ 39 := by
      rw [List.length_map]
      refine Nat.le_trans (List.length_filter_le _ _) ?_
      rw [List.length_zip, lv]
      exact Nat.min_le_left _ _
    have ne8 : (((vs.zip dimsL).filter fun z => decide (prodL z.2 ≤ b)).map fun z => z.1) ≠ [] := fun h => by
      rw [h] at lr8
      have : ([1] : List Int) ∈ dimsL.filter fun z => decide (prodL z ≤ b) := List.mem_filter.mpr ⟨by decide +kernel, decide_eq_true (by show (1 : Int) ≤ b; exact b1)⟩
      have h2 : (dimsL.filter fun z => decide (prodL z ≤ b)) = [] := List.eq_nil_of_length_eq_zero lr8.len.symm
      rw [h2] at this
      cases this
    generalize (((vs.zip dimsL).filter fun z => decide (prodL z.2 ≤ b)).map fun z => z.1) = us at *
    have E8 := ext E7 e8
    have nDs : D ≠ s := (hs.mono E7).ne hD
    refine ⟨s, D, us, rfl, hs.mono E8, hD8, nDs, ne8, by omega, fun v H9 hv xb src => ?_⟩
    obtain ⟨r, ks, rfl, hk, hr8⟩ := lr8.mem hv
    obtain ⟨hk1, hk2⟩ := List.mem_filter.mp hk
    obtain ⟨d1, d2, d3, d4⟩ := dims_ok ks hk1
    have nr := nr7 r (sub8 _ hv)
    exact k r ks H9 nr (xb _ _ (hs.ne nr) hr8) ⟨d1, d2, d3⟩ (of_decide_eq_true hk2) ((XB.of E8).trans xb) src
end

section
variable {P : Program} {w : World} {K : PySem.W.Frag} {mg : Str → Option Value} {base : Heap}
def sp_law_moved : Sp := fun vs H Q _ => ∃ (t s c : Addr) (f : Int) (ns ps cs : List Int), vs = [.ref t, .ref s, .ref c, .int f] ∧ H t = some (.lst (ns.map V.int)) ∧ SzOk ns ∧ H s = some (.tup (ps.map V.int)) ∧ H c = some (.tup (cs.map V.int)) ∧ ps.length = ns.length ∧ cs.length = ns.length ∧ (f = 1 ∨ f = -1) ∧
  ∀ H2 q, Ex H H2 → H q = none → H2 q = some (.tup ((shiftL ns ps cs f).map V.int)) → Q (.ref q) H2
theorem ok_law_moved (T : TX K mg) : FnOk P w K mg base CX0 1 T.f_law_moved T.fd_law_moved ["_law_dims_here", "_law_spot", "_law_hop", "_law_factor"] sp_law_moved := by
  refine T.F_law_moved.ok sc_law_moved (fun vs H Q E h => ?_) (fun cdv A outer s H vs Q E hr h => ?_)
  · obtain ⟨t, s, c, f, ns, ps, cs, rfl, _⟩ := h
    rfl
  · obtain ⟨t, s, c, f, ns, ps, cs, rfl, ht, ok, hs, hc, lp, lc, hf, k⟩ := h
    have l4 := ok.le
    refine ⟨_, (pss_one (ps_ret (pe_callTy call_tuple_of (by rfl) T.z_tuple (by decide +kernel) (pa_cons (pe_lc (own := [("_law_place", 4), ("_law_one", 5), ("_law_size", 6)]) (g := (gTup K 3 (gCons (gName 4) (gCons (gName 5) (gCons (gName 6) gNil))))) rfl sc_law_moved.nd (CZ.pi_z3 (fl := [true, true, false]) rfl (by rfl) T.z_zip (pa_cons (pv 1) (pa_cons (pv 2) (pa_cons (pv 0) pa_nil)))) (blkOk_by (N := N_law_moved) (sc := defScope s_law_moved) (by decide +kernel)) (fun _ _ _ _ _ => (pg_tup rfl (pgs_cons (pg_name (i := 4) sc_law_moved.nd rfl (Or.inl rfl)) (pgs_cons (pg_name (i := 5) sc_law_moved.nd rfl (Or.inl rfl)) (pgs_cons (pg_name (i := 6) sc_law_moved.nd rfl (Or.inl rfl)) pgs_nil))))) (fun _ _ _ _ _ => pts_nil) (fun _ _ _ _ _ => (pe_op op_mod (pe_op op_add (pv 4) (pe_op op_mulI (pv 3) (pv 5))) (pv 6)))) pa_nil)))), ?_⟩
    refine ⟨_, rfl, _, rfl, _, rfl, [s, c, t], rfl, rfl, all3 (sqT hs) (sqT hc) (sqL ht), fun D hD => ?_⟩
    have ls : (shiftL ns ps cs f).length = ns.length := shift_len lp lc
    refine lc_vals (CZ.walk_rows (xss := [ps.map V.int, cs.map V.int, ns.map V.int]) (n := ns.length) (lens3 (by rw [List.length_map, lp]) (by rw [List.length_map, lc]) (by rw [List.length_map]))) ((shiftL ns ps cs f).map V.int) (by rw [List.length_map, ls]) (by omega) hD (fun H3 e => .cons (SqT.of (e _ _ hs)) (.cons (SqT.of (e _ _ hc)) (.cons (SqL.of (e _ _ ht)) .nil))) ?_ (gmono_tup (gmono_cons gmono_name (gmono_cons gmono_name (gmono_cons gmono_name gmono_nil)))) ?_
    · intro i y H3 H4 R hi e yy kk
      obtain ⟨Ta, p, d, n, rfl, hT, rfl, hp, hd, hn⟩ := yints3 yy
      have n1 := ok.one n (List.mem_of_getElem? hn)
      refine ⟨Ta, _, rfl, SqT.of upd_same, rfl, _, _, rfl, _, _, rfl, _, _, rfl, rfl, rfl, ?_⟩
      refine ⟨_, rfl, _, rfl, _, rfl, _, _, rfl, rfl, mul_ok (.inl (by rcases hf with e | e <;> rw [e] <;> decide)), _, _, rfl, rfl, _, rfl, _, _, rfl, rfl, (by show (0 : Int) < n; omega), ?_⟩
      refine kk _ _ (exn hT) ?_
      rw [List.getElem?_map, shift_get hn hp hd]
      rfl
    · intro H3 e hD3
      exact ⟨D, _, rfl, .inl ⟨SqL.of hD3, fun q hq => k _ q (fun b o z => exn hq b o (e b o z)) (Evl.fresh_back e hq) upd_same⟩⟩
end

/-- .. also without targets -/
def UpZ (ns : List Int) (tss : List (List Int)) (fs : List (List Int × Nat)) (r : Nat) : Prop := (tss ≠ [] ∧ UpTo ns tss fs r) ∨ (tss = [] ∧ fs = [])
theorem counts_nil (ns : List Int) : countsL ns [] = [] := by
  unfold countsL
  rw [show (allS ns).length + 2 = (allS ns).length + 1 + 1 from rfl]
  unfold roundsL
  rw [if_pos rfl]
  rfl
theorem lawNew_nil (ns : List Int) : lawNew ns [] = [] := by
  unfold lawNew joinL tryL hasL
  refine List.filter_eq_nil_iff.mpr fun p _ => ?_
  simp [dep]
section
variable {ns : List Int} {tss : List (List Int)} {fs : List (List Int × Nat)} {r : Nat}
theorem UpZ.start (sks : ∀ t ∈ tss, SeatOk ns t) (nod : tss.Nodup) : UpZ ns tss (atD 0 tss) 0 := by
  by_cases c : tss = []
  · exact .inr ⟨c, by rw [c]; rfl⟩
  · exact .inl ⟨c, UpTo.start sks nod c⟩
theorem UpZ.step (u : UpZ ns tss fs r) (sks : ∀ t ∈ tss, SeatOk ns t) (nod : tss.Nodup) : UpZ ns tss (fs ++ atD (r + 1) (lawNew ns fs)) (r + 1) := by
  rcases u with ⟨c, u⟩ | ⟨c, rfl⟩
  · exact .inl ⟨c, u.step (counts_least sks nod c)⟩
  · exact .inr ⟨c, by rw [lawNew_nil]; rfl⟩
theorem UpZ.done (u : UpZ ns tss fs r) (sks : ∀ t ∈ tss, SeatOk ns t) (nod : tss.Nodup) (h : lawNew ns fs = []) (p : List Int) : dep fs p = dep (countsL ns tss) p := by
  rcases u with ⟨c, u⟩ | ⟨rfl, rfl⟩
  · exact u.done (counts_least sks nod c) h p
  · rw [counts_nil]
theorem UpZ.nod (u : UpZ ns tss fs r) : (keysL fs).Nodup := by
  rcases u with ⟨_, u⟩ | ⟨_, rfl⟩
  · exact u.nod
  · exact .nil
theorem UpZ.len (u : UpZ ns tss fs r) : fs.length ≤ (allS ns).length := by
  rcases u with ⟨_, u⟩ | ⟨_, rfl⟩
  · exact u.len
  · exact Nat.zero_le _
theorem lawNew_out {p : List Int} (h : p ∈ lawNew ns fs) : p ∉ keysL fs := fun z => by
  unfold lawNew joinL at h
  have h2 := (List.mem_filter.mp h).2
  rw [Bool.and_eq_true] at h2
  have h3 := h2.1
  unfold hasL at h3
  rw [dep_isSome, decide_eq_true z] at h3
  cases h3
end

theorem try_snoc (ns : List Int) (fs : List (List Int × Nat)) (ds : List (List Int)) (d p : List Int) : tryL ns fs (ds ++ [d]) p = (tryL ns fs ds p || (hasL fs (shiftL ns p d 1) && hasL fs (shiftL ns p d (-1)))) := by
  unfold tryL
  rw [List.any_append]
  simp

section
variable {P : Program} {w : World} {K : PySem.W.Frag} {mg : Str → Option Value} {base : Heap}
def sp_law_has_hop : Sp := fun vs H Q _ => ∃ (l E s D : Addr) (ns p : List Int) (fs : List (List Int × Nat)), vs = [.ref l, .ref E, .ref s, .ref D] ∧ H l = some (.lst (ns.map V.int)) ∧ SzOk ns ∧ prodL ns ≤ 300 ∧ RowsAt H E (allS ns) ∧ H s = some (.tup (p.map V.int)) ∧ SeatOk ns p ∧ CntAt H D fs ∧ ∀ H2, Ex H H2 → Q (.bl (tryL ns fs (allS ns) p)) H2
theorem ok_law_has_hop (T : TX K mg) : FnOk P w K mg base CX0 2 T.f_law_has_hop T.fd_law_has_hop ["_law_dims_here", "_law_every", "_law_spot", "_law_known"] sp_law_has_hop := by
  refine T.F_law_has_hop.ok sc_law_has_hop (fun vs H Q E h => ?_) (fun cdv A outer s H vs Q E hr h => ?_)
  · obtain ⟨l, E, s, D, ns, p, fs, rfl, _⟩ := h
    rfl
  · obtain ⟨l, Ev, s, D, ns, p, fs, rfl, hl, ok, pr, ⟨xs, hE, rr⟩, hs, sk, hc, k⟩ := h
    refine ⟨_, (pss_cons (ps_for PassesOwn.never rfl (pi_list (pv 1)) (pg_name (i := 4) sc_law_has_hop.nd rfl (Or.inl rfl)) (pss_one (ps_if (PW.pt (pw_and (pt_cmp (pc_din (hu_of hr) (pe_call (ok_law_moved T) hr rfl T.m_law_moved T.F_law_moved.kp T.b_law_moved .nil pass0 (pa_cons (pv 0) (pa_cons (pv 2) (pa_cons (pv 4) (pa_cons pe_int pa_nil))))) (pv 3))) (pw_and1 (pt_cmp (pc_din (hu_of hr) (pe_call (ok_law_moved T) hr rfl T.m_law_moved T.F_law_moved.kp T.b_law_moved .nil pass0 (pa_cons (pv 0) (pa_cons (pv 2) (pa_cons (pv 4) (pa_cons (pe_un un_neg pe_int) pa_nil))))) (pv 3)))))) (pss_one (ps_ret pe_bl)) pss_nil))) (pss_one (ps_ret pe_bl))), ?_⟩
    have lx : xs.length = (allS ns).length := Paired.length rr
    refine ⟨_, rfl, Ev, rfl, ⟨_, SqL.of hE⟩, ?_⟩
    refine for_it (walk_list (xs := xs)) (fun i σ Hx => ∃ y : Option V, σ = [some (.ref l), some (.ref Ev), some (.ref s), some (.ref D), y] ∧ Ex H Hx ∧ tryL ns fs ((allS ns).take i) p = false) ⟨_, rfl, exr, rfl⟩ (fun i σ Hx _ ⟨_, _, e, _⟩ => SqL.of (e _ _ hE)) ?_ ?_
    · rintro i x σ _ Hx hi ⟨y, rfl, ex, hf⟩ ⟨rfl, hx⟩
      obtain ⟨o, r, ho, rfl, hr2⟩ := rr.get hx
      have so := mem_allS.mp (List.mem_of_getElem? ho)
      dsimp only [gName]
      have et : tryL ns fs ((allS ns).take (i + 1)) p = (hasL fs (shiftL ns p o 1) && hasL fs (shiftL ns p o (-1))) := by
        rw [take_more ho, try_snoc, hf, Bool.false_or]
      refine ⟨_, rfl, _, rfl, _, rfl, l, s, r, 1, ns, p, o, rfl, ex _ _ hl, ok, ex _ _ hs, ex _ _ hr2, sk.len, so.len, .inl rfl, fun H5 q e5 nq hq => ⟨_, rfl, D, _, rfl, cnt_get (hc.mono (ext ex e5)) hq, _, rfl, ?_⟩⟩
      rw [Option.isSome_map]
      have E5 := ext ex e5
      by_cases a1 : hasL fs (shiftL ns p o 1) = true
      · refine itt a1 ?_
        refine ⟨_, rfl, _, rfl, _, rfl, _, rfl, l, s, r, -1, ns, p, o, rfl, E5 _ _ hl, ok, E5 _ _ hs, E5 _ _ hr2, sk.len, so.len, .inr rfl, fun H6 q6 e6 nq6 hq6 => ⟨_, rfl, D, _, rfl, cnt_get (hc.mono (ext E5 e6)) hq6, _, rfl, ?_⟩⟩
        rw [Option.isSome_map]
        by_cases a2 : hasL fs (shiftL ns p o (-1)) = true
        · refine itt a2 ?_
          have : tryL ns fs (allS ns) p = true := by
            unfold tryL
            exact List.any_eq_true.mpr ⟨o, List.mem_of_getElem? ho, by rw [a1, a2]; rfl⟩
          rw [this] at k
          exact k _ (ext E5 e6)
        · refine itf (Bool.eq_false_iff.mpr a2) ⟨_, rfl, ext E5 e6, ?_⟩
          rw [et, a1]
          simpa using a2
      · refine itf (Bool.eq_false_iff.mpr a1) ⟨_, rfl, E5, ?_⟩
        rw [et]
        have : hasL fs (shiftL ns p o 1) = false := by simpa using a1
        rw [this]
        rfl
    · rintro σ Hx ⟨y, rfl, ex, hf⟩
      rw [List.take_of_length_le (by omega)] at hf
      rw [hf] at k
      exact k _ ex
def sp_law_depths : Sp := fun vs H Q _ => ∃ (l g : Addr) (ns : List Int) (tss : List (List Int)), vs = [.ref l, .ref g] ∧ H l = some (.lst (ns.map V.int)) ∧ SzOk ns ∧ prodL ns ≤ 300 ∧ RowsAt H g tss ∧ (∀ ts ∈ tss, SeatOk ns ts) ∧ tss.Nodup ∧
  ∀ d H2 fs, Ex H H2 → H d = none → CntAt H2 d fs → (∀ p, dep fs p = dep (countsL ns tss) p) → fs.length ≤ 300 → Q (.ref d) H2
theorem ok_law_depths (T : TX K mg) : FnOk P w K mg base CX0 3 T.f_law_depths T.fd_law_depths ["_law_dims_here", "_law_goals"] sp_law_depths := by
  refine T.F_law_depths.ok sc_law_depths (fun vs H Q E h => ?_) (fun cdv A outer s H vs Q E hr h => ?_)
  · obtain ⟨l, g, ns, tss, rfl, _⟩ := h
    rfl
  · obtain ⟨l, g, ns, tss, rfl, hl, ok, pr, ⟨xs, hg, rr⟩, sks, nod, k⟩ := h
    refine ⟨_, (pss_cons (ps_set (i := 2) sc_law_depths.nd rfl (Or.inl rfl) pe_dnewT) (pss_cons (ps_for PassesOwn.never rfl (pi_list (pv 1)) (pg_name (i := 3) sc_law_depths.nd rfl (Or.inl rfl)) (pss_one (ps_dput (hu_of hr) (pv 2) (pv 3) pe_int (by rfl)))) (pss_cons (ps_set (i := 4) sc_law_depths.nd rfl (Or.inl rfl) (pe_call (ok_law_spots T) (hr.mono (by decide)) rfl T.m_law_spots T.F_law_spots.kp T.b_law_spots .nil pass0 (pa_cons (pv 0) pa_nil))) (pss_cons (ps_set (i := 5) sc_law_depths.nd rfl (Or.inl rfl) pe_int) (pss_cons (ps_set (i := 6) sc_law_depths.nd rfl (Or.inl rfl) pe_bl) (pss_cons (ps_while PassesOwn.never (pt_val (pv 6)) (pss_cons (ps_set (i := 5) sc_law_depths.nd rfl (Or.inl rfl) (pe_op op_add (pv 5) pe_int)) (pss_cons (ps_set (i := 7) sc_law_depths.nd rfl (Or.inl rfl) (pe_lst pa_nil)) (pss_cons (ps_for PassesOwn.never rfl (pi_list (pv 4)) (pg_name (i := 8) sc_law_depths.nd rfl (Or.inl rfl)) (pss_one (ps_if (PW.pt (pw_and (pt_cmp (pc_dnotin (hu_of hr) (pv 8) (pv 2))) (pw_and1 (pt_val (pe_call (ok_law_has_hop T) hr rfl T.m_law_has_hop T.F_law_has_hop.kp T.b_law_has_hop .nil pass0 (pa_cons (pv 0) (pa_cons (pv 4) (pa_cons (pv 8) (pa_cons (pv 2) pa_nil))))))))) (pss_one (ps_expr (pe_bm PySem.F.plainAttrs_list PySem.F.slot_list_append PySem.F.type_list_append mt_append (pv 7) (pa_cons (pv 8) pa_nil)))) pss_nil))) (pss_cons (ps_for PassesOwn.never rfl (pi_list (pv 7)) (pg_name (i := 8) sc_law_depths.nd rfl (Or.inl rfl)) (pss_one (ps_dput (hu_of hr) (pv 2) (pv 8) (pv 5) (by rfl)))) (pss_one (ps_set (i := 6) sc_law_depths.nd rfl (Or.inl rfl) (pe_cmpR (r := rNeD K) (op_neD hr.units) (pv 7) (pe_lst pa_nil) (nomark _))))))))) (pss_one (ps_ret (pv 2))))))))), ?_⟩
    have lt := seats_len ok pr nod sks
    have lx : xs.length = tss.length := Paired.length rr
    have lA : (allS ns).length ≤ 300 := by have := allS_len ok.one; omega
    refine (fun D hD => ?_)
    generalize hG0 : upd H D _ = H0
    have e0 := exG hG0 hD
    have hD0 : CntAt H0 D (atD 0 (tss.take 0)) := atG hG0
    clear hG0
    refine ⟨_, rfl, g, rfl, ⟨_, SqL.of (e0 _ _ hg)⟩, ?_⟩
    refine for_it (walk_list (xs := xs)) (fun i σ Hx => (∃ y3 : Option V, σ = [some (.ref l), some (.ref g), some (.ref D), y3, none, none, none, none, none]) ∧ Ex H Hx ∧ CntAt Hx D (atD 0 (tss.take i))) ⟨⟨_, rfl⟩, e0, hD0⟩ (fun i σ Hx _ p => SqL.of (p.2.1 _ _ hg)) ?_ ?_
    · rintro i x σ _ Hx hi ⟨⟨y3, rfl⟩, ex, hc⟩ ⟨rfl, hx⟩
      obtain ⟨ts, r, hts, rfl, hr2⟩ := rr.get hx
      have hn : ts ∉ tss.take i := nodup_take nod hts
      dsimp only [gName]
      refine ⟨_, rfl, _, rfl, D, _, rfl, DPut.t hc (k := entK ts) (by rw [entK_kV]; exact ex _ _ hr2) ?_, ⟨_, rfl⟩, ex_upd ex hD, ?_⟩
      · rw [List.length_map, List.length_map, List.length_take]
        exact Nat.lt_of_le_of_lt (show _ ≤ 1000 by omega) (by decide)
      · show upd _ _ _ _ = _
        rw [upd_same, putK_new _ (by rw [val_ent, dep_none (by rw [keys_atD]; exact hn)]; rfl), take_more hts, atD_snoc, List.map_append]
        rfl
    rintro σ H1 ⟨⟨y3, rfl⟩, e1, hc1⟩
    rw [List.take_of_length_le (by omega)] at hc1
    dsimp only [gName]
    refine ⟨_, rfl, l, ns, rfl, e1 _ _ hl, ok, pr, fun Ev H2 e2 nEv ⟨ys, hEv, rs⟩ => ?_⟩
    have ly : ys.length = (allS ns).length := Paired.length rs
    have hc2 := hc1.mono e2
    have E2 := ext e1 e2
    have nED : Ev ≠ D := fun z => by rw [z] at hEv; exact absurd (hc2.symm.trans hEv) (by intro z; cases z)
    dsimp only [gName]
    refine ⟨fun m σ Hx => ∃ (fs : List (List Int × Nat)) (r : Nat) (gr : Bool) (y3 y7 y8 : Option V), σ = [some (.ref l), some (.ref g), some (.ref D), y3, some (.ref Ev), some (.int (r : Int)), some (.bl gr), y7, y8] ∧ Ex H Hx ∧ CntAt Hx D fs ∧ Hx Ev = some (.lst ys) ∧ RowsR Hx ys (allS ns) ∧ UpZ ns tss fs r ∧ (gr = false → lawNew ns fs = []) ∧ (allS ns).length - fs.length + (if gr = true then 1 else 0) = m,
      ⟨_, atD 0 tss, 0, true, _, _, _, rfl, E2, hc2, hEv, rs, UpZ.start sks nod, (fun z => by cases z), rfl⟩, ?_⟩
    rintro m σ Hx ⟨fs, r, gr, y3, y7, y8, rfl, ex, hc, hxe, hxr, U, dn, rfl⟩
    have lf : fs.length ≤ 300 := Nat.le_trans U.len lA
    refine ⟨_, rfl, gr, rfl, ?_⟩
    cases gr with
    | false =>
      exact itf rfl ⟨_, rfl, k D Hx fs ex hD hc (U.done sks nod (dn rfl)) lf⟩
    | true =>
    refine itt rfl ⟨_, fun _ _ h => h, ?_⟩
    refine ⟨_, rfl, _, _, rfl, rfl, ?_⟩
    dsimp only [gName]
    refine ⟨slen rfl, ?_⟩
    (intro N nN; generalize hGN : upd _ N _ = H4; have eH4 := exG hGN nN; have hN := atG hGN; clear hGN)
    dsimp only [gName]
    refine ⟨_, rfl, Ev, rfl, ⟨_, SqL.of (eH4 _ _ hxe)⟩, ?_⟩
    refine for_it (walk_list (xs := ys)) (fun i σ Hy => ∃ y8 : Option V, σ = [some (.ref l), some (.ref g), some (.ref D), y3, some (.ref Ev), some (.int ((r : Int) + 1)), some (.bl true), some (.ref N), y8] ∧ Ex Hx Hy ∧ RowsAt Hy N (((allS ns).take i).filter (joinL ns fs))) ⟨_, rfl, eH4, _, hN, .nil⟩ (fun i σ Hy _ ⟨_, _, e, _⟩ => SqL.of (e _ _ hxe)) ?_ ?_
    · rintro i x σ _ Hy hi ⟨y8, rfl, ey, hNy⟩ ⟨rfl, hx⟩
      obtain ⟨p, rp, hp, rfl, hrp⟩ := hxr.get hx
      have sp := mem_allS.mp (List.mem_of_getElem? hp)
      have hcy := hc.mono ey
      dsimp only [gName]
      refine ⟨_, rfl, _, rfl, D, _, rfl, cnt_get hcy (ey _ _ hrp), _, rfl, ?_⟩
      rw [Option.isSome_map]
      by_cases c : hasL fs p = true
      · refine itf (by show (!hasL fs p) = false; rw [c]; rfl) ⟨_, rfl, ey, ?_⟩
        rw [take_more hp, List.filter_append, show [p].filter (joinL ns fs) = [] by simp [joinL, c], List.append_nil]
        exact hNy
      have cf : hasL fs p = false := by simpa using c
      refine itt (by show (!hasL fs p) = true; rw [cf]; rfl) ?_
      refine ⟨_, rfl, _, rfl, _, rfl, _, rfl, l, Ev, rp, D, ns, p, fs, rfl, ey _ _ (ex _ _ hl), ok, pr, ⟨ys, ey _ _ hxe, hxr.mono ey⟩, ey _ _ hrp, sp, hcy, fun H5 e5 => ?_⟩
      cases ct : tryL ns fs (allS ns) p with
      | false =>
        refine ⟨_, rfl, itf rfl ⟨_, rfl, ext ey e5, ?_⟩⟩
        rw [take_more hp, List.filter_append, show [p].filter (joinL ns fs) = [] by simp [joinL, cf, ct], List.append_nil]
        exact hNy.mono e5
      | true =>
        refine ⟨_, rfl, itt rfl ?_⟩
        obtain ⟨acc, g1, g2, g3⟩ := rows_push (hNy.mono e5) (e5 _ _ (ey _ _ hrp))
        refine ⟨_, rfl, .inl ⟨rfl, _, SqL.of g1⟩, _, rfl, N, _, _, rfl, rfl, g1, ?_, _, rfl, ex_upd (ext ey e5) nN, ?_⟩
        · rw [g2]
          exact Nat.lt_of_le_of_lt (Nat.le_trans (List.length_filter_le _ _) (show _ ≤ 300 by rw [List.length_take]; omega)) (by decide)
        · rw [take_more hp, List.filter_append, show [p].filter (joinL ns fs) = [p] by simp [joinL, cf, ct]]
          exact g3
    rintro σ H5 ⟨y8, rfl, ey, hNy⟩
    rw [List.take_of_length_le (by omega)] at hNy
    replace hNy : RowsAt H5 N (lawNew ns fs) := hNy
    have E5 := ext ex ey
    have hc5 := hc.mono ey
    have hxe5 := ey _ _ hxe
    have hxr5 := hxr.mono ey
    have nwn : (lawNew ns fs).Nodup := (allS_nodup ns).filter _
    have out : ∀ p ∈ lawNew ns fs, p ∉ keysL fs := fun p hp => lawNew_out hp
    have U2 := U.step sks nod
    have lw : (lawNew ns fs).length ≤ 300 := Nat.le_trans (List.length_filter_le _ _) lA
    clear hc hxe hxr ey
    generalize hnw : lawNew ns fs = nw at hNy nwn out U2 lw
    obtain ⟨us, hN5, rn⟩ := hNy
    have lu : us.length = nw.length := Paired.length rn
    dsimp only [gName]
    refine ⟨_, rfl, N, rfl, ⟨_, SqL.of hN5⟩, ?_⟩
    have tp7 : ∀ (Hy : Hp), (∀ c o, c ≠ D → H5 c = some o → Hy c = some o) → ∀ c zs, H5 c = some (.tup zs) → Hy c = some (.tup zs) := fun Hy xy c zs z => xy _ _ (ne_of z hc5 (by intro z; cases z)) z
    have nND : N ≠ D := ne_of hN5 hc5 (by intro z; cases z)
    refine for_it (walk_list (xs := us)) (fun i σ Hy => (∃ y8 : Option V, σ = [some (.ref l), some (.ref g), some (.ref D), y3, some (.ref Ev), some (.int ((r : Int) + 1)), some (.bl true), some (.ref N), y8]) ∧ (∀ c o, c ≠ D → H5 c = some o → Hy c = some o) ∧ Ex H Hy ∧ CntAt Hy D (fs ++ atD (r + 1) (nw.take i))) ⟨⟨_, rfl⟩, fun c o _ z => z, E5, by rw [List.take_zero]; show CntAt _ _ (fs ++ []); rw [List.append_nil]; exact hc5⟩ (fun i σ Hy _ p => SqL.of (p.2.1 _ _ nND hN5)) ?_ ?_
    · rintro i x σ _ Hy hi ⟨⟨y8, rfl⟩, xy, exy, hcy⟩ ⟨rfl, hx⟩
      obtain ⟨p, rq, hp, rfl, hr2⟩ := rn.get hx
      have hn : p ∉ nw.take i := nodup_take nwn hp
      have hk : p ∉ keysL (fs ++ atD (r + 1) (nw.take i)) := fun z => by
        rw [keys_app, keys_atD] at z
        rcases List.mem_append.mp z with z | z
        · exact out p (List.mem_of_getElem? hp) z
        · exact hn z
      dsimp only [gName]
      refine ⟨_, rfl, _, rfl, _, rfl, D, _, rfl, DPut.t hcy (k := entK p) (by rw [entK_kV]; exact tp7 Hy xy _ _ hr2) ?_, ⟨_, rfl⟩, fun c o nc z => by rw [upd_ne nc]; exact xy c o nc z, ex_upd exy hD, ?_⟩
      · rw [List.length_map, List.length_append, List.length_map, List.length_take]
        exact Nat.lt_of_le_of_lt (show _ ≤ 600 by omega) (by decide)
      · show upd _ _ _ _ = _
        rw [upd_same, putK_new _ (by rw [val_ent, dep_none hk]; rfl), take_more hp, atD_snoc, ← List.append_assoc, List.map_append (l₁ := fs ++ _)]
        rfl
    rintro σ H9 ⟨⟨y8, rfl⟩, xy, ex9, hc9⟩
    rw [List.take_of_length_le (by omega)] at hc9
    have hN9 := xy _ _ nND hN5
    have rn9 := rn.monoT (tp7 H9 xy)
    have hxe9 := xy _ _ (ne_of hxe5 hc5 (by intro z; cases z)) hxe5
    have hxr9 := hxr5.monoT (tp7 H9 xy)
    dsimp only [gName]
    refine ⟨_, rfl, slen rfl, ?_⟩
    (intro el nel; generalize hGel : upd _ el _ = H10; have eH10 := exG hGel nel; have hel := atG hGel; clear hGel)
    refine ⟨_, _, .lst (SqL.of (eH10 _ _ hN9)) (rn9.mono eH10).dp, .lst (SqL.of hel) (RowsR.dp (hss := []) .nil), (sh_rows (n := 58) _).ok, (sh_rows (n := 58) []).ok, ?_⟩
    dsimp only [gName]
    have l2 := U2.len
    rw [List.length_append, List.length_map] at l2
    by_cases c : nw = []
    · have e1 : (!PyData.eqv (.list (nw.map iT)) (.list (([] : List (List Int)).map iT))) = false := by rw [c, eqv_refl _ (sh_rows (n := 58) []).1]; rfl
      rw [e1]
      refine ⟨_, ?_, fs ++ atD (r + 1) nw, r + 1, false, _, _, _, rfl, ext ex9 eH10, hc9.mono eH10, eH10 _ _ hxe9, hxr9.mono eH10, U2, fun _ => ?_, rfl⟩
      · rw [if_neg (by decide), if_pos rfl, List.length_append, List.length_map]
        omega
      · rw [c]
        show lawNew ns (fs ++ []) = []
        rw [List.append_nil, hnw, c]
    · have e1 : (!PyData.eqv (.list (nw.map iT)) (.list (([] : List (List Int)).map iT))) = true := eqv_ne' c
      rw [e1]
      have := List.length_pos_iff.mpr c
      refine ⟨_, ?_, fs ++ atD (r + 1) nw, r + 1, true, _, _, _, rfl, ext ex9 eH10, hc9.mono eH10, eH10 _ _ hxe9, hxr9.mono eH10, U2, (fun z => by cases z), rfl⟩
      rw [if_pos rfl, List.length_append, List.length_map]
      omega
end

/-! ### amounts by places, as sum_counts halves them -/
abbrev entZ (x : Int × Int) : Key × V := (Sum.inl x.1, V.int x.2)
def getA (A : List (Int × Int)) (k : Int) : Option Int := (A.find? fun x => decide (x.1 = k)).map fun x => x.2
def putA (A : List (Int × Int)) (k v : Int) : List (Int × Int) := if (A.any fun x => decide (x.1 = k)) = true then A.map (fun x => if x.1 = k then (x.1, v) else x) else A ++ [(k, v)]
def sumA (A : List (Int × Int)) : Int := (A.map fun x => x.2).sum
def momA (A : List (Int × Int)) : Int := (A.map fun x => x.1 * x.2).sum
theorem val_entZ (k : Int) : ∀ A : List (Int × Int), valV (A.map entZ) (.inl k) = (getA A k).map V.int
  | [] => rfl
  | f :: A => by
    have ih := val_entZ k A
    rw [List.map_cons]
    unfold getA at ih ⊢
    rw [List.find?_cons]
    by_cases c : f.1 = k
    · rw [valV_pos (show Sum.inl f.1 = Sum.inl k by rw [c]), decide_eq_true c]
      rfl
    · rw [valV_neg (fun z => c (Sum.inl.inj z)), ih, decide_eq_false c]
theorem put_entZ (A : List (Int × Int)) (k v : Int) : putK (A.map entZ) (.inl k) (V.int v) = (putA A k v).map entZ := by
  have e : ((A.map entZ).any fun kv => decide (kv.1 = (Sum.inl k : Key))) = A.any fun x => decide (x.1 = k) := by
    rw [List.any_map]
    congr 1
    funext x
    show decide ((Sum.inl x.1 : Key) = Sum.inl k) = decide (x.1 = k)
    by_cases c : x.1 = k
    · simp [c]
    · simp [c]
  unfold putK putA
  rw [e]
  by_cases c : (A.any fun x => decide (x.1 = k)) = true
  · rw [if_pos c, if_pos c, List.map_map, List.map_map]
    refine List.map_congr_left fun x _ => ?_
    show (if (Sum.inl x.1 : Key) = Sum.inl k then ((Sum.inl x.1 : Key), V.int v) else (Sum.inl x.1, V.int x.2)) = entZ (if x.1 = k then (x.1, v) else x)
    by_cases h : x.1 = k
    · rw [if_pos h, if_pos (by rw [h])]
    · rw [if_neg h, if_neg fun z => h (Sum.inl.inj z)]
  · rw [if_neg c, if_neg c, List.map_append]
    rfl
theorem any_key (A : List (Int × Int)) (k : Int) : (A.any fun x => decide (x.1 = k)) = true ↔ k ∈ A.map fun x => x.1 := by
  rw [List.any_eq_true, List.mem_map]
  constructor
  · rintro ⟨x, h1, h2⟩
    exact ⟨x, h1, of_decide_eq_true h2⟩
  · rintro ⟨x, h1, h2⟩
    exact ⟨x, h1, decide_eq_true h2⟩
theorem put_sum {k a : Int} : ∀ {A : List (Int × Int)}, (A.map fun x => x.1).Nodup → sumA (putA A k ((getA A k).getD 0 + a)) = sumA A + a ∧ momA (putA A k ((getA A k).getD 0 + a)) = momA A + k * a := by
  intro A nd
  by_cases c : (A.any fun x => decide (x.1 = k)) = true
  · have key : ∀ B : List (Int × Int), (B.map fun x => x.1).Nodup → k ∈ B.map (fun x => x.1) → ∀ v : Int, sumA (B.map fun x => if x.1 = k then (x.1, v) else x) = sumA B + (v - (getA B k).getD 0) ∧ momA (B.map fun x => if x.1 = k then (x.1, v) else x) = momA B + k * (v - (getA B k).getD 0) := fun B => by
      induction B with
      | nil => exact fun _ h => by simp at h
      | cons f B ih =>
        intro nd hm v
        rw [List.map_cons, List.nodup_cons] at nd
        unfold getA sumA momA at ih ⊢
        rw [List.find?_cons]
        by_cases h : f.1 = k
        · have no : ∀ x ∈ B, (if x.1 = k then (x.1, v) else x) = x := fun x hx => by
            rw [if_neg]
            intro z
            exact nd.1 (List.mem_map.mpr ⟨x, hx, z.trans h.symm⟩)
          rw [List.map_cons, if_pos h, List.map_congr_left no, List.map_id', decide_eq_true h]
          simp only [List.map_cons, List.sum_cons, Option.map_some, Option.getD_some]
          rw [h]
          constructor
          · omega
          · rw [Int.mul_sub]
            omega
        · have hm2 : k ∈ B.map fun x => x.1 := by
            rcases List.mem_cons.mp hm with z | z
            · exact absurd z.symm h
            · exact z
          obtain ⟨i1, i2⟩ := ih nd.2 hm2 v
          rw [List.map_cons, if_neg h, decide_eq_false h]
          simp only [List.map_cons, List.sum_cons]
          constructor
          · rw [i1]
            omega
          · rw [i2]
            omega
    obtain ⟨q1, q2⟩ := key A nd ((any_key A k).mp c) ((getA A k).getD 0 + a)
    unfold putA
    rw [if_pos c]
    exact ⟨by rw [q1]; omega, by rw [q2]; congr 1; congr 1; omega⟩
  · have g0 : getA A k = none := by
      unfold getA
      rw [Option.map_eq_none_iff, List.find?_eq_none]
      intro x hx z
      exact c (List.any_eq_true.mpr ⟨x, hx, z⟩)
    unfold putA
    rw [if_neg c, g0]
    unfold sumA momA
    simp
theorem put_keys {A : List (Int × Int)} {k v : Int} (nd : (A.map fun x => x.1).Nodup) : ((putA A k v).map fun x => x.1).Nodup ∧ (∀ x ∈ putA A k v, x.1 = k ∧ x.2 = v ∨ x ∈ A) := by
  unfold putA
  by_cases c : (A.any fun x => decide (x.1 = k)) = true
  · rw [if_pos c]
    constructor
    · rw [List.map_map, show ((fun x : Int × Int => x.1) ∘ fun x => if x.1 = k then (x.1, v) else x) = fun x => x.1 from by
        funext x
        show (if x.1 = k then (x.1, v) else x).1 = x.1
        split <;> rfl]
      exact nd
    · intro x hx
      obtain ⟨y, hy, rfl⟩ := List.mem_map.mp hx
      by_cases h : y.1 = k
      · rw [if_pos h]
        exact .inl ⟨h, rfl⟩
      · rw [if_neg h]
        exact .inr hy
  · rw [if_neg c]
    constructor
    · rw [List.map_append, List.nodup_append]
      refine ⟨nd, by simp, fun a ha b hb z => ?_⟩
      have hb2 : b = k := by simpa using hb
      exact c ((any_key A k).mpr (by rw [← hb2, ← z]; exact ha))
    · intro x hx
      rcases List.mem_append.mp hx with h | h
      · exact .inr h
      · rw [List.mem_singleton.mp h]
        exact .inl ⟨rfl, rfl⟩
theorem getA_mem {A : List (Int × Int)} {k v : Int} (h : getA A k = some v) : (k, v) ∈ A := by
  unfold getA at h
  obtain ⟨x, h1, h2⟩ := Option.map_eq_some_iff.mp h
  have h3 := List.mem_of_find?_eq_some h1
  have h4 := List.find?_some h1
  have h5 : x.1 = k := of_decide_eq_true h4
  rw [← h5, ← h2]
  exact h3
/-- amounts on places of a set: their sum, and their sum weighted by the places -/
structure AOk (n B : Nat) (A : List (Int × Int)) (t m : Int) : Prop where
  nod : (A.map fun x => x.1).Nodup
  ok : ∀ x ∈ A, 0 ≤ x.1 ∧ x.1 < n ∧ B.testBit x.1.toNat = true ∧ 0 ≤ x.2
  sum : sumA A = t
  mom : (n : Int) ∣ momA A - m
theorem AOk.put {n B : Nat} {A : List (Int × Int)} {t m k a : Int} (h : AOk n B A t m) (k0 : 0 ≤ k) (k1 : k < n) (kb : B.testBit k.toNat = true) (a0 : 0 ≤ a) : AOk n B (putA A k ((getA A k).getD 0 + a)) (t + a) (m + k * a) := by
  obtain ⟨s1, s2⟩ := put_sum (k := k) (a := a) h.nod
  obtain ⟨p1, p2⟩ := put_keys (k := k) (v := (getA A k).getD 0 + a) h.nod
  have g0 : 0 ≤ (getA A k).getD 0 := by
    cases e : getA A k with
    | none => exact Int.le_refl _
    | some v => exact (h.ok _ (getA_mem e)).2.2.2
  refine ⟨p1, fun x hx => ?_, by rw [s1, h.sum], ?_⟩
  · rcases p2 x hx with ⟨e1, e2⟩ | hx
    · rw [e1, e2]
      exact ⟨k0, k1, kb, by omega⟩
    · exact h.ok x hx
  · rw [s2]
    exact (congrArg ((n : Int) ∣ ·) (by omega)).mp h.mom
theorem AOk.len {n B : Nat} {A : List (Int × Int)} {t m : Int} (h : AOk n B A t m) : A.length ≤ n := by
  have := List.Nodup.length_le_of_subset h.nod (l₂ := (List.range n).map fun (i : Nat) => (i : Int)) fun p hp => by
    obtain ⟨x, hx, rfl⟩ := List.mem_map.mp hp
    obtain ⟨h1, h2, _⟩ := h.ok x hx
    exact List.mem_map.mpr ⟨x.1.toNat, List.mem_range.mpr (by omega), by omega⟩
  simpa using this
theorem AOk.to {n B : Nat} {A : List (Int × Int)} {t u m r : Int} (h : AOk n B A t m) (e : t = u) (d : (n : Int) ∣ m - r) : AOk n B A u r := ⟨h.nod, h.ok, h.sum.trans e, by
  have := Int.dvd_add h.mom d
  exact (congrArg ((n : Int) ∣ ·) (by omega)).mp this⟩

/-! ### the largest sets that can be avoided -/
def oddsD (n : Int) : List Int := ((List.range ((n - 1) / 2).toNat).map fun (i : Nat) => 3 + (i : Int) * 2).filter fun d => decide (n % d = 0)
def oddP (n : Int) : Option Int := (oddsD n).head?
theorem mem_odds {n d : Int} : d ∈ oddsD n ↔ 3 ≤ d ∧ d % 2 = 1 ∧ d ≤ n ∧ n % d = 0 := by
  unfold oddsD
  simp only [List.mem_filter, List.mem_map, List.mem_range, decide_eq_true_eq]
  constructor
  · rintro ⟨⟨i, hi, rfl⟩, hd⟩
    exact ⟨by omega, by omega, by omega, hd⟩
  · rintro ⟨h1, h2, h3, h4⟩
    exact ⟨⟨((d - 3) / 2).toNat, by omega, by omega⟩, h4⟩
theorem odds_sorted (n : Int) : (oddsD n).Pairwise (· < ·) := by
  unfold oddsD
  refine List.Pairwise.filter _ ?_
  rw [List.pairwise_map]
  refine List.pairwise_lt_range.imp fun {a b} h => ?_
  omega
structure LeastOdd (n p : Int) : Prop where
  three : 3 ≤ p
  odd : p % 2 = 1
  le : p ≤ n
  dvd : p ∣ n
  least : ∀ d, 3 ≤ d → d % 2 = 1 → d ∣ n → p ≤ d
theorem oddP_some {n p : Int} (n1 : 1 ≤ n) (h : oddP n = some p) : LeastOdd n p := by
  unfold oddP at h
  have hs := odds_sorted n
  cases e : oddsD n with
  | nil =>
    rw [e] at h
    cases h
  | cons q l =>
    rw [e] at h hs
    obtain rfl : q = p := by simpa using h
    have hm : q ∈ oddsD n := by rw [e]; exact List.mem_cons_self
    obtain ⟨a, b, c, d⟩ := mem_odds.mp hm
    refine ⟨a, b, c, Int.dvd_of_emod_eq_zero d, fun d' h1 h2 h3 => ?_⟩
    have : d' ∈ q :: l := by
      rw [← e]
      exact mem_odds.mpr ⟨h1, h2, Int.le_of_dvd (by omega) h3, Int.emod_eq_zero_of_dvd h3⟩
    rcases List.mem_cons.mp this with rfl | hl
    · exact Int.le_refl _
    · exact Int.le_of_lt ((List.pairwise_cons.mp hs).1 _ hl)
theorem oddP_none {n : Int} (n1 : 1 ≤ n) (h : oddP n = none) : ∀ d, 3 ≤ d → d % 2 = 1 → ¬ d ∣ n := fun d h1 h2 h3 => by
  have hm : d ∈ oddsD n := mem_odds.mpr ⟨h1, h2, Int.le_of_dvd (by omega) h3, Int.emod_eq_zero_of_dvd h3⟩
  unfold oddP at h
  cases e : oddsD n with
  | nil =>
    rw [e] at hm
    cases hm
  | cons q l =>
    rw [e] at h
    cases h

/-! ### the greatest number of seats that one witness protects: plain -/
theorem get_put (A : List (Int × Int)) (k v r : Int) : getA (putA A k v) r = if r = k then some v else getA A r := by
  have h1 := val_entZ r (putA A k v)
  rw [← put_entZ, valV_put] at h1
  by_cases c : r = k
  · rw [if_pos c]
    rw [if_pos (by rw [c])] at h1
    cases hg : getA (putA A k v) r with
    | none => rw [hg] at h1; cases h1
    | some x => rw [hg] at h1; injection h1 with h1; injection h1 with h1; rw [h1]
  · rw [if_neg c]
    rw [if_neg (fun z => c (Sum.inl.inj z)), val_entZ] at h1
    cases h2 : getA A r with
    | none =>
      rw [h2] at h1
      cases hg : getA (putA A k v) r with
      | none => rfl
      | some x => rw [hg] at h1; cases h1
    | some y =>
      rw [h2] at h1
      cases hg : getA (putA A k v) r with
      | none => rw [hg] at h1; cases h1
      | some x => rw [hg] at h1; injection h1 with h1; injection h1 with h1; rw [h1]
/-- how many seats have a value -/
def cntR (m : Int) (ws : List Int) (op : List (List Int)) (r : Int) : Nat := (op.filter fun o => decide (wsum ws o % m = r)).length
theorem cntR_snoc (m : Int) (ws : List Int) (op : List (List Int)) (o : List Int) (r : Int) : cntR m ws (op ++ [o]) r = cntR m ws op r + if wsum ws o % m = r then 1 else 0 := by
  unfold cntR
  rw [List.filter_append, List.length_append]
  by_cases c : wsum ws o % m = r
  · simp [c]
  · simp [c]
theorem cntR_le (m : Int) (ws : List Int) (op : List (List Int)) (r : Int) : cntR m ws op r ≤ op.length := List.length_filter_le _ _
/-- a dict of these numbers -/
structure TalOk (A : List (Int × Int)) (f : Int → Nat) : Prop where
  nod : (A.map fun x => x.1).Nodup
  get : ∀ r, getA A r = if f r = 0 then none else some (f r : Int)
theorem TalOk.mem {A : List (Int × Int)} {f : Int → Nat} (h : TalOk A f) {r : Int} : r ∈ (A.map fun x => x.1) ↔ f r ≠ 0 := by
  constructor
  · intro hr z
    have := h.get r
    rw [if_pos z] at this
    unfold getA at this
    rw [Option.map_eq_none_iff, List.find?_eq_none] at this
    obtain ⟨x, hx, rfl⟩ := List.mem_map.mp hr
    exact this x hx (decide_eq_true rfl)
  · intro z
    have := h.get r
    rw [if_neg z] at this
    exact List.mem_map_of_mem (f := fun x : Int × Int => x.1) (getA_mem this)
theorem getA_of_mem {k v : Int} : ∀ {A : List (Int × Int)}, (A.map fun x => x.1).Nodup → (k, v) ∈ A → getA A k = some v
  | a :: A, nod, h => by
    rw [List.map_cons, List.nodup_cons] at nod
    unfold getA
    rw [List.find?_cons]
    rcases List.mem_cons.mp h with rfl | h
    · simp
    · have : a.1 ≠ k := fun z => nod.1 (by rw [z]; exact List.mem_map_of_mem (f := fun x : Int × Int => x.1) h)
      rw [decide_eq_false this]
      exact getA_of_mem nod.2 h
theorem TalOk.val {A : List (Int × Int)} {f : Int → Nat} (h : TalOk A f) {x : Int × Int} (hx : x ∈ A) : x.2 = (f x.1 : Int) ∧ f x.1 ≠ 0 := by
  have e := getA_of_mem h.nod (show (x.1, x.2) ∈ A from hx)
  rw [h.get] at e
  by_cases c : f x.1 = 0
  · rw [if_pos c] at e
    cases e
  · rw [if_neg c] at e
    exact ⟨(Option.some.inj e).symm, c⟩
theorem TalOk.nil : TalOk [] fun _ => 0 := ⟨.nil, fun r => rfl⟩
theorem TalOk.add {A : List (Int × Int)} {m : Int} {ws : List Int} {op : List (List Int)} {o : List Int} (h : TalOk A (cntR m ws op)) : TalOk (putA A (wsum ws o % m) ((getA A (wsum ws o % m)).getD 0 + 1)) (cntR m ws (op ++ [o])) := by
  refine ⟨(put_keys h.nod).1, fun r => ?_⟩
  rw [get_put, cntR_snoc]
  by_cases c : r = wsum ws o % m
  · subst c
    rw [if_pos rfl, if_pos rfl, h.get]
    by_cases z : cntR m ws op (wsum ws o % m) = 0
    · rw [if_pos z, z]
      rfl
    · rw [if_neg z, if_neg (by omega)]
      show some (((cntR m ws op (wsum ws o % m) : Nat) : Int) + 1) = _
      congr 1
  · rw [if_neg c, if_neg (show ¬ wsum ws o % m = r from fun z => c z.symm), h.get, Nat.add_zero]
/-- the values in ascending order -/
def resL (m : Int) (ws : List Int) (op : List (List Int)) : List Int := ((List.range m.toNat).map fun (i : Nat) => (i : Int)).filter fun r => decide (cntR m ws op r ≠ 0)
theorem mem_resL {m : Int} {ws : List Int} {op : List (List Int)} {r : Int} : r ∈ resL m ws op ↔ (0 ≤ r ∧ r < m) ∧ cntR m ws op r ≠ 0 := by
  unfold resL
  rw [List.mem_filter, List.mem_map, decide_eq_true_iff]
  constructor
  · rintro ⟨⟨i, hi, rfl⟩, h⟩
    have := List.mem_range.mp hi
    exact ⟨⟨by omega, by omega⟩, h⟩
  · rintro ⟨⟨h0, h1⟩, h⟩
    exact ⟨⟨r.toNat, List.mem_range.mpr (by omega), by omega⟩, h⟩
theorem cnt_range {m : Int} (m0 : 0 < m) {ws : List Int} {op : List (List Int)} {r : Int} (h : cntR m ws op r ≠ 0) : 0 ≤ r ∧ r < m := by
  unfold cntR at h
  obtain ⟨o, ho⟩ := List.exists_mem_of_ne_nil _ (fun z => h (by rw [z]; rfl) : (op.filter fun o => decide (wsum ws o % m = r)) ≠ [])
  rw [← of_decide_eq_true (List.mem_filter.mp ho).2]
  exact ⟨Int.emod_nonneg _ (by omega), Int.emod_lt_of_pos _ m0⟩
theorem resL_lt (m : Int) (ws : List Int) (op : List (List Int)) : (resL m ws op).Pairwise (· < ·) := by
  unfold resL
  refine List.Pairwise.filter _ ?_
  rw [List.pairwise_map]
  exact List.pairwise_lt_range.imp fun {a b} h => by omega
theorem TalOk.sorted {A : List (Int × Int)} {m : Int} {ws : List Int} {op : List (List Int)} (m0 : 0 < m) (h : TalOk A (cntR m ws op)) {ys : List Int} (pm : ys.Perm (A.map fun x => x.1)) (pw : ys.Pairwise (· ≤ ·)) : ys = resL m ws op := by
  have nod : ys.Nodup := pm.nodup_iff.mpr h.nod
  have nod2 : (resL m ws op).Nodup := (resL_lt m ws op).imp fun {a b} h => by omega
  have pm2 : ys.Perm (resL m ws op) := (List.perm_ext_iff_of_nodup nod nod2).mpr fun r => by
    rw [pm.mem_iff, h.mem, mem_resL]
    exact ⟨fun z => ⟨cnt_range m0 z, z⟩, fun z => z.2⟩
  exact List.Perm.eq_of_pairwise (le := fun a b : Int => a ≤ b) (fun a b _ _ h1 h2 => by omega) pw ((resL_lt m ws op).imp fun {a b} h => by omega) pm2
/-- all weights for a modulus -/
def fitL (m n : Int) : List Int := ((List.range m.toNat).map fun (i : Nat) => (i : Int)).filter fun x => decide (x * n % m = 0)
def crossW (hss : List (List Int)) (fs : List Int) : List (List Int) := hss.flatMap fun hs => fs.map fun x => hs ++ [x]
def wtsA (m : Int) (ns : List Int) : List (List Int) := ns.foldl (fun hss n => crossW hss (fitL m n)) [[]]
theorem wtsA_snoc (m : Int) (ns : List Int) (n : Int) : wtsA m (ns ++ [n]) = crossW (wtsA m ns) (fitL m n) := by
  unfold wtsA
  rw [List.foldl_append]
  rfl
theorem mem_fit {m n x : Int} : x ∈ fitL m n ↔ (0 ≤ x ∧ x < m) ∧ x * n % m = 0 := by
  unfold fitL
  rw [List.mem_filter, List.mem_map, decide_eq_true_iff]
  constructor
  · rintro ⟨⟨i, hi, rfl⟩, h⟩
    have := List.mem_range.mp hi
    exact ⟨⟨by omega, by omega⟩, h⟩
  · rintro ⟨⟨h0, h1⟩, h⟩
    exact ⟨⟨x.toNat, List.mem_range.mpr (by omega), by omega⟩, h⟩
theorem fit_len {m n : Int} (m0 : 0 < m) (n1 : 1 ≤ n) : ((fitL m n).length : Int) ≤ n := by
  have nod : ((fitL m n).map fun x => (x * n / m).toNat).Nodup := by
    unfold List.Nodup
    rw [List.pairwise_map]
    have pw : (fitL m n).Pairwise (· < ·) := by
      unfold fitL
      refine List.Pairwise.filter _ ?_
      rw [List.pairwise_map]
      exact List.pairwise_lt_range.imp fun {a b} h => by omega
    refine List.Pairwise.imp_of_mem (fun {a b} ha hb h z => ?_) pw
    obtain ⟨⟨a0, a1⟩, ea⟩ := mem_fit.mp ha
    obtain ⟨⟨b0, b1⟩, eb⟩ := mem_fit.mp hb
    obtain ⟨c, hc⟩ := Int.dvd_of_emod_eq_zero ea
    obtain ⟨d, hd⟩ := Int.dvd_of_emod_eq_zero eb
    have n0 : (0 : Int) ≤ n := by omega
    have c0 : 0 ≤ c := by
      refine Decidable.byContradiction fun q => ?_
      have h1 : m * c ≤ m * (-1) := Int.mul_le_mul_of_nonneg_left (by omega) (by omega)
      have h2 : 0 ≤ a * n := Int.mul_nonneg a0 n0
      omega
    have d0 : 0 ≤ d := by
      refine Decidable.byContradiction fun q => ?_
      have h1 : m * d ≤ m * (-1) := Int.mul_le_mul_of_nonneg_left (by omega) (by omega)
      have h2 : 0 ≤ b * n := Int.mul_nonneg b0 n0
      omega
    rw [hc, hd, Int.mul_ediv_cancel_left _ (by omega), Int.mul_ediv_cancel_left _ (by omega)] at z
    have : c = d := by omega
    rw [this, ← hd] at hc
    have := Int.eq_of_mul_eq_mul_right (by omega : n ≠ 0) hc
    omega
  have sub : ((fitL m n).map fun x => (x * n / m).toNat) ⊆ List.range n.toNat := fun y hy => by
    obtain ⟨x, hx, rfl⟩ := List.mem_map.mp hy
    obtain ⟨⟨x0, x1⟩, ex⟩ := mem_fit.mp hx
    obtain ⟨c, hc⟩ := Int.dvd_of_emod_eq_zero ex
    refine List.mem_range.mpr ?_
    rw [hc, Int.mul_ediv_cancel_left _ (by omega)]
    have h1 : (x + 1) * n ≤ m * n := Int.mul_le_mul_of_nonneg_right (by omega) (by omega)
    rw [Int.add_mul] at h1
    have h2 : m * c < m * n := by omega
    have := Int.lt_of_mul_lt_mul_left h2 (by omega)
    omega
  have := nod.length_le_of_subset sub
  rw [List.length_map, List.length_range] at this
  omega
theorem crossW_len (hss : List (List Int)) (fs : List Int) : (crossW hss fs).length = hss.length * fs.length := by
  unfold crossW
  induction hss with
  | nil => simp
  | cons h hss ih => rw [List.flatMap_cons, List.length_append, ih, List.length_map, List.length_cons, Nat.succ_mul, Nat.add_comm]
theorem crossW_snoc (hss : List (List Int)) (hs : List Int) (fs : List Int) : crossW (hss ++ [hs]) fs = crossW hss fs ++ fs.map fun x => hs ++ [x] := by
  unfold crossW
  rw [List.flatMap_append]
  simp
theorem foldW_len {m : Int} (m0 : 0 < m) : ∀ (ns : List Int) (hss : List (List Int)), (∀ n ∈ ns, 1 ≤ n) → ((ns.foldl (fun hss n => crossW hss (fitL m n)) hss).length : Int) ≤ hss.length * prodL ns
  | [], hss, _ => by simp [prodL]
  | n :: ns, hss, h => by
    rw [List.foldl_cons, prodL_cons]
    refine Int.le_trans (foldW_len m0 ns _ fun x hx => h x (List.mem_cons_of_mem _ hx)) ?_
    have n1 := h n List.mem_cons_self
    have h2 := fit_len m0 n1
    have h3 := prodL_pos fun x hx => h x (List.mem_cons_of_mem _ hx)
    rw [crossW_len, Int.natCast_mul, Int.mul_assoc]
    exact Int.mul_le_mul_of_nonneg_left (Int.mul_le_mul_of_nonneg_right h2 (by omega)) (Int.natCast_nonneg _)
theorem wtsA_len {m : Int} (m0 : 0 < m) {ns : List Int} (h : ∀ n ∈ ns, 1 ≤ n) : ((wtsA m ns).length : Int) ≤ prodL ns := by
  have := foldW_len m0 ns [[]] h
  simpa [wtsA] using this
theorem mem_foldW (m : Int) : ∀ (ns : List Int) (hss : List (List Int)) (ws : List Int), ws ∈ ns.foldl (fun hss n => crossW hss (fitL m n)) hss ↔ ∃ h ∈ hss, ∃ q : List Int, q.length = ns.length ∧ (∀ (i : Nat) (x n : Int), q[i]? = some x → ns[i]? = some n → (0 ≤ x ∧ x < m) ∧ x * n % m = 0) ∧ ws = h ++ q
  | [], hss, p => by
    constructor
    · intro h
      exact ⟨p, h, [], rfl, fun i x n hx => (by simp at hx), by simp⟩
    · rintro ⟨h, hh, q, ql, _, rfl⟩
      cases q with
      | nil => rw [List.append_nil]; exact hh
      | cons x q => cases ql
  | n :: ns, hss, p => by
    rw [List.foldl_cons, mem_foldW m ns]
    constructor
    · rintro ⟨h, hh, q, ql, hq, rfl⟩
      obtain ⟨g, hg, hh⟩ := List.mem_flatMap.mp hh
      obtain ⟨y, hy, rfl⟩ := List.mem_map.mp hh
      refine ⟨g, hg, y :: q, by rw [List.length_cons, List.length_cons, ql], fun i x k hx hk => ?_, by simp⟩
      cases i with
      | zero =>
        cases hx
        cases hk
        exact mem_fit.mp hy
      | succ i => exact hq i x k (by simpa using hx) (by simpa using hk)
    · rintro ⟨h, hh, q, ql, hq, rfl⟩
      cases q with
      | nil => cases ql
      | cons x q =>
        exact ⟨h ++ [x], List.mem_flatMap.mpr ⟨h, hh, List.mem_map.mpr ⟨x, mem_fit.mpr (hq 0 x n rfl rfl), rfl⟩⟩, q, Nat.succ.inj ql, fun i y k hy hk => hq (i + 1) y k (by simpa using hy) (by simpa using hk), by simp⟩
theorem mem_wts {m : Int} {ns ws : List Int} : ws ∈ wtsA m ns ↔ ws.length = ns.length ∧ ∀ (i : Nat) (x n : Int), ws[i]? = some x → ns[i]? = some n → (0 ≤ x ∧ x < m) ∧ x * n % m = 0 := by
  unfold wtsA
  rw [mem_foldW]
  constructor
  · rintro ⟨h, hh, q, ql, hq, rfl⟩
    rw [List.mem_singleton.mp hh]
    exact ⟨ql, hq⟩
  · rintro ⟨ql, hq⟩
    exact ⟨[], List.mem_singleton.mpr rfl, ws, ql, hq, rfl⟩
theorem wts_wit {m r : Int} {ns ws : List Int} (m3 : 3 ≤ m) (mo : m % 2 = 1) (r0 : 0 ≤ r) (r1 : r < m) (h : ws ∈ wtsA m ns) : WitOk ns m ws r := by
  obtain ⟨h1, h2⟩ := mem_wts.mp h
  refine ⟨m3, mo, r0, r1, h1, fun x hx => ?_, fun i x n hx hn => (h2 i x n hx hn).2⟩
  obtain ⟨i, hi⟩ := List.mem_iff_getElem?.mp hx
  have li : i < ns.length := by
    rw [← h1]
    exact (List.getElem?_eq_some_iff.mp hi).1
  exact (h2 i x _ hi (List.getElem?_eq_getElem li)).1
theorem wit_wts {m r : Int} {ns ws : List Int} (w : WitOk ns m ws r) : ws ∈ wtsA m ns :=
  mem_wts.mpr ⟨w.len, fun i x n hx hn => ⟨w.w0 x (List.mem_of_getElem? hx), w.fit i x n hx hn⟩⟩
/-! ### odd prime powers -/
theorem cop_mul {a b d : Int} (h : Int.gcd a b = 1) (ha : a ∣ d) (hb : b ∣ d) : a * b ∣ d := by
  have h1 := Nat.Coprime.mul_dvd_of_dvd_of_dvd (show Nat.Coprime a.natAbs b.natAbs from h) (Int.natAbs_dvd_natAbs.mpr ha) (Int.natAbs_dvd_natAbs.mpr hb)
  rw [← Int.natAbs_mul] at h1
  exact Int.natAbs_dvd_natAbs.mp h1
theorem cop_left {a b c : Int} (h : Int.gcd a b = 1) (hd : a ∣ b * c) : a ∣ c := by
  have h1 := Int.natAbs_dvd_natAbs.mpr hd
  rw [Int.natAbs_mul] at h1
  exact Int.natAbs_dvd_natAbs.mp (Nat.Coprime.dvd_of_dvd_mul_left (show Nat.Coprime a.natAbs b.natAbs from h) h1)
theorem cop_pow {a b : Int} (h : Int.gcd a b = 1) (k : Nat) : Int.gcd (a ^ k) b = 1 := by
  unfold Int.gcd at *
  rw [Int.natAbs_pow]
  exact Nat.Coprime.pow_left k h
theorem gcd_sym {a b : Int} (h : Int.gcd a b = 1) : Int.gcd b a = 1 := by rw [Int.gcd_comm]; exact h
/-- the least odd divisor is prime -/
theorem least_cop {n p x : Int} (lo : LeastOdd n p) (hx : x ∣ n) (hp : ¬ p ∣ x) : Int.gcd p x = 1 := by
  have gp : ((Int.gcd p x : Nat) : Int) ∣ p := Int.gcd_dvd_left ..
  have gx : ((Int.gcd p x : Nat) : Int) ∣ x := Int.gcd_dvd_right ..
  refine Decidable.byContradiction fun c => ?_
  have p3 := lo.three
  have g0 : Int.gcd p x ≠ 0 := fun z => by
    rw [z] at gp
    obtain ⟨q, hq⟩ := gp
    have : p = 0 := by rw [hq]; exact Int.zero_mul _
    omega
  have odd : ((Int.gcd p x : Nat) : Int) % 2 = 1 := by
    obtain ⟨k, hk⟩ := gp
    have := lo.odd
    rw [hk, Int.mul_emod] at this
    rcases Int.emod_two_eq ((Int.gcd p x : Nat) : Int) with z | z
    · rw [z] at this
      simp at this
    · exact z
  have g3 : 3 ≤ ((Int.gcd p x : Nat) : Int) := by omega
  have le := lo.least _ g3 odd (Int.dvd_trans gx hx)
  have ge := Int.le_of_dvd (by omega) gp
  have e : ((Int.gcd p x : Nat) : Int) = p := by omega
  rw [e] at gx
  exact hp gx

/-- the powers of p that divide rest, from pw on; what is left -/
def powsL : Nat → Int → Int → Int → List Int × Int
  | 0, rest, _, _ => ([], rest)
  | f + 1, rest, p, pw => if rest % p = 0 then (pw :: (powsL f (rest / p) p (pw * p)).1, (powsL f (rest / p) p (pw * p)).2) else ([], rest)
def oppL : Nat → Int → List Int
  | 0, _ => []
  | f + 1, rest => match oddP rest with
    | none => []
    | some p => (powsL (f + 1) rest p p).1 ++ oppL f (powsL (f + 1) rest p p).2
theorem pows_ok {p : Int} (p3 : 3 ≤ p) : ∀ (f : Nat) {rest : Int} (pw : Int), 1 ≤ rest → rest < 3 ^ f → ∃ (a : Nat) (r2 : Int), (powsL f rest p pw).2 = r2 ∧ 1 ≤ r2 ∧ r2 ≤ rest ∧ rest = p ^ a * r2 ∧ ¬ p ∣ r2 ∧ ∀ q, q ∈ (powsL f rest p pw).1 ↔ ∃ j, j < a ∧ q = pw * p ^ j
  | 0, rest, pw, h1, h2 => by
    have : rest < 1 := by simpa using h2
    omega
  | f + 1, rest, pw, h1, h2 => by
    unfold powsL
    by_cases c : rest % p = 0
    · rw [if_pos c]
      obtain ⟨k, hk⟩ := Int.dvd_of_emod_eq_zero c
      have e : rest / p = k := by rw [hk]; exact Int.mul_ediv_cancel_left _ (by omega)
      have k1 : 1 ≤ k := by
        refine Decidable.byContradiction fun q => ?_
        have : p * k ≤ p * 0 := Int.mul_le_mul_of_nonneg_left (by omega) (by omega)
        omega
      have k3 : 3 * k ≤ p * k := Int.mul_le_mul_of_nonneg_right p3 (by omega)
      have h3 : k < 3 ^ f := by
        rw [Int.pow_succ] at h2
        omega
      rw [e]
      obtain ⟨a, r2, g1, g2, g3, g4, g5, g6⟩ := pows_ok p3 f (pw * p) k1 h3
      refine ⟨a + 1, r2, g1, g2, by omega, ?_, g5, fun q => ?_⟩
      · rw [hk, g4, Int.pow_succ]
        generalize p ^ a = z
        grind
      · show q ∈ pw :: _ ↔ _
        rw [List.mem_cons, g6]
        constructor
        · rintro (rfl | ⟨j, hj, rfl⟩)
          · exact ⟨0, by omega, by simp⟩
          · refine ⟨j + 1, by omega, ?_⟩
            rw [Int.pow_succ]
            generalize p ^ j = z
            grind
        · rintro ⟨j, hj, rfl⟩
          cases j with
          | zero => exact .inl (by simp)
          | succ j =>
            refine .inr ⟨j, by omega, ?_⟩
            rw [Int.pow_succ]
            generalize p ^ j = z
            grind
    · rw [if_neg c]
      exact ⟨0, rest, rfl, h1, Int.le_refl _, by simp, fun z => c (Int.emod_eq_zero_of_dvd z), fun q => ⟨fun h => (nomatch h), fun ⟨j, h, _⟩ => (by omega)⟩⟩
theorem max_pow {p : Int} (p3 : 3 ≤ p) {m : Int} (m1 : 1 ≤ m) : ∃ (b : Nat) (m2 : Int), 1 ≤ m2 ∧ m = p ^ b * m2 ∧ ¬ p ∣ m2 := by
  have h : m < 3 ^ m.toNat := by
    have : ∀ k : Nat, (k : Int) < 3 ^ k := fun k => by
      induction k with
      | zero => decide
      | succ k ih => rw [Int.pow_succ]; omega
    have := this m.toNat
    omega
  obtain ⟨a, r2, _, g2, _, g4, g5, _⟩ := pows_ok p3 m.toNat p m1 h
  exact ⟨a, r2, g2, g4, g5⟩
theorem odd_of_mul {a b : Int} (h : (a * b) % 2 = 1) : b % 2 = 1 := by
  rcases Int.emod_two_eq b with z | z
  · rw [Int.mul_emod, z] at h
    simp at h
  · exact z
theorem pow_odd {p : Int} (h : p % 2 = 1) : ∀ j : Nat, p ^ j % 2 = 1
  | 0 => by simp
  | j + 1 => by rw [Int.pow_succ, Int.mul_emod, pow_odd h j, h]; rfl
theorem pow_ge {p : Int} (h : 3 ≤ p) : ∀ j : Nat, 1 ≤ p ^ j
  | 0 => by simp
  | j + 1 => by
    rw [Int.pow_succ]
    have := pow_ge h j
    have : 1 * p ≤ p ^ j * p := Int.mul_le_mul_of_nonneg_right this (by omega)
    omega
/-- an odd number is told by its prime powers -/
theorem opp_ok : ∀ (f : Nat) {o : Int}, 1 ≤ o → o % 2 = 1 → o < 3 ^ f → (∀ q ∈ oppL f o, 3 ≤ q ∧ q % 2 = 1 ∧ q ∣ o) ∧ ∀ m d : Int, 1 ≤ m → m ∣ o → (∀ q ∈ oppL f o, q ∣ m → q ∣ d) → m ∣ d
  | 0, o, h1, _, h2 => by
    have : o < 1 := by simpa using h2
    omega
  | f + 1, o, o1, oo, hf => by
    unfold oppL
    cases hp : oddP o with
    | none =>
      refine ⟨fun q hq => (nomatch hq), fun m d m1 hm _ => ?_⟩
      have mo : m % 2 = 1 := by
        obtain ⟨c, hc⟩ := hm
        rw [hc, Int.mul_comm] at oo
        exact odd_of_mul oo
      have : ¬ 3 ≤ m := fun h3 => oddP_none o1 hp m h3 mo hm
      have : m = 1 := by omega
      rw [this]
      exact Int.one_dvd d
    | some p =>
      have lo := oddP_some o1 hp
      have p3 := lo.three
      obtain ⟨a, r2, g1, g2, g3, g4, g5, g6⟩ := pows_ok p3 (f + 1) p o1 hf
      have a1 : 1 ≤ a := by
        refine Decidable.byContradiction fun z => ?_
        have : a = 0 := by omega
        rw [this] at g4
        have e : o = r2 := by simpa using g4
        exact g5 (e ▸ lo.dvd)
      show (∀ q ∈ (powsL (f + 1) o p p).1 ++ oppL f (powsL (f + 1) o p p).2, _) ∧ _
      rw [g1]
      have r2o : r2 % 2 = 1 := by
        rw [g4] at oo
        exact odd_of_mul oo
      have r2d : r2 ∣ o := ⟨p ^ a, by rw [g4, Int.mul_comm]⟩
      have r2f : r2 < 3 ^ f := by
        obtain ⟨a, rfl⟩ : ∃ a', a = a' + 1 := ⟨a - 1, by omega⟩
        rw [Int.pow_succ, Int.mul_assoc] at g4
        have h1 : 3 * r2 ≤ p * r2 := Int.mul_le_mul_of_nonneg_right p3 (by omega)
        have h2 := pow_ge p3 a
        have h3 : 1 * (p * r2) ≤ p ^ a * (p * r2) := Int.mul_le_mul_of_nonneg_right h2 (by omega)
        rw [Int.pow_succ] at hf
        omega
      obtain ⟨i1, i2⟩ := opp_ok f g2 r2o r2f
      constructor
      · intro q hq
        rcases List.mem_append.mp hq with h | h
        · obtain ⟨j, hj, rfl⟩ := (g6 q).mp h
          have h1 := pow_ge p3 j
          have h2 : p * 1 ≤ p * p ^ j := Int.mul_le_mul_of_nonneg_left h1 (by omega)
          refine ⟨by omega, ?_, ?_⟩
          · rw [Int.mul_emod, lo.odd, pow_odd lo.odd]
            rfl
          · obtain ⟨c, rfl⟩ : ∃ c, a = (j + 1) + c := ⟨a - (j + 1), by omega⟩
            rw [g4, Int.pow_add, Int.pow_succ]
            refine ⟨p ^ c * r2, ?_⟩
            generalize p ^ j = z
            generalize p ^ c = y
            grind
        · obtain ⟨x, y, z⟩ := i1 q h
          exact ⟨x, y, Int.dvd_trans z r2d⟩
      · intro m d m1 hm hq
        obtain ⟨b, m2, m21, em, hm2⟩ := max_pow p3 m1
        have m2m : m2 ∣ m := ⟨p ^ b, by rw [em, Int.mul_comm]⟩
        have pbm : p ^ b ∣ m := ⟨m2, em⟩
        have c1 : Int.gcd p m2 = 1 := least_cop lo (Int.dvd_trans m2m hm) hm2
        have c2 : Int.gcd p r2 = 1 := least_cop lo r2d g5
        have m2r : m2 ∣ r2 := by
          refine cop_left (b := p ^ a) (gcd_sym (cop_pow c1 a)) ?_
          rw [← g4]
          exact Int.dvd_trans m2m hm
        have bd : p ^ b ∣ p ^ a := by
          refine cop_left (b := r2) (cop_pow c2 b) ?_
          rw [Int.mul_comm, ← g4]
          exact Int.dvd_trans pbm hm
        have ba : b ≤ a := by
          refine Decidable.byContradiction fun z => ?_
          obtain ⟨k, rfl⟩ : ∃ k, b = a + (k + 1) := ⟨b - a - 1, by omega⟩
          have h0 := pow_ge p3 a
          have h1 := pow_ge p3 k
          have h2 := Int.le_of_dvd (by omega) bd
          rw [Int.pow_add, Int.pow_succ] at h2
          have h3 : 1 * p ≤ p ^ k * p := Int.mul_le_mul_of_nonneg_right h1 (by omega)
          have h4 : p ^ a * 3 ≤ p ^ a * (p ^ k * p) := Int.mul_le_mul_of_nonneg_left (by omega) (by omega)
          omega
        have d2 : m2 ∣ d := i2 m2 d m21 m2r fun q hq2 hd => hq q (List.mem_append_right _ (by rw [g1]; exact hq2)) (Int.dvd_trans hd m2m)
        have d1 : p ^ b ∣ d := by
          cases b with
          | zero => simp
          | succ b =>
            refine hq _ (List.mem_append_left _ ((g6 _).mpr ⟨b, by omega, ?_⟩)) pbm
            rw [Int.pow_succ, Int.mul_comm]
        rw [em]
        exact cop_mul (cop_pow c1 b) d1 d2
/-! ### the search -/
section
variable {α β : Type} {f : β → α → β} {μ : β → Nat}
theorem foldl_up (mono : ∀ b a, μ b ≤ μ (f b a)) : ∀ (l : List α) (b : β), μ b ≤ μ (l.foldl f b)
  | [], _ => Nat.le_refl _
  | a :: l, b => Nat.le_trans (mono b a) (foldl_up mono l (f b a))
theorem foldl_ge (mono : ∀ b a, μ b ≤ μ (f b a)) : ∀ (l : List α) (b : β) {a : α}, a ∈ l → ∀ {k : Nat}, (∀ b, k ≤ μ (f b a)) → k ≤ μ (l.foldl f b)
  | x :: l, b, a, h, k, hk => by
    rw [List.foldl_cons]
    rcases List.mem_cons.mp h with rfl | h
    · exact Nat.le_trans (hk b) (foldl_up mono l _)
    · exact foldl_ge mono l _ h hk
theorem foldl_good {G : β → Prop} : ∀ (l : List α) (b : β), G b → (∀ b a, a ∈ l → G b → G (f b a)) → G (l.foldl f b)
  | [], _, h, _ => h
  | x :: l, b, h, hs => foldl_good l _ (hs b x List.mem_cons_self h) fun b a ha => hs b a (List.mem_cons_of_mem _ ha)
end
abbrev KSt := Nat × Option (Int × List Int × Int)
def keepR (op : List (List Int)) (p : List Int) (m : Int) (ws : List Int) (st : KSt) (r : Int) : KSt := if st.1 < cntR m ws op r ∧ r ≠ wsum ws p % m then (cntR m ws op r, some (m, ws, r)) else st
def keepW (op : List (List Int)) (p : List Int) (m : Int) (st : KSt) (ws : List Int) : KSt := (resL m ws op).foldl (keepR op p m ws) st
def keepM (ns : List Int) (op : List (List Int)) (p : List Int) (st : KSt) (m : Int) : KSt := (wtsA m ns).foldl (keepW op p m) st
def keptL (ns : List Int) (op : List (List Int)) (p : List Int) : KSt := (oppL 9 (oddI (prodL ns))).foldl (keepM ns op p) (0, none)
/-- a witness that the law looks at, and a value that the seat does not have -/
structure LookAt (ns p : List Int) (m : Int) (ws : List Int) (r : Int) : Prop where
  m3 : 3 ≤ m
  odd : m % 2 = 1
  dvd : m ∣ prodL ns
  wts : ws ∈ wtsA m ns
  r0 : 0 ≤ r
  r1 : r < m
  ne : r ≠ wsum ws p % m
/-- the greatest number -/
structure MostOk (ns : List Int) (op : List (List Int)) (p : List Int) (M : Nat) : Prop where
  all : ∀ m ws r, LookAt ns p m ws r → cntR m ws op r ≤ M
  some : M = 0 ∨ ∃ m ws r, LookAt ns p m ws r ∧ cntR m ws op r = M
def KGood (ns : List Int) (op : List (List Int)) (p : List Int) (st : KSt) : Prop := (st.1 = 0 ∧ st.2 = none) ∨ ∃ m ws r, st.2 = some (m, ws, r) ∧ LookAt ns p m ws r ∧ cntR m ws op r = st.1 ∧ 0 < st.1
theorem keepR_up (op : List (List Int)) (p : List Int) (m : Int) (ws : List Int) (st : KSt) (r : Int) : st.1 ≤ (keepR op p m ws st r).1 := by
  unfold keepR
  split
  · rename_i h
    exact Nat.le_of_lt h.1
  · exact Nat.le_refl _
theorem keepW_up (op : List (List Int)) (p : List Int) (m : Int) (st : KSt) (ws : List Int) : st.1 ≤ (keepW op p m st ws).1 := foldl_up (μ := fun st : KSt => st.1) (keepR_up op p m ws) _ _
theorem keepM_up (ns : List Int) (op : List (List Int)) (p : List Int) (st : KSt) (m : Int) : st.1 ≤ (keepM ns op p st m).1 := foldl_up (μ := fun st : KSt => st.1) (keepW_up op p m) _ _
theorem oddI_div {n : Int} (n1 : 1 ≤ n) : oddI n ∣ n ∧ oddI n % 2 = 1 ∧ 1 ≤ oddI n := by
  obtain ⟨⟨k, hk⟩, h2, h3⟩ := oddI_ok n1
  exact ⟨⟨2 ^ k, by rw [Int.mul_comm]; exact hk⟩, h2, by omega⟩
theorem wsum_mod {m q : Int} (hd : q ∣ m) : ∀ (ws xs : List Int), q ∣ wsum ws xs - wsum (ws.map fun w => w % q) xs
  | [], _ => by simp [wsum]
  | _ :: _, [] => by simp [wsum]
  | w :: ws, x :: xs => by
    have ih := wsum_mod hd ws xs
    rw [List.map_cons, wsum_cons, wsum_cons]
    have h1 : q ∣ (w - w % q) * x := Int.dvd_mul_of_dvd_left (by have := Int.mul_ediv_add_emod w q; exact ⟨w / q, by omega⟩)
    refine (congrArg (q ∣ ·) ?_).mp (Int.dvd_add h1 ih)
    grind
theorem kept_good {ns : List Int} {op : List (List Int)} {p : List Int} (one : ∀ n ∈ ns, 1 ≤ n) (pr : prodL ns ≤ 300) : KGood ns op p (keptL ns op p) := by
  have N1 := prodL_pos one
  obtain ⟨o1, o2, o3⟩ := oddI_div N1
  have ol : oddI (prodL ns) ≤ prodL ns := Int.le_of_dvd (by omega) o1
  obtain ⟨qok, _⟩ := opp_ok 9 o3 o2 (show oddI (prodL ns) < 3 ^ 9 by omega)
  unfold keptL
  refine foldl_good _ _ (.inl ⟨rfl, rfl⟩) fun st m hm g => ?_
  obtain ⟨m3, mo, md⟩ := qok m hm
  unfold keepM
  refine foldl_good _ _ g fun st ws hws g => ?_
  unfold keepW
  refine foldl_good _ _ g fun st r hr g => ?_
  unfold keepR
  by_cases c : st.1 < cntR m ws op r ∧ r ≠ wsum ws p % m
  · rw [if_pos c]
    obtain ⟨⟨r0, r1⟩, _⟩ := mem_resL.mp hr
    exact .inr ⟨m, ws, r, rfl, ⟨m3, mo, Int.dvd_trans md o1, hws, r0, r1, c.2⟩, rfl, by show 0 < cntR m ws op r; omega⟩
  · rw [if_neg c]
    exact g
theorem kept_all {ns : List Int} {op : List (List Int)} {p : List Int} (one : ∀ n ∈ ns, 1 ≤ n) (pr : prodL ns ≤ 300) {m r : Int} {ws : List Int} (h : LookAt ns p m ws r) : cntR m ws op r ≤ (keptL ns op p).1 := by
  have N1 := prodL_pos one
  obtain ⟨o1, o2, o3⟩ := oddI_div N1
  have ol : oddI (prodL ns) ≤ prodL ns := Int.le_of_dvd (by omega) o1
  obtain ⟨qok, qall⟩ := opp_ok 9 o3 o2 (show oddI (prodL ns) < 3 ^ 9 by omega)
  have m3 := h.m3
  have mO : m ∣ oddI (prodL ns) := by
    obtain ⟨⟨k, hk⟩, _⟩ := oddI_ok N1
    refine odd_pow2 h.odd k ?_
    rw [← hk]
    exact h.dvd
  have nd : ¬ m ∣ r - wsum ws p := fun z => h.ne (by
    have := emod_eq_iff.mpr z
    rwa [Int.emod_eq_of_lt h.r0 h.r1] at this)
  obtain ⟨q, hq, hqm, hqd⟩ : ∃ q ∈ oppL 9 (oddI (prodL ns)), q ∣ m ∧ ¬ q ∣ r - wsum ws p := by
    refine Classical.byContradiction fun no => nd (qall m _ (by omega) mO fun q hq hqm => ?_)
    exact Classical.byContradiction fun c => no ⟨q, hq, hqm, c⟩
  obtain ⟨q3, qo, qd⟩ := qok q hq
  have eqm : ∀ x : List Int, wsum (ws.map fun w => w % q) x % q = wsum ws x % q := fun x => (emod_eq_iff.mpr (wsum_mod hqm ws x)).symm
  have hw2 : (ws.map fun w => w % q) ∈ wtsA q ns := by
    obtain ⟨h1, h2⟩ := mem_wts.mp h.wts
    refine mem_wts.mpr ⟨by rw [List.length_map, h1], fun i x n hx hn => ?_⟩
    rw [List.getElem?_map] at hx
    obtain ⟨w, hw, rfl⟩ := Option.map_eq_some_iff.mp hx
    refine ⟨⟨Int.emod_nonneg _ (by omega), Int.emod_lt_of_pos _ (by omega)⟩, ?_⟩
    have d1 : q ∣ w * n := Int.dvd_trans hqm (Int.dvd_of_emod_eq_zero (h2 i w n hw hn).2)
    rw [Int.mul_emod, Int.emod_emod, ← Int.mul_emod]
    exact Int.emod_eq_zero_of_dvd d1
  have le : cntR m ws op r ≤ cntR q (ws.map fun w => w % q) op (r % q) := by
    unfold cntR
    rw [← List.countP_eq_length_filter, ← List.countP_eq_length_filter]
    refine List.countP_mono_left fun x _ hx => ?_
    have e := of_decide_eq_true hx
    refine decide_eq_true ?_
    rw [eqm, ← e, Int.emod_emod_of_dvd _ hqm]
  refine Nat.le_trans le ?_
  by_cases z : cntR q (ws.map fun w => w % q) op (r % q) = 0
  · omega
  have hr : r % q ∈ resL q (ws.map fun w => w % q) op := mem_resL.mpr ⟨⟨Int.emod_nonneg _ (by omega), Int.emod_lt_of_pos _ (by omega)⟩, z⟩
  have ne : r % q ≠ wsum (ws.map fun w => w % q) p % q := fun z => hqd (emod_eq_iff.mp (z.trans (eqm p)))
  unfold keptL
  refine foldl_ge (μ := fun st : KSt => st.1) (keepM_up ns op p) _ _ hq fun st => ?_
  unfold keepM
  refine foldl_ge (μ := fun st : KSt => st.1) (keepW_up op p q) _ _ hw2 fun st => ?_
  unfold keepW
  refine foldl_ge (μ := fun st : KSt => st.1) (keepR_up op p q _) _ _ hr fun st => ?_
  unfold keepR
  by_cases c : st.1 < cntR q (ws.map fun w => w % q) op (r % q) ∧ r % q ≠ wsum (ws.map fun w => w % q) p % q
  · rw [if_pos c]
    exact Nat.le_refl _
  · rw [if_neg c]
    exact Nat.le_of_not_lt fun z => c ⟨z, ne⟩
theorem kept_most {ns : List Int} {op : List (List Int)} {p : List Int} (one : ∀ n ∈ ns, 1 ≤ n) (pr : prodL ns ≤ 300) {M : Nat} (h : MostOk ns op p M) : (keptL ns op p).1 = M := by
  refine Nat.le_antisymm ?_ ?_
  · rcases kept_good (op := op) (p := p) one pr with g | ⟨m, ws, r, _, g2, g3, _⟩
    · omega
    · rw [← g3]
      exact h.all m ws r g2
  · rcases h.some with g | ⟨m, ws, r, g1, g2⟩
    · omega
    · rw [← g2]
      exact kept_all one pr g1

/-! ### the law's own search -/
/-- what has been found over the witnesses of S -/
structure MostP (ns : List Int) (op : List (List Int)) (p : List Int) (S : Int → List Int → Prop) (M : Nat) : Prop where
  all : ∀ m ws r, S m ws → LookAt ns p m ws r → cntR m ws op r ≤ M
  some : M = 0 ∨ ∃ m ws r, LookAt ns p m ws r ∧ cntR m ws op r = M
def modsL (N : Int) : List Int := ((List.range (Builtin.Range.rangeSize 3 (N + 1) 2).toNat).map fun (i : Nat) => 3 + (i : Int) * 2).filter fun m => decide (N % m = 0)
theorem mods_size {N : Int} (h1 : 1 ≤ N) : (Builtin.Range.rangeSize 3 (N + 1) 2).toNat = ((N - 1) / 2).toNat := by
  unfold Builtin.Range.rangeSize
  rw [if_pos (by decide)]
  split <;> omega
theorem mem_mods {N m : Int} (h1 : 1 ≤ N) : m ∈ modsL N ↔ 3 ≤ m ∧ m % 2 = 1 ∧ m ∣ N := by
  unfold modsL
  rw [List.mem_filter, List.mem_map, mods_size h1, decide_eq_true_iff]
  constructor
  · rintro ⟨⟨i, hi, rfl⟩, h⟩
    exact ⟨by omega, by omega, Int.dvd_of_emod_eq_zero h⟩
  · rintro ⟨h3, ho, hd⟩
    have := Int.le_of_dvd (by omega) hd
    exact ⟨⟨((m - 3) / 2).toNat, List.mem_range.mpr (by omega), by omega⟩, Int.emod_eq_zero_of_dvd hd⟩
theorem MostP.nil (ns : List Int) (op : List (List Int)) (p : List Int) : MostP ns op p (fun _ _ => False) 0 := ⟨fun _ _ _ h => h.elim, .inl rfl⟩
theorem MostP.to {ns : List Int} {op : List (List Int)} {p : List Int} {S S2 : Int → List Int → Prop} {M : Nat} (h : MostP ns op p S M) (hS : ∀ m ws, ws ∈ wtsA m ns → S2 m ws → S m ws) : MostP ns op p S2 M := ⟨fun m ws r hs hl => h.all m ws r (hS m ws hl.wts hs) hl, h.some⟩
theorem MostP.le {ns : List Int} {op : List (List Int)} {p : List Int} {S : Int → List Int → Prop} {M : Nat} (h : MostP ns op p S M) : M ≤ op.length := by
  rcases h.some with z | ⟨m, ws, r, _, z⟩
  · omega
  · rw [← z]
    exact cntR_le m ws op r
theorem MostP.step {ns : List Int} {op : List (List Int)} {p : List Int} {S : Int → List Int → Prop} {M : Nat} (h : MostP ns op p S M) {m : Int} {ws : List Int} (m3 : 3 ≤ m) (mo : m % 2 = 1) (md : m ∣ prodL ns) (hw : ws ∈ wtsA m ns) {A : List (Int × Int)} (tal : TalOk A (cntR m ws op)) {z : Int} (z1 : z ∈ (M : Int) :: (putA A (wsum ws p % m) 0).map fun x => x.2) (z2 : ∀ y ∈ (M : Int) :: (putA A (wsum ws p % m) 0).map fun x => x.2, y ≤ z) : ∃ Z : Nat, z = Z ∧ MostP ns op p (fun m2 ws2 => S m2 ws2 ∨ (m2 = m ∧ ws2 = ws)) Z := by
  have zM := z2 _ List.mem_cons_self
  have nod := (put_keys (k := wsum ws p % m) (v := 0) tal.nod).1
  refine ⟨z.toNat, by omega, fun m2 ws2 r hs hl => ?_, ?_⟩
  · rcases hs with hs | ⟨rfl, rfl⟩
    · have := h.all m2 ws2 r hs hl
      omega
    · by_cases c : cntR m2 ws2 op r = 0
      · omega
      have hg : getA (putA A (wsum ws2 p % m2) 0) r = Option.some (cntR m2 ws2 op r : Int) := by
        rw [get_put, if_neg hl.ne, tal.get, if_neg c]
      have := z2 _ (List.mem_cons_of_mem _ (List.mem_map_of_mem (f := fun x : Int × Int => x.2) (getA_mem hg)))
      dsimp only at this
      omega
  · rcases List.mem_cons.mp z1 with rfl | z1
    · rw [Int.toNat_natCast]
      exact h.some
    · obtain ⟨⟨r, v⟩, hx, rfl⟩ := List.mem_map.mp z1
      have hg := getA_of_mem nod hx
      rw [get_put] at hg
      by_cases c : r = wsum ws p % m
      · rw [if_pos c] at hg
        have : v = 0 := (Option.some.inj hg).symm
        left
        dsimp only
        omega
      · rw [if_neg c, tal.get] at hg
        by_cases c2 : cntR m ws op r = 0
        · rw [if_pos c2] at hg
          cases hg
        · rw [if_neg c2] at hg
          have hv := Option.some.inj hg
          obtain ⟨r0, r1⟩ := cnt_range (show 0 < m by omega) c2
          refine .inr ⟨m, ws, r, ⟨m3, mo, md, hw, r0, r1, c⟩, ?_⟩
          dsimp only
          omega
theorem MostP.ok {ns : List Int} {op : List (List Int)} {p : List Int} {S : Int → List Int → Prop} {M : Nat} (N1 : 1 ≤ prodL ns) (h : MostP ns op p S M) (hS : ∀ m ∈ modsL (prodL ns), ∀ ws ∈ wtsA m ns, S m ws) : MostOk ns op p M :=
  ⟨fun m ws r hl => h.all m ws r (hS m ((mem_mods N1).mpr ⟨hl.m3, hl.odd, hl.dvd⟩) ws hl.wts) hl, h.some⟩

theorem small_two {N : Int} (h1 : 1 ≤ N) (h2 : N ≤ 300) : Builtin.Range.small 3 (N + 1) 2 = true := by
  have h : ∀ k : Fin 301, Builtin.Range.small 3 (((k.val : Nat) : Int) + 1) 2 = true := by decide +kernel
  have := h ⟨N.toNat, by omega⟩
  rwa [show (((⟨N.toNat, by omega⟩ : Fin 301).val : Nat) : Int) = N by show ((N.toNat : Nat) : Int) = N; omega] at this

theorem words_src {H : Hp} {h s : Addr} {bs : List Bool} (ne : bs ≠ []) (hh : H h = some (.lst (wordsV bs))) (src : Src H s) : h ≠ s := fun z => by
  obtain ⟨a, b, c, h3⟩ := src
  cases bs with
  | nil => exact ne rfl
  | cons q t =>
    rw [z, h3] at hh
    cases hh

theorem RespT.xb {H H2 : Hp} {s : Addr} {x : V} {rp : Rp} {ns p : List Int} (src : Src H s) (xb : XB s H H2) (ok : RpOk ns p rp) (h : RespT H x rp) : RespT H2 x rp := by
  cases rp with
  | words bs =>
    obtain ⟨l, h1, h2⟩ := h
    exact ⟨l, h1, xb _ _ (words_src ok.1 h2 src) h2⟩
  | wit m ws r =>
    obtain ⟨wt, h1, wa, h2, h3⟩ := h
    exact ⟨wt, h1, wa, tup_xb src h2 xb, tup_xb src h3 xb⟩
theorem sifs_or {c : TT} {t u r : TS} {D : Ends} {σ : L2.St} {H : Hp} (R : Bool → Hp → Prop) (h : ∀ N : Bool → Hp → Prop, (∀ b H2, R b H2 → N b H2) → c σ H N) (hT : ∀ H2, R true H2 → t { D with nx := r D } σ H2) (hF : ∀ H2, R false H2 → u { D with nx := r D } σ H2) : tSeq (tIfS c t u) r D σ H :=
  h _ fun b H2 z => by
    cases b with
    | true => exact itt rfl (hT H2 z)
    | false => exact itf rfl (hF H2 z)
/-- a small responder -/
def RpSm (ns : List Int) : Rp → Prop
  | .words bs => bs.length ≤ 5
  | .wit m ws _ => m ≤ 300 ∧ ws ∈ wtsA m ns
section
variable {P : Program} {w : World} {K : PySem.W.Frag} {mg : Str → Option Value} {base : Heap}
def sp_law_residue : Sp := fun vs H Q _ => ∃ (wa b : Addr) (m : Int) (ws ps : List Int), vs = [.ref wa, .int m, .ref b] ∧ 0 < m ∧ H wa = some (.tup (ws.map V.int)) ∧ H b = some (.tup (ps.map V.int)) ∧ ws.length = ps.length ∧ ps.length ≤ 4 ∧ (∀ w ∈ ws, w.natAbs < 2 ^ 5000) ∧ (∀ p ∈ ps, p.natAbs < 2 ^ 5000) ∧ ∀ H2, Ex H H2 → Q (.int (wsum ws ps % m)) H2
theorem ok_law_residue (T : TX K mg) : FnOk P w K mg base CX0 1 T.f_law_residue T.fd_law_residue ["_law_weights", "_law_modulus", "_law_spot"] sp_law_residue := by
  refine T.F_law_residue.ok sc_law_residue (fun vs H Q E h => ?_) (fun cdv A outer s H vs Q E hr h => ?_)
  · obtain ⟨wa, b, m, ws, ps, rfl, _⟩ := h
    rfl
  · obtain ⟨wa, b, m, ws, ps, rfl, m0, hwa, hb, l, l4, bw, bp, k⟩ := h
    refine ⟨_, (pss_one (ps_ret (pe_op op_mod (pe_callB (cr_sum rfl) (by rfl) T.z_sum (by decide +kernel) (pa_cons (pe_lc (own := [("_law_weight", 3), ("_law_place", 4)]) (g := (gTup K 2 (gCons (gName 3) (gCons (gName 4) gNil)))) rfl sc_law_residue.nd (CZ.pi_z2 (fl := [true, true]) rfl (by rfl) T.z_zip (pa_cons (pv 0) (pa_cons (pv 2) pa_nil))) (blkOk_by (N := N_law_residue) (sc := defScope s_law_residue) (by decide +kernel)) (fun _ _ _ _ _ => (pg_tup rfl (pgs_cons (pg_name (i := 3) sc_law_residue.nd rfl (Or.inl rfl)) (pgs_cons (pg_name (i := 4) sc_law_residue.nd rfl (Or.inl rfl)) pgs_nil)))) (fun _ _ _ _ _ => pts_nil) (fun _ _ _ _ _ => (pe_op op_mulI (pv 3) (pv 4)))) pa_nil)) (pv 1)))), ?_⟩
    refine ⟨_, rfl, _, rfl, [wa, b], rfl, rfl, all2 (sqT hwa) (sqT hb), fun D hD => ?_⟩
    refine lc_vals (CZ.walk_rows (xss := [ws.map V.int, ps.map V.int]) (n := ps.length) (lens2 (by rw [List.length_map, l]) (by rw [List.length_map]))) ((List.zipWith (fun w x => w * x) ws ps).map V.int) (by rw [List.length_map, List.length_zipWith, l, Nat.min_self]) (by omega) hD (fun H3 e => .cons (sqT (e _ _ hwa)) (.cons (sqT (e _ _ hb)) .nil)) ?_ (gmono_tup (gmono_cons gmono_name (gmono_cons gmono_name gmono_nil))) ?_
    · intro j y H6 H7 R hj e yy kk
      obtain ⟨Tb, p, d, rfl, hTb, rfl, hp, hdd⟩ := yints2 yy
      refine ⟨Tb, _, rfl, SqT.of upd_same, rfl, _, _, rfl, _, _, rfl, rfl, ?_⟩
      refine ⟨rfl, _, rfl, _, rfl, _, _, rfl, rfl, (wide_mul (bw p (List.mem_of_getElem? hp)) (bp d (List.mem_of_getElem? hdd)) (by decide) (by decide) (by decide)).ok, ?_⟩
      refine kk _ _ (exn hTb) ?_
      rw [List.getElem?_map, List.getElem?_zipWith, hp, hdd]
      rfl
    · intro H3 e3 hD3
      exact ⟨D, _, rfl, SqL.of hD3, _, rfl, _, _, rfl, rfl, m0, k _ e3⟩
def sp_law_residueL : Sp := fun vs H Q _ => ∃ (wa b : Addr) (m : Int) (ws ps : List Int), vs = [.ref wa, .int m, .ref b] ∧ 0 < m ∧ H wa = some (.lst (ws.map V.int)) ∧ H b = some (.tup (ps.map V.int)) ∧ ws.length = ps.length ∧ ps.length ≤ 4 ∧ (∀ w ∈ ws, w.natAbs < 2 ^ 5000) ∧ (∀ p ∈ ps, p.natAbs < 2 ^ 5000) ∧ ∀ H2, Ex H H2 → Q (.int (wsum ws ps % m)) H2
theorem ok_law_residueL (T : TX K mg) : FnOk P w K mg base CX0 1 T.f_law_residue T.fd_law_residue ["_law_weights", "_law_modulus", "_law_spot"] sp_law_residueL := by
  refine T.F_law_residue.ok sc_law_residue (fun vs H Q E h => ?_) (fun cdv A outer s H vs Q E hr h => ?_)
  · obtain ⟨wa, b, m, ws, ps, rfl, _⟩ := h
    rfl
  · obtain ⟨wa, b, m, ws, ps, rfl, m0, hwa, hb, l, l4, bw, bp, k⟩ := h
    refine ⟨_, (pss_one (ps_ret (pe_op op_mod (pe_callB (cr_sum rfl) (by rfl) T.z_sum (by decide +kernel) (pa_cons (pe_lc (own := [("_law_weight", 3), ("_law_place", 4)]) (g := (gTup K 2 (gCons (gName 3) (gCons (gName 4) gNil)))) rfl sc_law_residue.nd (CZ.pi_z2 (fl := [false, true]) rfl (by rfl) T.z_zip (pa_cons (pv 0) (pa_cons (pv 2) pa_nil))) (blkOk_by (N := N_law_residue) (sc := defScope s_law_residue) (by decide +kernel)) (fun _ _ _ _ _ => (pg_tup rfl (pgs_cons (pg_name (i := 3) sc_law_residue.nd rfl (Or.inl rfl)) (pgs_cons (pg_name (i := 4) sc_law_residue.nd rfl (Or.inl rfl)) pgs_nil)))) (fun _ _ _ _ _ => pts_nil) (fun _ _ _ _ _ => (pe_op op_mulI (pv 3) (pv 4)))) pa_nil)) (pv 1)))), ?_⟩
    refine ⟨_, rfl, _, rfl, [wa, b], rfl, rfl, all2 (sqL hwa) (sqT hb), fun D hD => ?_⟩
    refine lc_vals (CZ.walk_rows (xss := [ws.map V.int, ps.map V.int]) (n := ps.length) (lens2 (by rw [List.length_map, l]) (by rw [List.length_map]))) ((List.zipWith (fun w x => w * x) ws ps).map V.int) (by rw [List.length_map, List.length_zipWith, l, Nat.min_self]) (by omega) hD (fun H3 e => .cons (sqL (e _ _ hwa)) (.cons (sqT (e _ _ hb)) .nil)) ?_ (gmono_tup (gmono_cons gmono_name (gmono_cons gmono_name gmono_nil))) ?_
    · intro j y H6 H7 R hj e yy kk
      obtain ⟨Tb, p, d, rfl, hTb, rfl, hp, hdd⟩ := yints2 yy
      refine ⟨Tb, _, rfl, SqT.of upd_same, rfl, _, _, rfl, _, _, rfl, rfl, ?_⟩
      refine ⟨rfl, _, rfl, _, rfl, _, _, rfl, rfl, (wide_mul (bw p (List.mem_of_getElem? hp)) (bp d (List.mem_of_getElem? hdd)) (by decide) (by decide) (by decide)).ok, ?_⟩
      refine kk _ _ (exn hTb) ?_
      rw [List.getElem?_map, List.getElem?_zipWith, hp, hdd]
      rfl
    · intro H3 e3 hD3
      exact ⟨D, _, rfl, SqL.of hD3, _, rfl, _, _, rfl, rfl, m0, k _ e3⟩
def sp_law_number (K : PySem.W.Frag) : Sp := fun vs H Q _ => ∃ x o low high, vs = [x, .int low, .int high] ∧ IsI K H x o ∧ Q (.bl (between o low high)) H
theorem ok_law_number (T : TX K mg) : FnOk P w K mg base CX0 1 T.f_law_number T.fd_law_number ["_law_thing", "_law_low", "_law_high"] (sp_law_number K) := by
  refine T.F_law_number.ok sc_law_number (fun vs H Q E h => ?_) (fun cdv A outer s H vs Q E hr h => ?_)
  · obtain ⟨x, o, low, high, rfl, _⟩ := h
    rfl
  · obtain ⟨x, o, low, high, rfl, hx, k⟩ := h
    refine ⟨_, (pss_one (ps_ret (pe_and (pe_callB call_isi (by rfl) T.z_isinstance (by decide +kernel) (pa_cons (pv 0) (pa_cons (pe_bltn (v := .ty "int") rfl T.z_int (by decide +kernel) rfl) pa_nil))) (pe_and (pe_not (pe_callB call_isi (by rfl) T.z_isinstance (by decide +kernel) (pa_cons (pv 0) (pa_cons (pe_bltn (v := .ty "bool") rfl T.z_bool (by decide +kernel) rfl) pa_nil)))) (pe_one (pe_chain op_le op_le (pv 1) (pv 0) (pv 2))))))), ?_⟩
    cases o with
    | some i =>
      cases hx
      refine ⟨_, rfl, _, _, _, _, true, rfl, .ty _, .base (.int i), kit_ty (by decide +kernel), _, rfl, _, rfl, _, _, _, _, false, rfl, .ty _, .base (.int i), kit_ty (by decide +kernel), _, rfl, _, rfl, ?_⟩
      refine ⟨_, rfl, _, rfl, _, _, rfl, rfl, _, rfl, ?_⟩
      refine ite2 (fun c => ?_) (fun c => ?_)
      · have c1 : low ≤ i := of_decide_eq_true c
        refine ⟨_, rfl, _, _, rfl, rfl, ?_⟩
        have e : between (some i) low high = decide (i ≤ high) := by show (decide (low ≤ i) && decide (i ≤ high)) = _; rw [c]; rfl
        rw [e] at k
        exact k
      · have e : between (some i) low high = false := by show (decide (low ≤ i) && decide (i ≤ high)) = _; rw [Bool.eq_false_iff.mpr c]; rfl
        rw [e] at k
        exact k
    | none =>
      obtain ⟨t, b1, b2, ht, h1, h2, hb⟩ := hx
      refine ⟨_, rfl, _, _, _, _, b1, rfl, .ty _, ht, h1, _, rfl, ?_⟩
      cases b1 with
      | false => exact k
      | true =>
        refine ⟨_, rfl, _, _, _, _, b2, rfl, .ty _, ht, h2, _, rfl, ?_⟩
        have e : (!b2) = false := hb
        rw [e]
        exact ⟨_, rfl, k⟩
def sp_law_draw_responder : Sp := fun vs H Q _ => ∃ (s l p0 : Addr) (ns p : List Int), vs = [.ref s, .ref l, .ref p0] ∧ Src H s ∧ H l = some (.lst (ns.map V.int)) ∧ l ≠ s ∧ SzOk ns ∧ prodL ns ≤ 300 ∧ H p0 = some (.tup (p.map V.int)) ∧ SeatOk ns p ∧
  ∀ x rp H2, RespT H2 x rp → RpOk ns p rp → RpSm ns rp → XB s H H2 → Src H2 s → Q x H2
theorem ok_law_draw_responder (T : TX K mg) : FnOk P w K mg base CX0 4 T.f_law_draw_responder T.fd_law_draw_responder ["_law_source_here", "_law_dims_here", "_law_spot"] sp_law_draw_responder := by
  refine T.F_law_draw_responder.ok sc_law_draw_responder (fun vs H Q E h => ?_) (fun cdv A outer s H vs Q E hr h => ?_)
  · obtain ⟨s, l, p0, ns, p, rfl, _⟩ := h
    rfl
  · obtain ⟨s, l, p0, ns, p, rfl, src, hl, nls, ok, pr, hp0, sk, k⟩ := h
    refine ⟨_, (pss_cons (ps_setLc (own := [("_law_one", 8)]) (g := (gName 8)) (i := 3) rfl sc_law_draw_responder.nd rfl rfl (sw_true rfl rfl rfl (by decide +kernel)) (pi_range3 rfl T.z_range (pa_cons pe_int (pa_cons (pe_op op_add (pe_call (ok_law_total T) (hr.mono (by decide)) rfl T.m_law_total T.F_law_total.kp T.b_law_total .nil pass0 (pa_cons (pv 1) pa_nil)) pe_int) (pa_cons pe_int pa_nil)))) (blkOk_by (N := N_law_draw_responder) (sc := defScope s_law_draw_responder) (by decide +kernel)) (fun _ _ _ _ _ => (pg_name (i := 8) sc_law_draw_responder.nd rfl (Or.inl rfl))) (fun _ _ _ _ _ => (pts_one (pt_cmpR op_eq (pe_op op_mod (pe_call (ok_law_total T) (hr.mono (by decide)) rfl T.m_law_total T.F_law_total.kp T.b_law_total .nil pass0 (pa_cons (pv 1) pa_nil)) (pv 8)) pe_int (nomark _)))) (fun _ _ _ _ _ => (pv 8))) (pss_cons (ps_if (PW.pt (pw_or (pt_cmpR (r := rEqD K) (op_eqD hr.units) (pv 3) (pe_lst pa_nil) (nomark _)) (pw_or1 (pt_cmpR op_eq (pe_call (ok_law_draw T) (hr.mono (by decide)) rfl T.m_law_draw T.F_law_draw.kp T.b_law_draw .nil pass0 (pa_cons (pv 0) (pa_cons pe_int pa_nil))) pe_int (nomark _))))) (pss_one (ps_ret (pe_lc (own := [("_law_k", 9)]) (g := (gName 9)) rfl sc_law_draw_responder.nd (pi_range1 rfl T.z_range (pa_cons (pe_op op_add pe_int (pe_call (ok_law_draw T) (hr.mono (by decide)) rfl T.m_law_draw T.F_law_draw.kp T.b_law_draw .nil pass0 (pa_cons (pv 0) (pa_cons pe_int pa_nil)))) pa_nil)) (blkOk_by (N := N_law_draw_responder) (sc := defScope s_law_draw_responder) (by decide +kernel)) (fun _ _ _ _ _ => (pg_name (i := 9) sc_law_draw_responder.nd rfl (Or.inl rfl))) (fun _ _ _ _ _ => pts_nil) (fun _ _ _ _ _ => (pe_call (ok_law_choice T) hr rfl T.m_law_choice T.F_law_choice.kp T.b_law_choice .nil pass0 (pa_cons (pv 0) (pa_cons (pe_lst (pa_cons pe_str (pa_cons pe_str pa_nil))) pa_nil))))))) pss_nil) (pss_cons (ps_set (i := 4) sc_law_draw_responder.nd rfl (Or.inr rfl) (pe_call (ok_law_choice T) hr rfl T.m_law_choice T.F_law_choice.kp T.b_law_choice .nil pass0 (pa_cons (pv 0) (pa_cons (pv 3) pa_nil)))) (pss_cons (ps_set (i := 5) sc_law_draw_responder.nd rfl (Or.inl rfl) (pe_lst pa_nil)) (pss_cons (ps_for PassesOwn.never rfl (pi_list (pv 1)) (pg_name (i := 6) sc_law_draw_responder.nd rfl (Or.inr rfl)) (pss_one (ps_expr (pe_bm PySem.F.plainAttrs_list PySem.F.slot_list_append PySem.F.type_list_append mt_append (pv 5) (pa_cons (pe_call (ok_law_choice T) hr rfl T.m_law_choice T.F_law_choice.kp T.b_law_choice .nil pass0 (pa_cons (pv 0) (pa_cons (pe_lc (own := [("_law_one", 8)]) (g := (gName 8)) rfl sc_law_draw_responder.nd (pi_range1 rfl T.z_range (pa_cons (pv 4) pa_nil)) (blkOk_by (N := N_law_draw_responder) (sc := defScope s_law_draw_responder) (by decide +kernel)) (fun _ _ _ _ _ => (pg_name (i := 8) sc_law_draw_responder.nd rfl (Or.inl rfl))) (fun _ _ _ _ _ => (pts_one (pt_cmpR op_eq (pe_op op_mod (pe_op op_mulI (pv 8) (pv 6)) (pv 4)) pe_int (nomark _)))) (fun _ _ _ _ _ => (pv 8))) pa_nil))) pa_nil))))) (pss_cons (ps_set (i := 7) sc_law_draw_responder.nd rfl (Or.inl rfl) (pe_op op_mod (pe_op op_add (pe_op op_add (pe_call (ok_law_residueL T) (hr.mono (by decide)) rfl T.m_law_residue T.F_law_residue.kp T.b_law_residue .nil pass0 (pa_cons (pv 5) (pa_cons (pv 4) (pa_cons (pv 2) pa_nil)))) pe_int) (pe_call (ok_law_draw T) (hr.mono (by decide)) rfl T.m_law_draw T.F_law_draw.kp T.b_law_draw .nil pass0 (pa_cons (pv 0) (pa_cons (pe_op op_sub (pv 4) pe_int) pa_nil)))) (pv 4))) (pss_one (ps_ret (pe_tup (pa_cons (pv 4) (pa_cons (pe_callTy call_tuple_of (by rfl) T.z_tuple (by decide +kernel) (pa_cons (pv 5) pa_nil)) (pa_cons (pv 7) pa_nil)))))))))))), ?_⟩
    have N1 := prodL_pos ok.one
    have hB := szc_of ok pr
    have pr9 : prodL ns ≤ 10 ^ 9 := Int.le_trans pr (by decide)
    refine ⟨_, rfl, l, ns, rfl, hl, ok.one, pr9, _, _, rfl, rfl, 3, prodL ns + 1, 2, (Builtin.Range.rangeSize 3 (prodL ns + 1) 2).toNat, rfl, ⟨by decide, by decide, small_two N1 pr, rangeSize_toNat _ _ _⟩, fun D hD => ?_⟩
    refine lc_filt walk_rangeC ((List.range (Builtin.Range.rangeSize 3 (prodL ns + 1) 2).toNat).map fun (i : Nat) => 3 + (i : Int) * 2) (fun m => decide (prodL ns % m = 0)) V.int (by rw [List.length_map, List.length_range]) (by rw [mods_size N1]; omega) hD (fun _ _ => True.intro) ?_ ?_
    · rintro i x a _ H5 R S ha e6 ⟨rfl, hx⟩ kR kS
      rw [List.getElem?_map] at ha
      obtain ⟨i2, hi2, rfl⟩ := Option.map_eq_some_iff.mp ha
      obtain ⟨hi3, hi4⟩ := List.getElem?_eq_some_iff.mp hi2
      rw [List.getElem_range] at hi4
      subst hi4
      subst hx
      refine ⟨rfl, ?_⟩
      refine ⟨_, rfl, l, ns, rfl, e6 _ _ hl, ok.one, pr9, _, rfl, _, _, rfl, rfl, (by show (0 : Int) < 3 + (i : Int) * 2; omega), rfl, ?_⟩
      by_cases c : prodL ns % (3 + (i : Int) * 2) = 0
      · refine ⟨_, rfl, itt (by show decide (V.int (prodL ns % (3 + (i : Int) * 2)) = V.int 0) = true; rw [c]; rfl) ?_⟩
        exact ⟨_, rfl, kR _ _ exr (decide_eq_true c) rfl⟩
      · refine ⟨_, rfl, itf (by show decide (V.int (prodL ns % (3 + (i : Int) * 2)) = V.int 0) = false; rw [dec_int]; simpa using c) ?_⟩
        exact kS _ exr (decide_eq_false c)
    intro H1 e1 hD1
    replace hD1 : H1 D = some (.lst ((modsL (prodL ns)).map V.int)) := hD1
    have lm : (modsL (prodL ns)).length ≤ 300 := by
      unfold modsL
      refine Nat.le_trans (List.length_filter_le _ _) ?_
      rw [List.length_map, List.length_range, mods_size N1]
      omega
    have mo := fun m => mem_mods (N := prodL ns) (m := m) N1
    generalize modsL (prodL ns) = ms at *
    have nDs : D ≠ s := src.ne hD
    have src1 := src.mono e1
    dsimp only [gName]
    refine sifs_or (fun b H2 => XB s H H2 ∧ Src H2 s ∧ H2 D = some (.lst (ms.map V.int)) ∧ (b = false → ms ≠ [])) (fun N hN => ?_) (fun H2 ⟨xb2, src2, hD2, _⟩ => ?_) (fun H2 ⟨xb2, src2, hD2, hne⟩ => ?_)
    · refine ⟨_, rfl, slen rfl, ?_⟩
      (intro el nel; generalize hGel : upd _ el _ = H2; have eH2 := exG hGel nel; have hel := atG hGel; clear hGel)
      refine ⟨_, _, .lst (SqL.of (eH2 _ _ hD1)) (dpall_ints ms), .lst (SqL.of hel) (dpall_ints []), (sh_list (n := 59) (ds := ms.map PyData.int) fun d hd => by obtain ⟨i, _, rfl⟩ := List.mem_map.mp hd; exact sh_int i).ok, (sh_list (n := 59) (ds := []) fun _ h => nomatch h).ok, ?_⟩
      by_cases c : ms = []
      · refine ⟨_, rfl, itt (by rw [c]; rfl) (hN true _ ⟨XB.of (ext e1 eH2), src1.mono eH2, eH2 _ _ hD1, fun h => by cases h⟩)⟩
      · refine ⟨_, rfl, itf (by cases ms with | nil => exact absurd rfl c | cons m ms => simp [PyData.eqv, PyData.eqvAll]) ?_⟩
        refine ⟨_, rfl, s, 2, rfl, src1.mono eH2, by decide, by decide +kernel, fun r H3 r0 r1 xb3 src3 => ?_⟩
        exact ⟨rfl, _, rfl, hN _ _ ⟨(XB.of (ext e1 eH2)).trans xb3, src3, xb3 _ _ nDs (eH2 _ _ hD1), fun _ => c⟩⟩
    · refine ⟨_, rfl, s, 5, rfl, src2, by decide, by decide +kernel, fun r H3 r0 r1 xb3 src3 => ?_⟩
      refine ⟨_, _, rfl, rfl, _, rfl, by omega, by omega, fun D2 hD2 => ?_⟩
      have Ds : D2 ≠ s := src3.ne hD2
      have X3 := xb2.trans xb3
      have nD : H D2 = none := XB.back X3 Ds hD2
      refine lc_it walk_range (fun i Hx => ∃ bs : List Bool, Hx D2 = some (.lst (bs.map fun b => V.str (awayW b))) ∧ bs.length = i ∧ XB s H Hx ∧ Src Hx s) ⟨[], upd_same, rfl, X3.trans (XB.of (exn hD2)), src3.mono (exn hD2)⟩ (fun _ _ _ _ => True.intro) ?_ ?_
      · rintro i x _ Hx hi ⟨bs, hbs, lb, xb, src⟩ ⟨rfl, hx⟩
        have hi2 : i < (1 + r).toNat := hi
        refine ⟨rfl, _, rfl, slen rfl, ?_⟩
        (intro al nal; generalize hGal : upd _ al _ = Hy; have eHy := exG hGal nal; have hal := atG hGal; clear hGal)
        refine ⟨s, al, [V.str "forward", V.str "backward"], rfl, src.mono eHy, hal, src.ne nal, by simp, by simp, fun y Hz hj xbz srcz => ?_⟩
        have hbz := xbz _ _ Ds (eHy _ _ hbs)
        obtain ⟨c, rfl⟩ : ∃ c : Bool, y = V.str (awayW c) := by
          rcases List.mem_cons.mp hj with rfl | hj
          · exact ⟨false, rfl⟩
          · rw [List.mem_singleton.mp hj]
            exact ⟨true, rfl⟩
        refine ⟨_, hbz, ?_, bs ++ [c], by rw [upd_same, List.map_append]; rfl, by rw [List.length_append, lb]; rfl, (xb.trans ((XB.of eHy).trans xbz)).app nD, srcz.app Ds⟩
        rw [List.length_map, lb]
        exact Nat.lt_of_le_of_lt (show i ≤ 100 by omega) (by decide)
      · rintro Hx ⟨bs, hbs, lb, xb, src⟩
        have lb2 : bs.length = (1 + r).toNat := lb
        exact k _ (.words bs) Hx ⟨D2, rfl, hbs⟩ ⟨fun z => by rw [z] at lb2; simp at lb2; omega, by omega⟩ (show bs.length ≤ 5 by omega) xb src
    · refine ⟨_, rfl, _, rfl, s, D, _, rfl, src2, hD2, nDs, (fun z => hne rfl (List.map_eq_nil_iff.mp z)), by rw [List.length_map]; omega, fun v H3 hv xb3 src3 => ?_⟩
      obtain ⟨m, hm, rfl⟩ := List.mem_map.mp hv
      obtain ⟨m3, mo1, md⟩ := (mo m).mp hm
      have m300 : m ≤ 300 := Int.le_trans (Int.le_of_dvd (by omega) md) pr
      have X3 := xb2.trans xb3
      clear hD2 hD1 xb2 xb3 src2 hv
      dsimp only [gName]
      refine ⟨slen rfl, ?_⟩
      (intro wl nwl; generalize hGwl : upd _ wl _ = H4; have eH4 := exG hGwl nwl; have hwl := atG hGwl; clear hGwl)
      have X4 := X3.trans (XB.of eH4)
      have nwl0 := nwl
      have nwl : wl ≠ s := src3.ne nwl
      have hl4 := X4 _ _ nls hl
      dsimp only [gName]
      refine ⟨_, rfl, l, rfl, ⟨_, SqL.of hl4⟩, ?_⟩
      refine for_it (walk_list (xs := ns.map V.int)) (fun i σ Hx => ∃ (ws : List Int) (y6 y7 y8 y9 : Option V), σ = [some (.ref s), some (.ref l), some (.ref p0), some (.ref D), some (.int m), some (.ref wl), y6, y7, y8, y9] ∧ Hx wl = some (.lst (ws.map V.int)) ∧ XB s H Hx ∧ Src Hx s ∧ ws.length = i ∧ ∀ (j : Nat) (x n : Int), ws[j]? = some x → ns[j]? = some n → (0 ≤ x ∧ x < m) ∧ x * n % m = 0) ⟨[], _, _, _, _, rfl, hwl, X4, src3.mono eH4, rfl, fun j x n h => by cases h⟩ (fun i σ Hx _ ⟨_, _, _, _, _, _, _, xb, _⟩ => SqL.of (xb _ _ nls hl)) ?_ ?_
      · rintro i x σ _ Hx hi ⟨ws, y6, y7, y8, y9, rfl, hwx, xb, src, lw, fit⟩ ⟨rfl, hx⟩
        obtain ⟨n, hn, rfl⟩ := map_get hx
        have n1 := ok.one n (List.mem_of_getElem? hn)
        dsimp only [gName]
        refine ⟨_, rfl, .inl ⟨rfl, _, SqL.of hwx⟩, _, rfl, _, rfl, m, rfl, by omega, by omega, fun D2 hD2 => ?_⟩
        have nD2 : D2 ≠ s := src.ne hD2
        have lf := fit_len (show 0 < m by omega) n1
        have nb := mul_le_prod ok.one hn
        refine lc_filt walk_range ((List.range m.toNat).map fun (i : Nat) => (i : Int)) (fun x => decide (x * n % m = 0)) V.int (by rw [List.length_map, List.length_range]) (by omega) hD2 (fun _ _ => True.intro) ?_ ?_
        · rintro j x p Hx _ R S hp ex ⟨rfl, hx⟩ kR kS
          rw [List.getElem?_map] at hp
          obtain ⟨i2, hi2, rfl⟩ := Option.map_eq_some_iff.mp hp
          obtain ⟨hi3, hi4⟩ := List.getElem?_eq_some_iff.mp hi2
          rw [List.getElem_range] at hi4
          subst hi4
          obtain rfl : x = .int (j : Int) := hx.trans (congrArg V.int (Int.zero_add _))
          refine ⟨rfl, ?_⟩
          refine ⟨_, rfl, _, rfl, _, _, rfl, rfl, mul_ok (.inr (by omega)), _, rfl, _, _, rfl, rfl, (by show (0 : Int) < m; omega), rfl, ?_⟩
          by_cases c : (j : Int) * n % m = 0
          · refine ⟨_, rfl, itt (by show decide (V.int ((j : Int) * n % m) = V.int 0) = true; rw [c]; rfl) ?_⟩
            exact ⟨_, rfl, kR _ _ exr (decide_eq_true c) rfl⟩
          · refine ⟨_, rfl, itf (by show decide (V.int ((j : Int) * n % m) = V.int 0) = false; rw [dec_int]; simpa using c) ?_⟩
            exact kS _ exr (decide_eq_false c)
        intro H6 e6 hD6
        replace hD6 : H6 D2 = some (.lst ((fitL m n).map V.int)) := hD6
        have zin : (0 : Int) ∈ fitL m n := by
          unfold fitL
          exact List.mem_filter.mpr ⟨List.mem_map.mpr ⟨0, List.mem_range.mpr (by omega), rfl⟩, by simp⟩
        refine ⟨s, D2, _, rfl, src.mono e6, hD6, nD2, (fun z => by rw [List.map_eq_nil_iff.mp z] at zin; cases zin), by rw [List.length_map]; omega, fun v H7 hv xb7 src7 => ?_⟩
        obtain ⟨x, hx, rfl⟩ := List.mem_map.mp hv
        have hw7 := xb7 _ _ nwl (e6 _ _ hwx)
        have hx2 : (0 ≤ x ∧ x < m) ∧ x * n % m = 0 := by
          unfold fitL at hx
          obtain ⟨h1, h2⟩ := List.mem_filter.mp hx
          obtain ⟨q, hq, rfl⟩ := List.mem_map.mp h1
          have := List.mem_range.mp hq
          exact ⟨⟨by omega, by omega⟩, of_decide_eq_true h2⟩
        refine ⟨wl, _, _, rfl, rfl, hw7, by rw [List.length_map, lw]; exact Nat.lt_of_le_of_lt (show _ ≤ 4 by have := ok.le; rw [List.length_map] at hi; omega) (by decide), ws ++ [x], _, _, _, _, rfl, by rw [List.map_append]; exact upd_same, (xb.trans ((XB.of e6).trans xb7)).app (XB.back X3 nwl nwl0), src7.app nwl, by rw [List.length_append, lw]; rfl, ?_⟩
        intro j y n2 hj hn2
        by_cases cj : j < ws.length
        · rw [List.getElem?_append_left cj] at hj
          exact fit j y n2 hj hn2
        · have hj2 : j = ws.length := by
            have := (List.getElem?_eq_some_iff.mp hj).1
            rw [List.length_append] at this
            have : j < ws.length + 1 := this
            omega
          subst hj2
          rw [List.getElem?_append_right (Nat.le_refl _), Nat.sub_self] at hj
          obtain rfl : y = x := (Option.some.inj hj).symm
          rw [lw, hn] at hn2
          obtain rfl := Option.some.inj hn2
          exact hx2
      · rintro σ H5 ⟨ws, y6, y7, y8, y9, rfl, hw5, xb5, src5, lw, fit⟩
        have n4 := ok.le
        rw [List.length_map] at lw
        have hwm : ws ∈ wtsA m ns := mem_wts.mpr ⟨lw, fit⟩
        have wok0 : WitOk ns m ws 0 := wts_wit m3 mo1 (Int.le_refl _) (by omega) hwm
        have bm : m.natAbs < 2 ^ 5000 := Nat.lt_of_lt_of_le (show m.natAbs < 2 ^ 9 by show _ < 512; omega) (Nat.pow_le_pow_right (by decide) (show 9 ≤ 5000 by decide))
        obtain ⟨b1, b2, b3⟩ := wit_bounds hB wok0 bm sk
        have hp5 := tup_xb src hp0 xb5
        refine ⟨_, rfl, _, rfl, _, rfl, wl, p0, m, ws, p, rfl, by omega, hw5, hp5, b1, by rw [sk.len]; exact n4, b2, b3, fun H6 e6 => ?_⟩
        refine ⟨_, _, rfl, rfl, _, rfl, _, rfl, _, _, rfl, rfl, s, m - 1, rfl, src5.mono e6, by omega, Nat.lt_of_le_of_lt (show (m - 1).natAbs ≤ 300 by omega) (by decide +kernel), fun d H7 d0 d1 xb7 src7 => ?_⟩
        refine ⟨_, _, rfl, rfl, _, rfl, _, _, rfl, rfl, (by show (0 : Int) < m; omega), ?_⟩
        dsimp only [gName]
        have hw7 := xb7 _ _ nwl (e6 _ _ hw5)
        have X7 := xb5.trans ((XB.of e6).trans xb7)
        refine ⟨_, rfl, _, rfl, wl, _, rfl, .inl ⟨SqL.of hw7, ?_⟩⟩
        (intro wt nwt; generalize hGwt : upd _ wt _ = H8; have eH8 := exG hGwt nwt; have hwt := atG hGwt; clear hGwt)
        refine ⟨_, rfl, by show 3 ≤ sizeLine; decide, fun r nr => ?_⟩
        have e9 := exn (o := .tup [.int m, .ref wt, .int ((wsum ws p % m + 1 + d) % m)]) nr
        have r0 : 0 ≤ (wsum ws p % m + 1 + d) % m := Int.emod_nonneg _ (by omega)
        have r1 : (wsum ws p % m + 1 + d) % m < m := Int.emod_lt_of_pos _ (by omega)
        have f0 : 0 ≤ wsum ws p % m := Int.emod_nonneg _ (by omega)
        have f1 : wsum ws p % m < m := Int.emod_lt_of_pos _ (by omega)
        refine k _ (.wit m ws ((wsum ws p % m + 1 + d) % m)) _ ⟨r, rfl, wt, upd_same, e9 _ _ hwt⟩ ⟨wts_wit m3 mo1 r0 r1 hwm, bm, fun z => ?_⟩ ⟨m300, hwm⟩ (X7.trans (XB.of (ext eH8 e9))) (src7.mono (ext eH8 e9))
        generalize wsum ws p % m = φ at *
        by_cases c : φ + 1 + d < m
        · rw [Int.emod_eq_of_lt (by omega) c] at z
          omega
        · have : (φ + 1 + d) % m = φ + 1 + d - m := by
            rw [← Int.sub_emod_right, Int.emod_eq_of_lt (by omega) (by omega)]
          omega
end

/-! ### a tour as it is seen from outside -/
/-- the first visits of a walk -/
def beenL (ns st : List Int) (hs : List Hop) : List (List Int) := (walkL ns st hs).foldl (fun b q => if q ∈ b then b else b ++ [q]) []
theorem pos_next (ns st : List Int) (hs : List Hop) (h : Hop) : posL ns st (hs ++ [h]) = nxtP ns (posL ns st hs) h.1 h.2 := pos_snoc ns st hs h
theorem been_snoc (ns st : List Int) (hs : List Hop) (h : Hop) : beenL ns st (hs ++ [h]) = if posL ns st (hs ++ [h]) ∈ beenL ns st hs then beenL ns st hs else beenL ns st hs ++ [posL ns st (hs ++ [h])] := by
  unfold beenL
  rw [walk_snoc, List.foldl_append]
  rfl
theorem been_nil (ns st : List Int) : beenL ns st [] = [st] := rfl
/-- a call on the way -/
structure StepAt (ns st : List Int) (rp : Rp) (hs : List Hop) (h : Hop) : Prop where
  way : ∃ d rest, dep (countsL ns (openL ns (beenL ns st hs) (posL ns st hs))) (posL ns st hs) = some d ∧ fromL ns (countsL ns (openL ns (beenL ns st hs) (posL ns st hs))) (posL ns st hs) d = h.1 :: rest
  ans : h.2 = ansB ns rp (posL ns st hs) h.1 hs.length
structure TourOk (ns st : List Int) (rp : Rp) (lim : Int) (R : TrR) : Prop where
  been : R.been = beenL ns st R.hops
  last : R.last = posL ns st R.hops
  steps : ∀ i h, R.hops[i]? = some h → StepAt ns st rp (R.hops.take i) h
  le : (R.hops.length : Int) ≤ lim
  oc : (R.oc = 0 ∧ openL ns R.been R.last = []) ∨ (R.oc = 1 ∧ openL ns R.been R.last ≠ [] ∧ dep (countsL ns (openL ns R.been R.last)) R.last = none) ∨ (R.oc = 2 ∧ (R.hops.length : Int) = lim ∧ ∃ d, dep (countsL ns (openL ns R.been R.last)) R.last = some d)
  nod : R.been.Nodup
  seat : ∀ t ∈ R.been, SeatOk ns t
  pin : R.last ∈ R.been
theorem tour_ok {ns st : List Int} {rp : Rp} {lim : Int} {R : TrR} : ∀ (f : Nat) (hops : List Hop) {been : List (List Int)} {p : List Int}, tourF ns rp lim f hops been p = some R → been = beenL ns st hops → p = posL ns st hops → (∀ i h, hops[i]? = some h → StepAt ns st rp (hops.take i) h) → (hops.length : Int) ≤ lim → been.Nodup → (∀ t ∈ been, SeatOk ns t) → p ∈ been → TourOk ns st rp lim R
  | 0, _, _, _, h, _, _, _, _, _, _, _ => by cases h
  | f + 1, hops, been, p, h, eb, ep, hs, hl, nod, sks, pin => by
    unfold tourF at h
    by_cases c1 : openL ns been p = []
    · rw [if_pos c1] at h
      obtain rfl := (Option.some.inj h).symm
      exact ⟨eb, ep, hs, hl, .inl ⟨rfl, c1⟩, nod, sks, pin⟩
    rw [if_neg c1] at h
    cases hd : dep (countsL ns (openL ns been p)) p with
    | none =>
      rw [hd] at h
      obtain rfl := (Option.some.inj h).symm
      exact ⟨eb, ep, hs, hl, .inr (.inl ⟨rfl, c1, hd⟩), nod, sks, pin⟩
    | some d =>
      rw [hd] at h
      dsimp only at h
      by_cases c2 : (hops.length : Int) = lim
      · rw [if_pos c2] at h
        obtain rfl := (Option.some.inj h).symm
        exact ⟨eb, ep, hs, hl, .inr (.inr ⟨rfl, c2, d, hd⟩), nod, sks, pin⟩
      rw [if_neg c2] at h
      obtain ⟨c, rest, hfr, sc, sn, hn, _, _⟩ := tour_step (sks p pin) pin hd (ansB ns rp p ((fromL ns (countsL ns (openL ns been p)) p d).headD []) hops.length)
      rw [hfr] at h sn hn
      replace h : tourF ns rp lim f (hops ++ [(c, ansB ns rp p c hops.length)]) (if nxtP ns p c (ansB ns rp p c hops.length) ∈ openL ns been p then been ++ [nxtP ns p c (ansB ns rp p c hops.length)] else been) (nxtP ns p c (ansB ns rp p c hops.length)) = some R := h
      replace sn : SeatOk ns (nxtP ns p c (ansB ns rp p c hops.length)) := sn
      replace hn : nxtP ns p c (ansB ns rp p c hops.length) ∈ (if nxtP ns p c (ansB ns rp p c hops.length) ∈ openL ns been p then been ++ [nxtP ns p c (ansB ns rp p c hops.length)] else been) := hn
      generalize hb : ansB ns rp p c hops.length = b at h sn hn
      have ep2 : nxtP ns p c b = posL ns st (hops ++ [(c, b)]) := by rw [pos_next, ← ep]
      have io : nxtP ns p c b ∈ openL ns been p ↔ nxtP ns p c b ∉ been := by
        rw [mem_open]
        exact ⟨fun z => z.2.1, fun z => ⟨sn, z, fun e => z (by rw [e]; exact pin)⟩⟩
      refine tour_ok f _ h ?_ ep2 ?_ ?_ ?_ ?_ hn
      · rw [been_snoc, ← eb, ← ep2]
        by_cases z : nxtP ns p c b ∈ been
        · rw [if_pos z, if_neg (fun y => io.mp y z)]
        · rw [if_neg z, if_pos (io.mpr z)]
      · intro i h2 hi
        by_cases ci : i < hops.length
        · rw [List.getElem?_append_left ci] at hi
          rw [List.take_append_of_le_length (by omega)]
          exact hs i h2 hi
        · have hi2 : i = hops.length := by
            have := (List.getElem?_eq_some_iff.mp hi).1
            rw [List.length_append] at this
            have : i < hops.length + 1 := this
            omega
          subst hi2
          rw [List.getElem?_append_right (Nat.le_refl _), Nat.sub_self] at hi
          obtain rfl : h2 = (c, b) := (Option.some.inj hi).symm
          rw [List.take_left']
          · refine ⟨⟨d, rest, ?_, ?_⟩, ?_⟩
            · rw [← eb, ← ep]; exact hd
            · rw [← eb, ← ep]; exact hfr
            · rw [← ep]; exact hb.symm
          · rfl
      · rw [List.length_append]
        show ((hops.length + 1 : Nat) : Int) ≤ lim
        omega
      · by_cases z : nxtP ns p c b ∈ openL ns been p
        · rw [if_pos z]
          exact List.nodup_append.mpr ⟨nod, by simp, fun x hx y hy => by rw [List.mem_singleton.mp hy]; exact fun e => io.mp z (e ▸ hx)⟩
        · rw [if_neg z]
          exact nod
      · intro t ht
        by_cases z : nxtP ns p c b ∈ openL ns been p
        · rw [if_pos z] at ht
          rcases List.mem_append.mp ht with h | h
          · exact sks t h
          · rw [List.mem_singleton.mp h]
            exact sn
        · rw [if_neg z] at ht
          exact sks t ht
theorem tour_all {ns st : List Int} {rp : Rp} {lim : Int} (sk : SeatOk ns st) (l0 : 0 ≤ lim) (one : ∀ n ∈ ns, 1 ≤ n) (pr : prodL ns ≤ 300) : ∃ f R, f ≤ 100000 ∧ tourF ns rp lim f [] [st] st = some R ∧ TourOk ns st rp lim R := by
  have lA := allS_len one
  have hm : tourM ns [st] st ≤ 300 * 303 + 302 := by
    unfold tourM
    have h1 : (openL ns [st] st).length ≤ 300 := Nat.le_trans (List.length_filter_le _ _) (by omega)
    have h2 : (dep (countsL ns (openL ns [st] st)) st).getD 0 ≤ (allS ns).length + 2 := by
      cases h3 : dep (countsL ns (openL ns [st] st)) st with
      | none => exact Nat.zero_le _
      | some x => exact dep_le h3
    have h4 : (openL ns [st] st).length * ((allS ns).length + 3) ≤ 300 * 303 := Nat.mul_le_mul h1 (by omega)
    omega
  obtain ⟨R, hR⟩ := tour_ends ns rp lim (300 * 303 + 303) [] (been := [st]) (p := st) sk List.mem_cons_self (by omega)
  refine ⟨300 * 303 + 303, R, by omega, hR, tour_ok (been := [st]) (p := st) _ [] hR rfl rfl (fun i h hi => by simp at hi) (by simpa using l0) (by simp) (fun t ht => by rw [List.mem_singleton.mp ht]; exact sk) List.mem_cons_self⟩

theorem open_filter {ns : List Int} {been : List (List Int)} {p : List Int} (hp : p ∈ been) : openL ns been p = (allS ns).filter fun o => decide (o ∉ been) := by
  unfold openL
  refine List.filter_congr fun o _ => ?_
  by_cases c : o ∈ been
  · simp [c]
  · have h1 : o ≠ p := fun z => c (z ▸ hp)
    simp [c, h1]
structure PreOk (ns st : List Int) (hs : List Hop) : Prop where
  nod : (beenL ns st hs).Nodup
  seat : ∀ t ∈ beenL ns st hs, SeatOk ns t
  pin : posL ns st hs ∈ beenL ns st hs
theorem PreOk.next {ns st : List Int} {hs : List Hop} {h : Hop} (P : PreOk ns st hs) (sn : SeatOk ns (posL ns st (hs ++ [h]))) : PreOk ns st (hs ++ [h]) := by
  have e := been_snoc ns st hs h
  by_cases z : posL ns st (hs ++ [h]) ∈ beenL ns st hs
  · rw [if_pos z] at e
    exact ⟨by rw [e]; exact P.nod, by rw [e]; exact P.seat, by rw [e]; exact z⟩
  · rw [if_neg z] at e
    refine ⟨?_, ?_, ?_⟩
    · rw [e]
      exact List.nodup_append.mpr ⟨P.nod, by simp, fun x hx y hy => by rw [List.mem_singleton.mp hy]; exact fun e => z (e ▸ hx)⟩
    · intro t ht
      rw [e] at ht
      rcases List.mem_append.mp ht with h | h
      · exact P.seat t h
      · rw [List.mem_singleton.mp h]
        exact sn
    · rw [e]
      exact List.mem_append_right _ List.mem_cons_self
/-- what a call on the way does -/
theorem StepAt.call {ns st : List Int} {rp : Rp} {hs : List Hop} {h : Hop} (P : PreOk ns st hs) (S : StepAt ns st rp hs h) : ∃ d, dep (countsL ns (openL ns (beenL ns st hs) (posL ns st hs))) (posL ns st hs) = some d ∧ SeatOk ns h.1 ∧ SeatOk ns (posL ns st (hs ++ [h])) ∧ ∀ f : Int, f = 1 ∨ f = -1 → ∃ e, dep (countsL ns (openL ns (beenL ns st hs) (posL ns st hs))) (shiftL ns (posL ns st hs) h.1 f) = some e ∧ e < d := by
  obtain ⟨d, rest, hd, hfr⟩ := S.way
  have sp := P.seat _ P.pin
  obtain ⟨c1, r1, f1, sc, sn, _, _, e1, he1, lt1⟩ := tour_step sp P.pin hd h.2
  obtain ⟨ec, -⟩ : h.1 = c1 ∧ rest = r1 := by
    rw [hfr] at f1
    injection f1 with a b
    exact ⟨a, b⟩
  rw [← ec] at sc sn
  obtain ⟨c2, r2, f2, _, _, _, _, e2, he2, lt2⟩ := tour_step sp P.pin hd false
  obtain ⟨c3, r3, f3, _, _, _, _, e3, he3, lt3⟩ := tour_step sp P.pin hd true
  have ec2 : h.1 = c2 := by rw [hfr] at f2; injection f2
  have ec3 : h.1 = c3 := by rw [hfr] at f3; injection f3
  rw [← ec2] at he2
  rw [← ec3] at he3
  refine ⟨d, hd, sc, by rw [pos_next]; exact sn, fun f hf => ?_⟩
  rcases hf with rfl | rfl
  · exact ⟨e2, he2, lt2⟩
  · exact ⟨e3, he3, lt3⟩
theorem TourOk.pre {ns st : List Int} {rp : Rp} {lim : Int} {R : TrR} (T : TourOk ns st rp lim R) (sk : SeatOk ns st) : ∀ i, i ≤ R.hops.length → PreOk ns st (R.hops.take i)
  | 0, _ => by
    rw [List.take_zero]
    exact ⟨by rw [been_nil]; simp, fun t ht => by rw [been_nil] at ht; rw [List.mem_singleton.mp ht]; exact sk, by rw [been_nil]; exact List.mem_cons_self⟩
  | i + 1, h => by
    have P := T.pre sk i (by omega)
    have hi : R.hops[i]? = some R.hops[i] := List.getElem?_eq_getElem (by omega)
    have S := T.steps i _ hi
    obtain ⟨d, _, _, sn, _⟩ := S.call P
    rw [take_more hi]
    exact P.next sn

theorem seat_iff : ∀ {ns p : List Int}, SeatOk ns p ↔ p.length = ns.length ∧ ∀ (i : Nat) (n x : Int), ns[i]? = some n → p[i]? = some x → 0 ≤ x ∧ x < n
  | [], [] => by simp [SeatOk]
  | [], _ :: _ => by simp [SeatOk]
  | _ :: _, [] => by simp [SeatOk]
  | n :: ns, x :: p => by
    show ((0 ≤ x ∧ x < n) ∧ SeatOk ns p) ↔ _
    rw [seat_iff]
    constructor
    · rintro ⟨h0, hl, h⟩
      refine ⟨by rw [List.length_cons, List.length_cons, hl], fun i m y hm hy => ?_⟩
      cases i with
      | zero => cases hm; cases hy; exact h0
      | succ i => exact h i m y (by simpa using hm) (by simpa using hy)
    · rintro ⟨hl, h⟩
      exact ⟨h 0 n x rfl rfl, Nat.succ.inj hl, fun i m y hm hy => h (i + 1) m y (by simpa using hm) (by simpa using hy)⟩

section
variable {P : Program} {w : World} {K : PySem.W.Frag} {mg : Str → Option Value} {base : Heap}
def sp_law_answer : Sp := fun vs H Q _ => ∃ (l s c : Addr) (x : V) (ns p p0 cs : List Int) (rp : Rp) (n : Nat), vs = [.ref l, x, .ref s, .ref c, .int (n : Int)] ∧ H l = some (.lst (ns.map V.int)) ∧ SzOk ns ∧ prodL ns ≤ 300 ∧ RespT H x rp ∧ RpOk ns p0 rp ∧ H s = some (.tup (p.map V.int)) ∧ SeatOk ns p ∧ H c = some (.tup (cs.map V.int)) ∧ cs.length = ns.length ∧ ∀ H2, Ex H H2 → Q (.str (awayW (ansB ns rp p cs n))) H2
theorem ok_law_answer (T : TX K mg) : FnOk P w K mg base CX0 2 T.f_law_answer T.fd_law_answer ["_law_dims_here", "_law_responder", "_law_spot", "_law_hop", "_law_done"] sp_law_answer := by
  refine T.F_law_answer.ok sc_law_answer (fun vs H Q E h => ?_) (fun cdv A outer s H vs Q E hr h => ?_)
  · obtain ⟨l, s, c, x, ns, p, p0, cs, rp, n, rfl, _⟩ := h
    rfl
  · obtain ⟨l, s, c, x, ns, p, p0, cs, rp, n, rfl, hl, ok, pr, hx, rok, hs, sk, hc, lc, k⟩ := h
    refine ⟨_, (pss_cons (ps_if (pt_val (pe_callB call_isi (by rfl) T.z_isinstance (by decide +kernel) (pa_cons (pv 1) (pa_cons (pe_bltn (v := .ty "list") rfl T.z_list (by decide +kernel) rfl) pa_nil)))) (pss_one (ps_ret (pe_ix ix_list (pv 1) (pe_op op_mod (pv 4) (pe_callB call_len_seq (by rfl) T.z_len (by decide +kernel) (pa_cons (pv 1) pa_nil))) (fun _ _ => rfl)))) pss_nil) (pss_cons (ps_set (i := 5) sc_law_answer.nd rfl (Or.inl rfl) (pe_call (ok_law_residue T) hr rfl T.m_law_residue T.F_law_residue.kp T.b_law_residue .nil pass0 (pa_cons (pe_ix ix_tup (pv 1) pe_int (fun _ _ => rfl)) (pa_cons (pe_ix ix_tup (pv 1) pe_int (fun _ _ => rfl)) (pa_cons (pe_call (ok_law_moved T) hr rfl T.m_law_moved T.F_law_moved.kp T.b_law_moved .nil pass0 (pa_cons (pv 0) (pa_cons (pv 2) (pa_cons (pv 3) (pa_cons pe_int pa_nil))))) pa_nil))))) (pss_one (ps_ret (pe_ix ix_list (pe_lst (pa_cons pe_str (pa_cons pe_str pa_nil))) (pe_callTy call_int1 (by rfl) T.z_int (by decide +kernel) (pa_cons (pe_cmpR op_eq (pv 5) (pe_ix ix_tup (pv 1) pe_int (fun _ _ => rfl)) (nomark _)) pa_nil)) (fun _ _ => rfl)))))), ?_⟩
    cases rp with
    | words bs =>
      obtain ⟨wl, rfl, hwl⟩ := hx
      obtain ⟨ne, lw⟩ := rok
      have l0 : 0 < bs.length := List.length_pos_iff.mpr ne
      refine ⟨_, rfl, _, _, _, _, true, rfl, .ty _, .base (.lst hwl), kit_ty (by decide +kernel), _, rfl, itt rfl ?_⟩
      obtain ⟨b, hb⟩ : ∃ b, bs[n % bs.length]? = some b := ⟨_, List.getElem?_eq_getElem (Nat.mod_lt _ l0)⟩
      have eb : ansB ns (.words bs) p cs n = b := by
        show (bs[n % bs.length]?).getD false = b
        rw [hb]
        rfl
      rw [eb] at k
      have at1 : atI (wordsV bs) ((n : Int) % ((wordsV bs).length : Int)) = some (.str (awayW b)) := by
        rw [List.length_map, show (n : Int) % (bs.length : Int) = ((n % bs.length : Nat) : Int) from rfl]
        exact L2.atI_nat (by rw [List.getElem?_map, hb]; rfl)
      refine ⟨_, rfl, _, rfl, _, rfl, wl, _, rfl, .inl (SqL.of hwl), _, _, rfl, rfl, (by rw [List.length_map]; show (0 : Int) < _; omega), wl, _, _, _, rfl, rfl, SqL.of hwl, at1, ?_⟩
      exact k _ exr
    | wit m ws r =>
      obtain ⟨wt, rfl, hw⟩ := hx
      obtain ⟨wok, bm, hp⟩ := rok
      obtain ⟨wa, hwt, hwa⟩ := hw
      have m3 := wok.m3
      have hB := szc_of ok pr
      refine ⟨_, rfl, _, _, _, _, false, rfl, .ty _, .base (.tup hwt), kit_ty (by decide +kernel), _, rfl, itf rfl ?_⟩
      have sk2 : SeatOk ns (shiftL ns p cs 1) := shift_seat ok.one sk.len lc
      obtain ⟨b1, b2, b3⟩ := wit_bounds hB wok bm sk2
      refine ⟨_, rfl, wt, _, _, _, rfl, rfl, SqT.of hwt, rfl, _, rfl, wt, _, _, _, rfl, rfl, SqT.of hwt, rfl, _, rfl, _, rfl, _, rfl, l, s, c, 1, ns, p, cs, rfl, hl, ok, hs, hc, sk.len, lc, .inl rfl, fun H1 q e1 nq hq => ?_⟩
      refine ⟨wa, q, m, ws, shiftL ns p cs 1, rfl, by omega, e1 _ _ hwa, hq, b1, by rw [sk2.len]; exact ok.le, b2, b3, fun H2 e2 => ?_⟩
      dsimp only [gName]
      refine ⟨slen rfl, ?_⟩
      (intro el nel; generalize hGel : upd _ el _ = H3; have eH3 := exG hGel nel; have hel := atG hGel; clear hGel)
      have E3 := ext e1 (ext e2 eH3)
      refine ⟨_, rfl, _, rfl, wt, _, _, _, rfl, rfl, SqT.of (E3 _ _ hwt), rfl, rfl, ?_⟩
      have k2 := k _ E3
      have hb : ∀ b : Bool, atI [V.str "forward", V.str "backward"] (if b = true then 1 else 0) = some (.str (awayW b)) := fun b => by cases b <;> rfl
      by_cases z : wsum ws (shiftL ns p cs 1) % m = r
      · rw [show ansB ns (.wit m ws r) p cs n = true from decide_eq_true z] at k2
        rw [z]
        exact .inr ⟨true, by simp, el, _, _, _, rfl, rfl, SqL.of hel, hb true, k2⟩
      · rw [show ansB ns (.wit m ws r) p cs n = false from decide_eq_false z] at k2
        exact .inr ⟨false, by rw [show decide (V.int (wsum ws (shiftL ns p cs 1) % m) = V.int r) = false by rw [dec_int]; simpa using z], el, _, _, _, rfl, rfl, SqL.of hel, hb false, k2⟩
def sp_law_replayed : Sp := fun vs H Q _ => ∃ (l s ml : Addr) (x : V) (ns p : List Int) (rp : Rp) (lim : Int) (R : TrR) (xs : List V), vs = [.ref l, .ref s, x, .ref ml] ∧ H l = some (.lst (ns.map V.int)) ∧ SzOk ns ∧ prodL ns ≤ 300 ∧ H s = some (.tup (p.map V.int)) ∧ SeatOk ns p ∧ RespT H x rp ∧ RpOk ns p rp ∧ H ml = some (.lst xs) ∧ HopsR H xs R.hops ∧ R.hops.length ≤ 100000 ∧ TourOk ns p rp lim R ∧
  ∀ r b H2, Ex H H2 → RowsAt H2 b R.been → H2 r = some (.tup [.ref b, .int (((dep (countsL ns (openL ns R.been R.last)) R.last).getD 0 : Nat) : Int)]) → Q (.ref r) H2
theorem ok_law_replayed (T : TX K mg) : FnOk P w K mg base CX0 4 T.f_law_replayed T.fd_law_replayed ["_law_dims_here", "_law_spot", "_law_responder", "_law_hops"] sp_law_replayed := by
  refine T.F_law_replayed.ok sc_law_replayed (fun vs H Q E h => ?_) (fun cdv A outer s H vs Q E hr h => ?_)
  · obtain ⟨l, s, ml, x, ns, p, rp, lim, R, xs, rfl, _⟩ := h
    rfl
  · obtain ⟨l, s, ml, x, ns, p, rp, lim, R, xs, rfl, hl, ok, pr, hs, sk, hx, rok, hml, rh, lh, T0, k⟩ := h
    refine ⟨_, (pss_cons (ps_asg (pe_tup (pa_cons (pe_call (ok_law_spots T) (hr.mono (by decide)) rfl T.m_law_spots T.F_law_spots.kp T.b_law_spots .nil pass0 (pa_cons (pv 0) pa_nil)) (pa_cons (pe_lst (pa_cons (pv 1) pa_nil)) pa_nil))) (pg_tup rfl (pgs_cons (pg_name (i := 4) sc_law_replayed.nd rfl (Or.inl rfl)) (pgs_cons (pg_name (i := 5) sc_law_replayed.nd rfl (Or.inr rfl)) pgs_nil)))) (pss_cons (ps_set (i := 6) sc_law_replayed.nd rfl (Or.inr rfl) (pe_call (ok_law_depths T) hr rfl T.m_law_depths T.F_law_depths.kp T.b_law_depths .nil pass0 (pa_cons (pv 0) (pa_cons (pe_lc (own := [("_law_one", 11)]) (g := (gName 11)) rfl sc_law_replayed.nd (pi_list (pv 4)) (blkOk_by (N := N_law_replayed) (sc := defScope s_law_replayed) (by decide +kernel)) (fun _ _ _ _ _ => (pg_name (i := 11) sc_law_replayed.nd rfl (Or.inl rfl))) (fun _ _ _ _ _ => (pts_one (pt_cmpR (r := rNotInD K) (op_notInD (u65 hr)) (pv 11) (pv 5) rfl))) (fun _ _ _ _ _ => (pv 11))) pa_nil)))) (pss_cons (ps_for PassesOwn.never rfl (CE.pi_e rfl T.z_enumerate (pa_cons (pv 3) pa_nil)) (pg_tup rfl (pgs_cons (pg_name (i := 7) sc_law_replayed.nd rfl (Or.inl rfl)) (pgs_cons (pg_tup rfl (pgs_cons (pg_name (i := 8) sc_law_replayed.nd rfl (Or.inr rfl)) (pgs_cons (pg_name (i := 9) sc_law_replayed.nd rfl (Or.inl rfl)) pgs_nil))) pgs_nil))) (pss_cons (ps_if (PW.pt (pw_or (pt_cmp (pc_dnotin (hu_of hr) (pv 1) (pv 6))) (pw_or1 (pt_cmpR op_ne (pv 9) (pe_call (ok_law_answer T) (hr.mono (by decide)) rfl T.m_law_answer T.F_law_answer.kp T.b_law_answer .nil pass0 (pa_cons (pv 0) (pa_cons (pv 2) (pa_cons (pv 1) (pa_cons (pv 8) (pa_cons (pv 7) pa_nil)))))) (nomark _))))) (pss_one (ps_ret pe_non)) pss_nil) (pss_cons (ps_setLc (own := [("_law_factor", 12)]) (g := (gName 12)) (i := 10) rfl sc_law_replayed.nd rfl rfl (sw_true rfl rfl rfl (by decide +kernel)) (pi_tup (pe_tup (pa_cons pe_int (pa_cons (pe_un un_neg pe_int) pa_nil)))) (blkOk_by (N := N_law_replayed) (sc := defScope s_law_replayed) (by decide +kernel)) (fun _ _ _ _ _ => (pg_name (i := 12) sc_law_replayed.nd rfl (Or.inl rfl))) (fun _ _ _ _ _ => pts_nil) (fun _ _ _ _ _ => (pe_call (ok_law_moved T) (hr.mono (by decide)) rfl T.m_law_moved T.F_law_moved.kp T.b_law_moved .nil pass0 (pa_cons (pv 0) (pa_cons (pv 1) (pa_cons (pv 8) (pa_cons (pv 12) pa_nil))))))) (pss_cons (ps_if (pt_not (pt_val (pe_callB (cr_all rfl) (by rfl) T.z_all (by decide +kernel) (pa_cons (pe_lc (own := [("_law_one", 11)]) (g := (gName 11)) rfl sc_law_replayed.nd (pi_list (pv 10)) (blkOk_by (N := N_law_replayed) (sc := defScope s_law_replayed) (by decide +kernel)) (fun _ _ _ _ _ => (pg_name (i := 11) sc_law_replayed.nd rfl (Or.inl rfl))) (fun _ _ _ _ _ => pts_nil) (fun _ _ _ _ _ => (pe_cmpR op_lt (pe_dget2 (hu_of hr) (pv 6) (pv 11) (pe_dget (hu_of hr) (pv 6) (pv 1) (fun _ _ => rfl)) ⟨rfl, rfl, rfl, rfl⟩) (pe_dget (hu_of hr) (pv 6) (pv 1) (fun _ _ => rfl)) (nomark _)))) pa_nil)))) (pss_one (ps_ret pe_non)) pss_nil) (pss_cons (ps_if (pt_cmpR (r := rNeD K) (op_neD hr.units) (pe_lc (own := [("_law_one", 11), ("_law_size", 13)]) (g := (gTup K 2 (gCons (gName 11) (gCons (gName 13) gNil)))) rfl sc_law_replayed.nd (CZ.pi_z2 (fl := [true, false]) rfl (by rfl) T.z_zip (pa_cons (pv 8) (pa_cons (pv 0) pa_nil))) (blkOk_by (N := N_law_replayed) (sc := defScope s_law_replayed) (by decide +kernel)) (fun _ _ _ _ _ => (pg_tup rfl (pgs_cons (pg_name (i := 11) sc_law_replayed.nd rfl (Or.inl rfl)) (pgs_cons (pg_name (i := 13) sc_law_replayed.nd rfl (Or.inl rfl)) pgs_nil)))) (fun _ _ _ _ _ => (pts_one (pt_not (pt_chain op_le op_lt pe_int (pv 11) (pv 13))))) (fun _ _ _ _ _ => (pv 11))) (pe_lst pa_nil) (nomark _)) (pss_one (ps_ret pe_non)) pss_nil) (pss_cons (ps_set (i := 1) sc_law_replayed.nd rfl (Or.inr rfl) (pe_ix ix_list (pv 10) (pe_callTy call_int1 (by rfl) T.z_int (by decide +kernel) (pa_cons (pe_cmpR op_eq (pv 9) pe_str (nomark _)) pa_nil)) (fun _ _ => rfl))) (pss_one (ps_if (pt_cmpR (r := rNotInD K) (op_notInD (u65 hr)) (pv 1) (pv 5) rfl) (pss_cons (ps_expr (pe_bm PySem.F.plainAttrs_list PySem.F.slot_list_append PySem.F.type_list_append mt_append (pv 5) (pa_cons (pv 1) pa_nil))) (pss_one (ps_set (i := 6) sc_law_replayed.nd rfl (Or.inr rfl) (pe_call (ok_law_depths T) hr rfl T.m_law_depths T.F_law_depths.kp T.b_law_depths .nil pass0 (pa_cons (pv 0) (pa_cons (pe_lc (own := [("_law_one", 11)]) (g := (gName 11)) rfl sc_law_replayed.nd (pi_list (pv 4)) (blkOk_by (N := N_law_replayed) (sc := defScope s_law_replayed) (by decide +kernel)) (fun _ _ _ _ _ => (pg_name (i := 11) sc_law_replayed.nd rfl (Or.inl rfl))) (fun _ _ _ _ _ => (pts_one (pt_cmpR (r := rNotInD K) (op_notInD (u65 hr)) (pv 11) (pv 5) rfl))) (fun _ _ _ _ _ => (pv 11))) pa_nil)))))) pss_nil)))))))) (pss_one (ps_ret (pe_tup (pa_cons (pv 5) (pa_cons (pe_dget2 (hu_of hr) (pv 6) (pv 1) pe_int ⟨rfl, rfl, rfl, rfl⟩) pa_nil)))))))), ?_⟩
    have lA : (allS ns).length ≤ 300 := by have := allS_len ok.one; omega
    refine ⟨_, rfl, l, ns, rfl, hl, ok, pr, fun Ev H1 e1 nEv ⟨ys, hEv, rs⟩ => ?_⟩
    refine ⟨_, rfl, slen rfl, ?_⟩
    (intro bl nbl; generalize hGbl : upd _ bl _ = H2; have eH2 := exG hGbl nbl; have hbl := atG hGbl; clear hGbl)
    refine ⟨slen rfl, ?_⟩
    (intro tq ntq; generalize hGtq : upd _ tq _ = H3; have eH3 := exG hGtq ntq; have htq := atG hGtq; clear hGtq)
    refine ⟨tq, _, rfl, SqT.of htq, rfl, _, _, rfl, _, _, rfl, rfl, ?_⟩
    have hEv3 := eH3 _ _ (eH2 _ _ hEv)
    have hEv0 := hEv
    have rs3 := rs.mono (ext eH2 eH3)
    have hbl3 := eH3 _ _ hbl
    have E3 := ext e1 (ext eH2 eH3)
    have ly : ys.length = (allS ns).length := Paired.length rs
    clear htq eH2 eH3 hEv rs hbl
    dsimp only [gName]
    have neb : Ev ≠ bl := ne_of_none hEv0 nbl
    have nbl : H bl = none := Evl.fresh_back e1 nbl
    have P0 := T0.pre sk 0 (Nat.zero_le _)
    refine ⟨_, rfl, _, rfl, Ev, rfl, ⟨_, SqL.of hEv3⟩, fun D hD => ?_⟩
    refine lc_filt (walk_list (xs := ys)) (ys.zip (allS ns)) (fun z => decide (z.2 ∉ [p])) (fun z => z.1) (by rw [List.length_zip]; omega) (by omega) hD (fun Hx ex => SqL.of (ex _ _ hEv3)) ?_ ?_
    · rintro i x ⟨z1, z2⟩ _ Hx R S hz ex ⟨rfl, hx⟩ kR kS
      obtain ⟨hz1, hz2⟩ := zip_at2 hz
      obtain ⟨o, r, hp, rfl, hr2⟩ := rs3.get hx
      obtain rfl : o = z2 := Option.some.inj (hp.symm.trans hz2)
      obtain rfl : V.ref r = z1 := Option.some.inj (hx.symm.trans hz1)
      refine ⟨rfl, _, rfl, _, rfl, iT o, [p].map iT, dp_ints (ex _ _ hr2), .lst (SqL.of (ex _ _ hbl3)) (.cons (dp_ints (ex _ _ (E3 _ _ hs))) .nil), (sh_ints (n := 59) _).ok, (sh_rows (n := 58) _).ok, ?_⟩
      rw [any_rows]
      refine ⟨_, rfl, ?_⟩
      by_cases c : o ∈ [p]
      · exact itf (by rw [decide_eq_true c]; rfl) (kS _ exr (decide_eq_false (not_not_intro c)))
      · exact itt (by rw [decide_eq_false c]; rfl) ⟨_, rfl, kR _ _ exr (decide_eq_true c) rfl⟩
    intro H4 e4 hD4
    have rm : RowsR H4 (((ys.zip (allS ns)).filter fun z => decide (z.2 ∉ [p])).map fun z => z.1) ((allS ns).filter fun o => decide (o ∉ [p])) := RowsR.filt (fun o => decide (o ∉ [p])) (rs3.mono e4)
    generalize (((ys.zip (allS ns)).filter fun z => decide (z.2 ∉ [p])).map fun z => z.1) = zs at hD4 rm
    have E4 := ext E3 e4
    rw [← open_filter (ns := ns) (p := p) (List.mem_singleton.mpr rfl)] at rm
    have so : ∀ {b : List (List Int)} {q : List Int}, ∀ o ∈ openL ns b q, SeatOk ns o := fun o ho => (mem_open.mp ho).1
    refine ⟨l, D, ns, openL ns [p] p, rfl, E4 _ _ hl, ok, pr, ⟨zs, hD4, rm⟩, so, openL_nodup _ _ _, fun Dd H5 fs e5 nDd hc5 hfs lfs => ?_⟩
    have E5 := ext E4 e5
    have hEv5 := e5 _ _ (e4 _ _ hEv3)
    have rs5 := (rs3.mono e4).mono e5
    have hbl5 := e5 _ _ (e4 _ _ hbl3)
    clear hD4 rm hEv3 rs3 hbl3 e4 e5 E4 E3 nDd hD e1
    dsimp only [gName]
    refine ⟨_, rfl, (false, ml), rfl, ⟨_, sqL (E5 _ _ hml)⟩, ?_⟩
    have lx : xs.length = R.hops.length := Paired.length rh
    refine for_it (CE.walk_e (xs := xs)) (fun i σ Hx => ∃ (sa Dd : Addr) (fs : List (List Int × Nat)) (us : List V) (y7 y8 y9 y10 y11 y12 y13 : Option V), σ = [some (.ref l), some (.ref sa), some x, some (.ref ml), some (.ref Ev), some (.ref bl), some (.ref Dd), y7, y8, y9, y10, y11, y12, y13] ∧ Ex H Hx ∧ Hx Ev = some (.lst ys) ∧ RowsR Hx ys (allS ns) ∧ Hx bl = some (.lst us) ∧ RowsR Hx us (beenL ns p (R.hops.take i)) ∧ Hx sa = some (.tup ((posL ns p (R.hops.take i)).map V.int)) ∧ CntAt Hx Dd fs ∧ fs.length ≤ 300 ∧ ∀ q, dep fs q = dep (countsL ns (openL ns (beenL ns p (R.hops.take i)) (posL ns p (R.hops.take i)))) q) ⟨s, Dd, fs, _, _, _, _, _, _, _, _, rfl, E5, hEv5, rs5, hbl5, .cons ⟨s, rfl, E5 _ _ hs⟩ .nil, E5 _ _ hs, hc5, lfs, hfs⟩ (fun i σ Hx _ ⟨_, _, _, _, _, _, _, _, _, _, _, _, ex, _⟩ => sqL (ex _ _ hml)) ?_ ?_
    · clear hEv5 rs5 hbl5 hc5 hfs lfs E5 P0
      rintro i x0 σ Ha Hb hi ⟨sa, Dd, fs, us, y7, y8, y9, y10, y11, y12, y13, rfl, ex, hEv, rs, hbl, rb, hsa, hc, lfs, hfs⟩ ⟨Ta, x1, x2, rfl, hT, rfl, hx1, hx2⟩
      cases hx1
      obtain ⟨h, hh, r, c, rfl, hr0, hc0⟩ := paired_get rh hx2
      have S := T0.steps i h hh
      have hil := (List.getElem?_eq_some_iff.mp hh).1
      have Pi := T0.pre sk i (by omega)
      obtain ⟨d, hd, sc, sn, cl⟩ := S.call Pi
      have ans := S.ans
      rw [List.length_take, Nat.min_eq_left (by omega)] at ans
      have sp := Pi.seat _ Pi.pin
      have pin := Pi.pin
      have nod := Pi.nod
      have en := been_snoc ns p (R.hops.take i) h
      have ep := pos_next ns p (R.hops.take i) h
      rw [take_more hh]
      have pseat := Pi.seat
      have pnin := (Pi.next sn).pin
      generalize posL ns p (R.hops.take i ++ [h]) = pn at *
      generalize hbn : beenL ns p (R.hops.take i ++ [h]) = bn at *
      generalize posL ns p (R.hops.take i) = pi at *
      generalize beenL ns p (R.hops.take i) = bi at *
      have eT := exn (o := .tup [.int (i : Nat), .ref r]) hT
      have exT := ext ex eT
      refine ⟨Ta, _, rfl, SqT.of upd_same, rfl, _, _, rfl, _, _, rfl, r, _, rfl, SqT.of (exT _ _ hr0), rfl, _, _, rfl, _, _, rfl, rfl, rfl, ?_⟩
      generalize upd Ha Ta _ = Hb at eT exT
      have hEvb := eT _ _ hEv
      have rsb := rs.mono eT
      have hblb := eT _ _ hbl
      have rbb := rb.mono eT
      have hsab := eT _ _ hsa
      have hcb := hc.mono eT
      clear hEv rs hbl rb hsa hc hT
      refine sif_ex (fun N hN => ?_) (fun H6 e6 => ?_)
      · refine ⟨_, rfl, _, rfl, Dd, _, rfl, cnt_get hcb hsab, _, rfl, ?_⟩
        rw [Option.isSome_map, hfs, hd]
        refine itf rfl ?_
        refine ⟨_, rfl, _, rfl, _, rfl, _, rfl, _, rfl, _, rfl, l, sa, c, x, ns, pi, p, h.1, rp, i, rfl, exT _ _ hl, ok, pr, hx.mono exT, rok, hsab, sp, exT _ _ hc0, sc.len, fun H6 e6 => ⟨rfl, _, rfl, itf ?_ (hN _ e6)⟩⟩
        rw [← ans]
        simp
      have E6 := ext exT e6
      have hEv6 := e6 _ _ hEvb
      have rs6 := rsb.mono e6
      have hbl6 := e6 _ _ hblb
      have rb6 := rbb.mono e6
      have hsa6 := e6 _ _ hsab
      have hc6 := hcb.mono e6
      clear hEvb rsb hblb rbb hsab hcb eT e6 exT ex
      dsimp only [gName]
      show tSeq _ _ _ [_, _, _, _, _, _, _, _, _, _, _, _, _, _] _
      refine ⟨_, rfl, by show 2 ≤ sizeLine; decide, fun ft hft => ?_⟩
      refine ⟨ft, rfl, ⟨_, SqT.of upd_same⟩, fun D2 hD2 => ?_⟩
      have e7 := exn (o := .tup [.int 1, .int (-1)]) hft
      generalize hG7 : upd H6 ft _ = H7 at hD2
      rw [show (HO.tup [V.int 1, (fun i => V.int (-i)) 1]) = HO.tup [.int 1, .int (-1)] from rfl] at hG7
      rw [hG7] at e7
      have hft7 := atG hG7
      clear hG7
      have E7 := ext E6 e7
      refine lc_it (walk_tup (xs := [V.int 1, V.int (-1)])) (fun j Hy => RowsAt Hy D2 ([shiftL ns pi h.1 1, shiftL ns pi h.1 (-1)].take j) ∧ Ex H7 Hy) ⟨⟨[], upd_same, .nil⟩, exn hD2⟩ (fun j Hy _ q => SqT.of (q.2 _ _ hft7)) ?_ ?_
      · rintro j x _ Hy hj ⟨rj, ey⟩ ⟨rfl, hx⟩
        obtain ⟨f, hf, rfl, hb⟩ : ∃ f : Int, (f = 1 ∨ f = -1) ∧ x = .int f ∧ [shiftL ns pi h.1 1, shiftL ns pi h.1 (-1)][j]? = some (shiftL ns pi h.1 f) := by
          match j, hx with
          | 0, hx => exact ⟨1, .inl rfl, (Option.some.inj hx).symm, rfl⟩
          | 1, hx => exact ⟨-1, .inr rfl, (Option.some.inj hx).symm, rfl⟩
        have Ey := ext E7 ey
        refine ⟨rfl, _, rfl, _, rfl, _, rfl, _, rfl, l, sa, c, f, ns, pi, h.1, rfl, Ey _ _ hl, ok, ey _ _ (e7 _ _ hsa6), Ey _ _ hc0, sp.len, sc.len, hf, fun H8 q e8 nq hq => ?_⟩
        obtain ⟨acc, g1, g2, g3⟩ := rows_push (rj.mono e8) hq
        refine ⟨acc, g1, by rw [g2, List.length_take]; exact Nat.lt_of_le_of_lt (Nat.min_le_right _ _) (show 2 < sizeLine by decide), ?_, ex_upd (ext ey e8) hD2⟩
        rw [take_more hb]
        exact g3
      rintro H8 ⟨rb8, e8⟩
      replace rb8 : RowsAt H8 D2 [shiftL ns pi h.1 1, shiftL ns pi h.1 (-1)] := rb8
      have E8 := ext E7 e8
      have e68 := ext e7 e8
      have hEv8 := e68 _ _ hEv6
      have rs8 := rs6.mono e68
      have hbl8 := e68 _ _ hbl6
      have rbb8 := rb6.mono e68
      have hsa8 := e68 _ _ hsa6
      have hc8 := hc6.mono e68
      clear hEv6 rs6 hbl6 rb6 hsa6 hc6 e68 e7 e8 hft7 hft hD2 E7 E6
      dsimp only [gName]
      show tSeq _ _ _ [_, _, _, _, _, _, _, _, _, _, _, _, _, _] _
      obtain ⟨bs8, hb8, rr8⟩ := id rb8
      refine sif_ex (fun N hN => ?_) (fun H9 e9 => ?_)
      · refine ⟨_, rfl, D2, rfl, ⟨_, SqL.of hb8⟩, fun D3 hD3 => ?_⟩
        have l2 : bs8.length = 2 := rr8.len
        refine lc_vals (walk_list (xs := bs8)) ((List.replicate 2 true).map V.bl) (by rw [l2]; rfl) (by omega) hD3 (fun H3 e => SqL.of (e _ _ hb8)) ?_ gmono_name ?_
        · rintro j x _ Hy R2 hj ey ⟨rfl, hx⟩ kk
          obtain ⟨q, rq, hq, rfl, hrq⟩ := rr8.get hx
          obtain ⟨e, he, elt⟩ : ∃ e, dep (countsL ns (openL ns bi pi)) q = some e ∧ e < d := by
            have : q ∈ [shiftL ns pi h.1 1, shiftL ns pi h.1 (-1)] := List.mem_of_getElem? hq
            rcases List.mem_cons.mp this with rfl | h
            · exact cl 1 (.inl rfl)
            · rw [List.mem_singleton.mp h]
              exact cl (-1) (.inr rfl)
          refine ⟨rfl, ?_⟩
          have hc9 := hc8.mono ey
          have hs9 := ey _ _ hsa8
          have gd : DGet Hy Dd (.ref sa) (some (.int (d : Int))) := by
            have := cnt_get hc9 hs9
            rw [hfs, hd] at this
            exact this
          have gq : DGet Hy Dd (.ref rq) (some (.int (e : Int))) := by
            have := cnt_get hc9 (ey _ _ hrq)
            rw [hfs, he] at this
            exact this
          refine ⟨_, rfl, Dd, rfl, .inr ⟨_, .inl hc9⟩, _, rfl, _, rfl, _, rfl, Dd, _, rfl, gd, _, gq, ?_⟩
          refine ⟨_, rfl, _, rfl, Dd, _, rfl, gd, _, _, rfl, rfl, kk _ _ exr ?_⟩
          rw [List.getElem?_map, List.getElem?_replicate, if_pos (by omega)]
          show some (V.bl true) = some (V.bl (decide ((e : Int) < (d : Int))))
          rw [decide_eq_true (by omega)]
        · intro Hz ez hDz
          refine ⟨D3, _, rfl, SqL.of hDz, _, rfl, itf rfl ?_⟩
          exact hN _ ez
      have E9 := ext E8 e9
      have hEv9 := e9 _ _ hEv8
      have rs9 := rs8.mono e9
      have hbl9 := e9 _ _ hbl8
      have rbb9 := rbb8.mono e9
      have hsa9 := e9 _ _ hsa8
      have hc9 := hc8.mono e9
      have hb9 := e9 _ _ hb8
      have rr9 := rr8.mono e9
      clear hEv8 rs8 hbl8 rbb8 hsa8 hc8 hb8 rr8 rb8 e9 E8
      refine sif_ex (fun N hN => ?_) (fun Ha ea => ?_)
      · refine ⟨_, rfl, _, rfl, [c, l], rfl, rfl, all2 (sqT (E9 _ _ hc0)) (sqL (E9 _ _ hl)), fun D4 hD4 => ?_⟩
        refine lc_filt (CZ.walk_rows (xss := [h.1.map V.int, ns.map V.int]) (n := ns.length) (lens2 (by rw [List.length_map, sc.len]) (by rw [List.length_map]))) ns (fun _ => false) (fun _ => .int 1) rfl (by have := ok.le; omega) hD4 (fun H3 e => .cons (sqT (e _ _ (E9 _ _ hc0))) (.cons (sqL (e _ _ (E9 _ _ hl))) .nil)) ?_ ?_
        · intro j y a Hy Hz R2 S2 ha ey yy kR kS
          obtain ⟨Tb, x', n', rfl, hTb, rfl, hx', hn'⟩ := yints2 yy
          refine ⟨Tb, _, rfl, SqT.of upd_same, rfl, _, _, rfl, _, _, rfl, rfl, ?_⟩
          refine ⟨rfl, ?_⟩
          obtain ⟨x0, x1⟩ := (seat_iff.mp sc).2 j _ _ hn' hx'
          refine ⟨_, rfl, _, _, rfl, rfl, _, rfl, ?_⟩
          refine itt (decide_eq_true x0) ?_
          refine ⟨_, rfl, _, _, rfl, rfl, _, rfl, itf (by rw [decide_eq_true x1]; rfl) ?_⟩
          exact kS _ (exn hTb) rfl
        · intro Hz ez hDz
          have fe : List.map (fun _ : Int => V.int 1) (List.filter (fun _ => false) ns) = [] := by simp
          rw [fe] at hDz
          refine ⟨slen rfl, ?_⟩
          (intro nl nnl; generalize hGnl : upd _ nl _ = Hq; have eHq := exG hGnl nnl; have hnl := atG hGnl; clear hGnl)
          refine ⟨_, _, .lst (SqL.of (eHq _ _ hDz)) .nil, .lst (SqL.of hnl) .nil, rfl, rfl, ?_⟩
          exact ⟨_, rfl, itf rfl (hN _ (ext ez eHq))⟩
      have Ea := ext E9 ea
      have hEva := ea _ _ hEv9
      have rsa := rs9.mono ea
      have hbla := ea _ _ hbl9
      have rba := rbb9.mono ea
      have hsaa := ea _ _ hsa9
      have hca := hc9.mono ea
      have hba := ea _ _ hb9
      have rra := rr9.mono ea
      clear hEv9 rs9 hbl9 rbb9 hsa9 hc9 hb9 rr9 ea E9
      have at2 : ∃ rq, atI bs8 (if h.2 = true then 1 else 0) = some (.ref rq) ∧ Ha rq = some (.tup (pn.map V.int)) := by
        unfold nxtP at ep
        rw [ep]
        match bs8, rra with
        | [_, _], .cons ⟨q1, rfl, h1⟩ (.cons ⟨q2, rfl, h2⟩ .nil) =>
          cases h.2 with
          | true => exact ⟨q2, rfl, h2⟩
          | false => exact ⟨q1, rfl, h1⟩
      obtain ⟨rq, hat, hrq⟩ := at2
      refine ⟨_, rfl, _, rfl, rfl, .inr ⟨h.2, ?_, D2, _, _, _, rfl, rfl, SqL.of hba, hat, ?_⟩⟩
      · rw [show decide (V.str (awayW h.2) = V.str "backward") = h.2 by cases h.2 <;> decide +kernel]
      dsimp only [gName]
      refine ⟨_, rfl, _, rfl, iT pn, bi.map iT, dp_ints hrq, .lst (SqL.of hbla) rba.dp, (sh_ints (n := 59) _).ok, (sh_rows (n := 58) _).ok, ?_⟩
      rw [any_rows]
      refine ⟨_, rfl, ?_⟩
      by_cases z : pn ∈ bi
      · rw [if_pos z] at en
        refine itf (by rw [decide_eq_true z]; rfl) ?_
        refine ⟨rq, Dd, fs, us, _, _, _, _, _, _, _, rfl, Ea, hEva, rsa, hbla, by rw [en]; exact rba, hrq, hca, lfs, fun q => ?_⟩
        rw [hfs, en, open_same pin z]
      · rw [if_neg z] at en
        refine itt (by rw [decide_eq_false z]; rfl) ?_
        refine ⟨_, rfl, .inl ⟨rfl, _, SqL.of hbla⟩, _, rfl, bl, _, _, rfl, rfl, hbla, by rw [rba.len]; exact Nat.lt_of_le_of_lt (seats_len ok pr nod pseat) (show 300 < sizeLine by decide), ?_⟩
        have nED : Ev ≠ bl := neb
        have Eu := ex_upd (o := .lst (us ++ [.ref rq])) Ea nbl
        have tpu : ∀ c zs, Ha c = some (.tup zs) → upd Ha bl (.lst (us ++ [.ref rq])) c = some (.tup zs) := fun c zs z => tup_pshL hbla z
        have hEvu : upd Ha bl (.lst (us ++ [.ref rq])) Ev = some (.lst ys) := by rw [upd_ne nED]; exact hEva
        have hcu : CntAt (upd Ha bl (.lst (us ++ [.ref rq]))) Dd fs := by
          show upd _ _ _ _ = _
          rw [upd_ne (fun e => by rw [e] at hca; exact absurd (hbla.symm.trans hca) (by intro z; cases z))]
          exact hca
        have hblu : upd Ha bl (.lst (us ++ [.ref rq])) bl = some (.lst (us ++ [.ref rq])) := upd_same
        have rbu : RowsR (upd Ha bl (.lst (us ++ [.ref rq]))) (us ++ [.ref rq]) (bi ++ [pn]) := RowsR.snoc (tpu _ _ hrq) (rba.monoT tpu)
        have rsu := rsa.monoT tpu
        have hru := tpu _ _ hrq
        generalize upd Ha bl (.lst (us ++ [.ref rq])) = Hu at *
        dsimp only [gName]
        have pnn : pn ∈ bn := pnin
        have ebn : bn = bi ++ [pn] := en
        rw [← ebn] at rbu
        refine ⟨_, rfl, _, rfl, Ev, rfl, ⟨_, SqL.of hEvu⟩, fun D5 hD5 => ?_⟩
        refine lc_filt (walk_list (xs := ys)) (ys.zip (allS ns)) (fun z => decide (z.2 ∉ bn)) (fun z => z.1) (by rw [List.length_zip]; omega) (by omega) hD5 (fun Hx ex => SqL.of (ex _ _ hEvu)) ?_ ?_
        · rintro i x ⟨z1, z2⟩ _ Hx R S hz ex ⟨rfl, hx⟩ kR kS
          obtain ⟨hz1, hz2⟩ := zip_at2 hz
          obtain ⟨o, r, hp, rfl, hr2⟩ := rsu.get hx
          obtain rfl : o = z2 := Option.some.inj (hp.symm.trans hz2)
          obtain rfl : V.ref r = z1 := Option.some.inj (hx.symm.trans hz1)
          refine ⟨rfl, _, rfl, _, rfl, iT o, bn.map iT, dp_ints (ex _ _ hr2), .lst (SqL.of (ex _ _ hblu)) (rbu.mono ex).dp, (sh_ints (n := 59) _).ok, (sh_rows (n := 58) _).ok, ?_⟩
          rw [any_rows]
          refine ⟨_, rfl, ?_⟩
          by_cases c : o ∈ bn
          · exact itf (by rw [decide_eq_true c]; rfl) (kS _ exr (decide_eq_false (not_not_intro c)))
          · exact itt (by rw [decide_eq_false c]; rfl) ⟨_, rfl, kR _ _ exr (decide_eq_true c) rfl⟩
        intro H4 e4 hD4
        have rm : RowsR H4 (((ys.zip (allS ns)).filter fun z => decide (z.2 ∉ bn)).map fun z => z.1) ((allS ns).filter fun o => decide (o ∉ bn)) := RowsR.filt (fun o => decide (o ∉ bn)) (rsu.mono e4)
        generalize (((ys.zip (allS ns)).filter fun z => decide (z.2 ∉ bn)).map fun z => z.1) = zs at hD4 rm
        rw [← open_filter (ns := ns) (p := pn) pnn] at rm
        refine ⟨l, D5, ns, openL ns bn pn, rfl, e4 _ _ (Eu _ _ hl), ok, pr, ⟨zs, hD4, rm⟩, so, openL_nodup _ _ _, fun Dq H5 fq e5 nDq hc5 hfq lfq => ?_⟩
        have e45 := ext e4 e5
        exact ⟨rq, Dq, fq, _, _, _, _, _, _, _, _, rfl, ext Eu e45, e45 _ _ hEvu, rsu.mono e45, e45 _ _ hblu, rbu.mono e45, e45 _ _ hru, hc5, lfq, hfq⟩
    · rintro σ Hx ⟨sa, Dd, fs, us, y7, y8, y9, y10, y11, y12, y13, rfl, ex, hEv, rs, hbl, rb, hsa, hc, lfs, hfs⟩
      rw [lx, List.take_length, ← T0.been, ← T0.last] at *
      refine ⟨_, rfl, _, rfl, Dd, rfl, .inr ⟨_, .inl hc⟩, _, rfl, _, cnt_get hc hsa, ?_⟩
      have eo : ∀ o : Option Nat, (Option.map (fun d : Nat => V.int (d : Int)) o).getD (V.int 0) = V.int ((o.getD 0 : Nat) : Int) := fun o => by cases o <;> rfl
      rw [eo, hfs]
      refine ⟨by show 2 ≤ sizeLine; decide, fun r nr => ?_⟩
      exact k r bl _ (ext ex (exn nr)) ⟨us, exn nr _ _ hbl, rb.mono (exn nr)⟩ upd_same
end

theorem mul_le_of_mem {ns : List Int} (h : ∀ n ∈ ns, 1 ≤ n) {n : Int} (hn : n ∈ ns) : n ≤ prodL ns := by
  obtain ⟨i, hi⟩ := List.mem_iff_getElem?.mp hn
  exact mul_le_prod h hi
theorem paired_perm {α β : Type} {R : α → β → Prop} {xs ys : List α} (p : ys.Perm xs) : ∀ {as : List β}, Paired R xs as → ∃ bs, Paired R ys bs ∧ bs.Perm as := by
  induction p with
  | nil => exact fun h => ⟨_, h, .refl _⟩
  | cons x _ ih =>
    intro as h
    cases h with
    | cons q t =>
      obtain ⟨bs, h1, h2⟩ := ih t
      exact ⟨_ :: bs, .cons q h1, h2.cons _⟩
  | swap x y l =>
    intro as h
    cases h with
    | cons q t =>
      cases t with
      | cons q2 t2 => exact ⟨_, .cons q2 (.cons q t2), List.Perm.swap _ _ _⟩
  | trans _ _ ih1 ih2 =>
    intro as h
    obtain ⟨bs, h1, h2⟩ := ih2 h
    obtain ⟨cs, h3, h4⟩ := ih1 h1
    exact ⟨cs, h3, h4.trans h2⟩
theorem paired_take {α β : Type} {R : α → β → Prop} : ∀ {xs : List α} {as : List β} (n : Nat), Paired R xs as → Paired R (xs.take n) (as.take n)
  | _, _, 0, _ => by simp only [List.take_zero]; exact .nil
  | _, _, _ + 1, .nil => .nil
  | _, _, n + 1, .cons q t => .cons q (paired_take n t)
theorem paired_drop {α β : Type} {R : α → β → Prop} : ∀ {xs : List α} {as : List β} (n : Nat), Paired R xs as → Paired R (xs.drop n) (as.drop n)
  | _, _, 0, h => h
  | _, _, _ + 1, .nil => .nil
  | _, _, n + 1, .cons _ t => paired_drop n t

/-- a cut list of ints is one -/
theorem cut_map (ns : List Int) (lo hi : Option Int) : ∃ ms : List Int, cutV (ns.map V.int) lo hi = ms.map V.int := by
  refine ⟨(ns.drop (HT.sIx (ns.map V.int).length 0 lo)).take (HT.sIx (ns.map V.int).length (ns.map V.int).length hi - HT.sIx (ns.map V.int).length 0 lo), ?_⟩
  unfold cutV
  rw [List.map_take, List.map_drop]
theorem cut_len (xs : List V) (lo hi : Option Int) : (cutV xs lo hi).length ≤ xs.length := by
  unfold cutV
  rw [List.length_take, List.length_drop]
  omega
theorem last_int : ∀ (ns : List Int), ns ≠ [] → ∃ c : Int, atI (ns.map V.int) (-1) = some (.int c) := fun ns ne => by
  refine ⟨ns.getLast ne, ?_⟩
  have pos := List.length_pos_iff.mpr ne
  unfold atI ixN
  rw [if_neg (by decide), if_pos (by rw [List.length_map]; omega), List.length_map]
  have : ((-1 : Int) + ((ns.length : Nat) : Int)).toNat = ns.length - 1 := by omega
  show (ns.map V.int)[((-1 : Int) + ((ns.length : Nat) : Int)).toNat]? = _
  rw [this, List.getElem?_map, ← List.getLast?_eq_getElem?, List.getLast?_eq_some_getLast ne]
  rfl
theorem take_cut (xs : List V) {r : Int} (r0 : 0 ≤ r) : cutV xs none (some (1 + r)) = xs.take (1 + r).toNat := by
  have e : (1 + r) = (((1 + r).toNat : Nat) : Int) := by omega
  rw [e, cut_to]
  rfl
/-- either a list or a tuple of the same rows -/
theorem two_kinds {r : Int} {a b : Addr} {xs : List V} {H : Hp} (r0 : 0 ≤ r) (r1 : r < 2) (ha : H a = some (.lst xs)) (hb : H b = some (.tup xs)) : ∃ q : Bool × Addr, atI [V.ref a, V.ref b] r = some (.ref q.2) ∧ SqH H q xs := by
  have : r = 0 ∨ r = 1 := by omega
  rcases this with rfl | rfl
  · exact ⟨(false, a), rfl, ha⟩
  · exact ⟨(true, b), rfl, hb⟩

theorem tour_hops {ns p : List Int} {rp : Rp} {lim : Int} {R : TrR} (T0 : TourOk ns p rp lim R) (sk : SeatOk ns p) : ∀ h ∈ R.hops, SeatOk ns h.1 := fun h hh => by
  obtain ⟨i, hi⟩ := List.getElem?_of_mem hh
  have il := (List.getElem?_eq_some_iff.mp hi).1
  obtain ⟨d, _, sc, _⟩ := (T0.steps i h hi).call (T0.pre sk i (by omega))
  exact sc
section
variable {P : Program} {w : World} {K : PySem.W.Frag} {mg : Str → Option Value} {base : Heap}
def sp_law_are_moves : Sp := fun vs H Q _ => ∃ (l ml : Addr) (ns : List Int) (hs : List Hop) (xs : List V), vs = [.ref l, .ref ml] ∧ H l = some (.lst (ns.map V.int)) ∧ SzOk ns ∧ prodL ns ≤ 300 ∧ H ml = some (.lst xs) ∧ HopsR H xs hs ∧ (∀ h ∈ hs, SeatOk ns h.1) ∧ ∀ H2, Ex H H2 → Q (.bl true) H2
theorem ok_law_are_moves (T : TX K mg) : FnOk P w K mg base CX0 2 T.f_law_are_moves T.fd_law_are_moves ["_law_dims_here", "_law_hops"] sp_law_are_moves := by
  refine T.F_law_are_moves.ok sc_law_are_moves (fun vs H Q E h => ?_) (fun cdv A outer s H vs Q E hr h => ?_)
  · obtain ⟨l, ml, ns, hs, xs, rfl, _⟩ := h
    rfl
  · obtain ⟨l, ml, ns, hs, xs, rfl, hl, ok, pr, hml, rh, sks, k⟩ := h
    refine ⟨_, (pss_cons (ps_for PassesOwn.never rfl (pi_list (pv 1)) (pg_name (i := 2) sc_law_are_moves.nd rfl (Or.inl rfl)) (pss_cons (ps_if (PW.pt (pw_or (pt_not (pt_val (pe_callB call_isi (by rfl) T.z_isinstance (by decide +kernel) (pa_cons (pv 2) (pa_cons (pe_bltn (v := .ty "tuple") rfl T.z_tuple (by decide +kernel) rfl) pa_nil))))) (pw_or (pt_cmpR op_ne (pe_callB call_len_seq (by rfl) T.z_len (by decide +kernel) (pa_cons (pv 2) pa_nil)) pe_int (nomark _)) (pw_or1 (pt_not (pt_val (pe_callB call_isi (by rfl) T.z_isinstance (by decide +kernel) (pa_cons (pe_ix ix_tup (pv 2) pe_int (fun _ _ => rfl)) (pa_cons (pe_bltn (v := .ty "str") rfl T.z_str (by decide +kernel) rfl) pa_nil))))))))) (pss_one (ps_ret pe_bl)) pss_nil) (pss_cons (ps_if (PW.pt (pw_or (pt_not (pt_val (pe_callB call_isi (by rfl) T.z_isinstance (by decide +kernel) (pa_cons (pe_ix ix_tup (pv 2) pe_int (fun _ _ => rfl)) (pa_cons (pe_bltn (v := .ty "tuple") rfl T.z_tuple (by decide +kernel) rfl) pa_nil))))) (pw_or1 (pt_cmpR op_ne (pe_callB call_len_seq (by rfl) T.z_len (by decide +kernel) (pa_cons (pe_ix ix_tup (pv 2) pe_int (fun _ _ => rfl)) pa_nil)) (pe_callB call_len_seq (by rfl) T.z_len (by decide +kernel) (pa_cons (pv 0) pa_nil)) (nomark _))))) (pss_one (ps_ret pe_bl)) pss_nil) (pss_one (ps_if (pt_not (pt_val (pe_callB (cr_all rfl) (by rfl) T.z_all (by decide +kernel) (pa_cons (pe_lc (own := [("_law_one", 3)]) (g := (gName 3)) rfl sc_law_are_moves.nd (pi_tup (pe_ix ix_tup (pv 2) pe_int (fun _ _ => rfl))) (blkOk_by (N := N_law_are_moves) (sc := defScope s_law_are_moves) (by decide +kernel)) (fun _ _ _ _ _ => (pg_name (i := 3) sc_law_are_moves.nd rfl (Or.inl rfl))) (fun _ _ _ _ _ => pts_nil) (fun _ _ _ _ _ => (pe_call (ok_law_number T) hr rfl T.m_law_number T.F_law_number.kp T.b_law_number .nil pass0 (pa_cons (pv 3) (pa_cons pe_int (pa_cons pe_int pa_nil)))))) pa_nil)))) (pss_one (ps_ret pe_bl)) pss_nil))))) (pss_one (ps_ret pe_bl))), ?_⟩
    refine ⟨_, rfl, ml, rfl, ⟨_, SqL.of hml⟩, ?_⟩
    refine for_it (walk_list (xs := xs)) (fun i σ Hx => (∃ y2 y3 : Option V, σ = [some (.ref l), some (.ref ml), y2, y3]) ∧ Ex H Hx) ⟨⟨_, _, rfl⟩, exr⟩ (fun i σ Hx _ p => SqL.of (p.2 _ _ hml)) ?_ (fun σ Hx ⟨_, ex⟩ => k _ ex)
    rintro i x σ _ Hx hi ⟨⟨y2, y3, rfl⟩, ex⟩ ⟨rfl, hx⟩
    obtain ⟨h, hh, r, c, rfl, hr0, hc0⟩ := paired_get rh hx
    have sc := sks h (List.mem_of_getElem? hh)
    have hrr := ex _ _ hr0
    have hc := ex _ _ hc0
    dsimp only [gName]
    refine ⟨_, rfl, _, _, _, _, true, rfl, .ty _, .base (.tup hrr), kit_ty (by decide +kernel), _, rfl, ?_⟩
    refine ⟨_, rfl, r, _, rfl, .inr (SqT.of hrr), rfl, _, rfl, itf rfl ?_⟩
    refine ⟨_, rfl, r, _, _, _, rfl, rfl, SqT.of hrr, rfl, _, _, _, _, true, rfl, .ty _, .base (.str _), kit_ty (by decide +kernel), _, rfl, itf rfl ?_⟩
    refine ⟨_, rfl, r, _, _, _, rfl, rfl, SqT.of hrr, rfl, _, _, _, _, true, rfl, .ty _, .base (.tup hc), kit_ty (by decide +kernel), _, rfl, ?_⟩
    refine ⟨_, rfl, r, _, _, _, rfl, rfl, SqT.of hrr, rfl, c, _, rfl, .inr (SqT.of hc), _, rfl, l, _, rfl, .inl (SqL.of (ex _ _ hl)), rfl, _, rfl, itf (by rw [List.length_map, List.length_map, sc.len]; simp) ?_⟩
    refine ⟨_, rfl, r, _, _, _, rfl, rfl, SqT.of hrr, rfl, c, rfl, ⟨_, SqT.of hc⟩, fun D hD => ?_⟩
    have all1 : (h.1.map fun x => between (some x) 0 300).all id = true := by
      rw [List.all_map, List.all_eq_true]
      intro x hx
      obtain ⟨j, hj⟩ := List.getElem?_of_mem hx
      have lj : j < ns.length := by rw [← sc.len]; exact (List.getElem?_eq_some_iff.mp hj).1
      obtain ⟨x0, x1⟩ := (seat_iff.mp sc).2 j _ x (List.getElem?_eq_getElem lj) hj
      have nb := mul_le_prod ok.one (List.getElem?_eq_getElem lj)
      show (decide (0 ≤ x) && decide (x ≤ 300)) = true
      rw [decide_eq_true x0, decide_eq_true (by omega)]
      rfl
    refine lc_vals (walk_tup (xs := h.1.map V.int)) ((h.1.map fun x => between (some x) 0 300).map V.bl) (by simp) (by rw [List.length_map, sc.len]; have := ok.le; omega) hD (fun H3 e => SqT.of (e _ _ hc)) ?_ gmono_name ?_
    · rintro j x _ H1 R2 hj e1 ⟨rfl, hx⟩ kk
      obtain ⟨z, hz, rfl⟩ := map_get hx
      refine ⟨rfl, _, rfl, _, some z, 0, 300, rfl, rfl, kk _ _ exr ?_⟩
      rw [List.getElem?_map, List.getElem?_map, hz]
      rfl
    intro H1 e1 hD1
    refine ⟨D, _, rfl, SqL.of hD1, _, rfl, itf (by rw [all1]; rfl) ?_⟩
    exact ⟨⟨_, _, rfl⟩, ext ex e1⟩
def sp_law_recorded : Sp := fun vs H Q _ => ∃ (s l p0 r ml sl : Addr) (ns p : List Int) (rp : Rp) (lim : Int) (R : TrR), vs = [.ref s, .ref l, .ref p0, .ref r] ∧ Src H s ∧ H l = some (.lst (ns.map V.int)) ∧ l ≠ s ∧ SzOk ns ∧ prodL ns ≤ 300 ∧ H p0 = some (.tup (p.map V.int)) ∧ SeatOk ns p ∧ TourV H r ml sl R ∧ ml ≠ s ∧ sl ≠ s ∧ R.hops.length ≤ 99999 ∧ TourOk ns p rp lim R ∧ ∀ H2, XB s H H2 → Src H2 s → Q (.bl true) H2
theorem ok_law_recorded (T : TX K mg) : FnOk P w K mg base CX0 10 T.f_law_recorded T.fd_law_recorded ["_law_source_here", "_law_dims_here", "_law_spot", "_law_found"] sp_law_recorded := by
  refine T.F_law_recorded.ok sc_law_recorded (fun vs H Q E h => ?_) (fun cdv A outer s H vs Q E hr h => ?_)
  · obtain ⟨s, l, p0, r, ml, sl, ns, p, rp, lim, R, rfl, _⟩ := h
    rfl
  · obtain ⟨s, l, p0, r, ml, sl, ns, p, rp, lim, R, rfl, src, hl, nls, ok, pr, hp0, sk, ⟨xs, ys, hrr, hml, rh, hsl, rb⟩, nms, nss, lh, T0, k⟩ := h
    refine ⟨_, (pss_cons (ps_set (i := 4) sc_law_recorded.nd rfl (Or.inl rfl) (pe_slice sl_list (pe_call (ok_law_shuffle T) (hr.mono (by decide)) rfl T.m_law_shuffle T.F_law_shuffle.kp T.b_law_shuffle .nil pass0 (pa_cons (pv 0) (pa_cons (pe_slice sl_list (pe_call (ok_law_spots T) (hr.mono (by decide)) rfl T.m_law_spots T.F_law_spots.kp T.b_law_spots .nil pass0 (pa_cons (pv 1) pa_nil)) po_none (po_some pe_int)) pa_nil))) po_none (po_some (pe_op op_add pe_int (pe_call (ok_law_draw T) (hr.mono (by decide)) rfl T.m_law_draw T.F_law_draw.kp T.b_law_draw .nil pass0 (pa_cons (pv 0) (pa_cons pe_int pa_nil))))))) (pss_cons (ps_par (i := 5) (j := 6) rfl sc_law_recorded.nd rfl rfl (by decide) rfl rfl (pa_cons (pe_lst (pa_cons (pv 2) pa_nil)) (pa_cons (pe_lst (pa_cons (pv 2) pa_nil)) pa_nil)) (by rfl)) (pss_cons (ps_for PassesOwn.never rfl (pi_list (pe_ix ix_tup (pv 3) pe_int (fun _ _ => rfl))) (pg_tup rfl (pgs_cons (pg_name (i := 7) sc_law_recorded.nd rfl (Or.inl rfl)) (pgs_cons (pg_name (i := 8) sc_law_recorded.nd rfl (Or.inl rfl)) pgs_nil))) (pss_cons (ps_expr (pe_bm PySem.F.plainAttrs_list PySem.F.slot_list_append PySem.F.type_list_append mt_append (pv 5) (pa_cons (pe_call (ok_law_moved T) (hr.mono (by decide)) rfl T.m_law_moved T.F_law_moved.kp T.b_law_moved .nil pass0 (pa_cons (pv 1) (pa_cons (pe_ix ix_list (pv 5) (pe_un un_neg pe_int) (fun _ _ => rfl)) (pa_cons (pv 7) (pa_cons (pe_ix ix_list (pe_lst (pa_cons pe_int (pa_cons (pe_un un_neg pe_int) pa_nil))) (pe_callTy call_int1 (by rfl) T.z_int (by decide +kernel) (pa_cons (pe_cmpR op_eq (pv 8) pe_str (nomark _)) pa_nil)) (fun _ _ => rfl)) pa_nil))))) pa_nil))) (pss_one (ps_if (pt_cmpR (r := rNotInD K) (op_notInD (u65 hr)) (pe_ix ix_list (pv 5) (pe_un un_neg pe_int) (fun _ _ => rfl)) (pv 6) rfl) (pss_one (ps_expr (pe_bm PySem.F.plainAttrs_list PySem.F.slot_list_append PySem.F.type_list_append mt_append (pv 6) (pa_cons (pe_ix ix_list (pv 5) (pe_un un_neg pe_int) (fun _ _ => rfl)) pa_nil)))) pss_nil)))) (pss_cons (ps_set (i := 9) sc_law_recorded.nd rfl (Or.inl rfl) (pe_make T.M_Record (ok_Record_init T) hr rfl T.m_Record T.b_Record_init .nil pass0 (pa_cons (pe_make T.M_Table (ok_Table_init T) (hr.mono (by decide)) rfl T.m_Table T.b_Table_init .nil pass0 (pa_cons (pv 1) pa_nil)) (pa_cons (pv 4) (pa_cons (pv 2) (pa_cons (pe_ix ix_tup (pv 3) pe_int (fun _ _ => rfl)) pa_nil)))))) (pss_one (ps_ret (pe_and (pe_cmpR (r := rEqD K) (op_eqD hr.units) (pe_meth0 (pv 9) T.cl_Record T.me_Record_seats (ok_Record_seats T) (hr.mono (by decide)) T.b_Record_seats .nil pass0) (pv 5) (nomark _)) (pe_one (pe_cmpR (r := rEqD K) (op_eqD hr.units) (pv 6) (pe_ix ix_tup (pv 3) pe_int (fun _ _ => rfl)) (nomark _)))))))))), ?_⟩
    refine ⟨_, rfl, _, rfl, l, ns, rfl, hl, ok, pr, fun av H1 e1 nav ⟨zs, hav, rz⟩ => ?_⟩
    have lz : zs.length = (allS ns).length := Paired.length rz
    have lA : (allS ns).length ≤ 300 := by have := allS_len ok.one; omega
    refine ⟨9, rfl, av, _, rfl, SqL.of hav, ?_⟩
    (intro cv ncv; generalize hGcv : upd _ cv _ = H2; have eH2 := exG hGcv ncv; have hcv := atG hGcv; clear hGcv)
    have e12 := ext e1 eH2
    have src2 := src.mono e12
    have rcv : RowsR H2 (zs.take 9) ((allS ns).take 9) := paired_take 9 (rz.mono eH2)
    have ncs : cv ≠ s := (src.mono e1).ne ncv
    have hcv2 : H2 cv = some (.lst (zs.take 9)) := by
      rw [hcv]
      exact congrArg (fun z => some (HO.lst z)) (cut_to zs 9)
    dsimp only [tNil, List.append_nil]
    refine ⟨s, cv, zs.take 9, rfl, src2, hcv2, ncs, by rw [List.length_take]; omega, DataIn.rows src2 rcv, fun q ys2 H3 nq hq pm xb3 src3 => ?_⟩
    have rcv3 : RowsR H3 (zs.take 9) ((allS ns).take 9) := rcv.monoT fun _ _ z => tup_xb src2 z xb3
    obtain ⟨hss, ry, ph⟩ := paired_perm pm (show Paired _ (zs.take 9) ((allS ns).take 9) from rcv3)
    have nqs : q ≠ s := src2.ne nq
    refine ⟨_, rfl, s, 3, rfl, src3, by decide, by decide +kernel, fun r2 H4 r20 r21 xb4 src4 => ⟨_, _, rfl, rfl, _, rfl, q, _, rfl, SqL.of (xb4 _ _ nqs hq), ?_⟩⟩
    (intro g ng; generalize hGg : upd _ g _ = H5; have eH5 := exG hGg ng; have hg := atG hGg; clear hGg)
    have hg5 : H5 g = some (.lst (ys2.take (1 + r2).toNat)) := by
      rw [hg]
      exact congrArg (fun z => some (HO.lst z)) (take_cut ys2 r20)
    have X5 : XB s H H5 := (XB.of e12).trans (xb3.trans (xb4.trans (XB.of eH5)))
    have src5 := src4.mono eH5
    have rg : RowsR H5 (ys2.take (1 + r2).toNat) (hss.take (1 + r2).toNat) := paired_take _ ((show RowsR H3 ys2 hss from ry).monoT fun _ _ z => eH5 _ _ (tup_xb src3 z xb4))
    have gne : hss.take (1 + r2).toNat ≠ [] := fun z => by
      have h1 : (hss.take (1 + r2).toNat).length = 0 := by rw [z]; rfl
      rw [List.length_take, ph.length_eq, List.length_take] at h1
      have h2 := allS_len ok.one
      have h3 := prodL_pos ok.one
      omega
    have gsk : ∀ t ∈ hss.take (1 + r2).toNat, SeatOk ns t := fun t ht => mem_allS.mp (List.mem_of_mem_take (ph.mem_iff.mp (List.mem_of_mem_take ht)))
    have gnd : (hss.take (1 + r2).toNat).Nodup := (List.take_sublist _ _).nodup (ph.nodup_iff.mpr ((List.take_sublist _ _).nodup (allS_nodup ns)))
    have glen : (hss.take (1 + r2).toNat).length ≤ 9 := by
      rw [List.length_take, ph.length_eq, List.length_take]
      omega
    generalize hss.take (1 + r2).toNat = gs at *
    generalize ys2.take (1 + r2).toNat = gxs at *
    have hl5 := X5 _ _ nls hl
    have hp5 := tup_xb src hp0 X5
    have hr5 := tup_xb src hrr X5
    have hml5 := X5 _ _ nms hml
    have hsl5 := X5 _ _ nss hsl
    have rh5 : HopsR H5 xs R.hops := rh.monoT fun _ _ z => tup_xb src z X5
    have rb5 : RowsR H5 ys R.been := rb.monoT fun _ _ z => tup_xb src z X5
    clear hg hcv hcv2 rcv rcv3 ry pm hq nq nqs src4 src3 src2 xb3 xb4 e12 eH5 eH2 e1 hav rz nav ph
    dsimp only [gName]
    refine ⟨_, rfl, slen rfl, ?_⟩
    (intro wl nwl; generalize hGwl : upd _ wl _ = H6; have eH6 := exG hGwl nwl; have hwl := atG hGwl; clear hGwl)
    refine ⟨_, rfl, slen rfl, ?_⟩
    (intro fl nfl; generalize hGfl : upd _ fl _ = H7; have eH7 := exG hGfl nfl; have hfl := atG hGfl; clear hGfl)
    refine ⟨_, _, rfl, ?_⟩
    have e57 := ext eH6 eH7
    have hwl7 := eH7 _ _ hwl
    have nwf : wl ≠ fl := ne_of_none hwl nfl
    have nfl5 : H5 fl = none := Evl.fresh_back eH6 nfl
    show tSeq _ _ _ [_, _, _, _, _, _, _, _, _, _] _
    refine ⟨_, rfl, r, _, _, _, rfl, rfl, SqT.of (e57 _ _ hr5), rfl, ml, rfl, ⟨_, SqL.of (e57 _ _ hml5)⟩, ?_⟩
    have lx : xs.length = R.hops.length := Paired.length rh
    refine for_it (walk_list (xs := xs)) (fun i σ Hx => ∃ (us vs2 : List V) (y7 y8 : Option V), σ = [some (.ref s), some (.ref l), some (.ref p0), some (.ref r), some (.ref g), some (.ref wl), some (.ref fl), y7, y8, none] ∧ Ex H5 Hx ∧ Hx wl = some (.lst us) ∧ RowsR Hx us (walkL ns p (R.hops.take i)) ∧ Hx fl = some (.lst vs2) ∧ RowsR Hx vs2 (beenL ns p (R.hops.take i))) ⟨_, _, _, _, rfl, e57, hwl7, .cons ⟨p0, rfl, e57 _ _ hp5⟩ .nil, hfl, .cons ⟨p0, rfl, e57 _ _ hp5⟩ .nil⟩ (fun i σ Hx _ ⟨_, _, _, _, _, ex, _⟩ => SqL.of (ex _ _ hml5)) ?_ ?_
    · rintro i x σ _ Hx hi ⟨us, vs2, y7, y8, rfl, ex, hwx, rwx, hfx, rfx⟩ ⟨rfl, hx⟩
      obtain ⟨h, hh, r0, c, rfl, hr0, hc0⟩ := paired_get rh5 hx
      have S := T0.steps i h hh
      have hil := (List.getElem?_eq_some_iff.mp hh).1
      have Pi := T0.pre sk i (by omega)
      obtain ⟨d, hd, sc, sn, cl⟩ := S.call Pi
      have sp := Pi.seat _ Pi.pin
      have pseat := Pi.seat
      have pnod := Pi.nod
      have en := been_snoc ns p (R.hops.take i) h
      have ep := pos_next ns p (R.hops.take i) h
      obtain ⟨wss, ew⟩ := walk_last ns p (R.hops.take i)
      have hwr := rwx
      rw [ew] at hwr
      obtain ⟨ys3, u, rfl, hu⟩ := hwr.last
      rw [take_more hh]
      have ewn := walk_snoc ns p (R.hops.take i) h
      refine ⟨r0, _, rfl, SqT.of (ex _ _ hr0), rfl, _, _, rfl, _, _, rfl, rfl, ?_⟩
      dsimp only [gName]
      refine ⟨_, rfl, .inl ⟨rfl, _, SqL.of hwx⟩, _, rfl, _, rfl, _, rfl, wl, _, _, _, rfl, rfl, SqL.of hwx, atI_last _ _, _, rfl, ?_⟩
      show tCons _ tNil _ _ _
      refine ⟨_, rfl, slen rfl, ?_⟩
      (intro el nel; generalize hGel : upd _ el _ = H8; have eH8 := exG hGel nel; have hel := atG hGel; clear hGel)
      have ey := ext ex eH8
      have E8 : XB s H H8 := X5.trans (XB.of ey)
      have sgn : (if h.2 = true then (-1 : Int) else 1) = 1 ∨ (if h.2 = true then (-1 : Int) else 1) = -1 := by cases h.2 <;> decide
      refine ⟨_, rfl, rfl, .inr ⟨h.2, by cases h.2 <;> decide +kernel, el, _, _, _, rfl, rfl, SqL.of hel, (show atI [V.int 1, V.int (-1)] (if h.2 = true then 1 else 0) = some (.int (if h.2 = true then -1 else 1)) by cases h.2 <;> rfl), l, u, c, (if h.2 = true then -1 else 1), ns, posL ns p (R.hops.take i), h.1, rfl, ey _ _ hl5, ok, eH8 _ _ hu, ey _ _ hc0, sp.len, sc.len, sgn, fun H9 q e9 nq hq => ?_⟩⟩
      have e9x := ext eH8 e9
      have hwx9 := e9x _ _ hwx
      have lus : (ys3 ++ [V.ref u]).length ≤ 100001 := by
        have := rwx.len
        rw [walk_len, List.length_take] at this
        omega
      refine ⟨wl, _, _, rfl, rfl, hwx9, Nat.lt_of_le_of_lt lus (by decide), ?_⟩
      have tpu : ∀ c2 zs, H9 c2 = some (.tup zs) → (upd H9 wl (.lst (ys3 ++ [V.ref u] ++ [V.ref q]))) c2 = some (.tup zs) := fun c2 zs z => by
        rw [upd_ne (fun e => by rw [e] at z; exact absurd (hwx9.symm.trans z) (by intro z; cases z))]
        exact z
      have hwu : upd H9 wl (.lst (ys3 ++ [V.ref u] ++ [V.ref q])) wl = some (.lst (ys3 ++ [V.ref u] ++ [V.ref q])) := upd_same
      have hfu : upd H9 wl (.lst (ys3 ++ [V.ref u] ++ [V.ref q])) fl = some (.lst vs2) := by
        rw [upd_ne (Ne.symm nwf)]
        exact e9x _ _ hfx
      have rwu : RowsR (upd H9 wl (.lst (ys3 ++ [V.ref u] ++ [V.ref q]))) (ys3 ++ [V.ref u] ++ [V.ref q]) (walkL ns p (R.hops.take i ++ [h])) := by
        rw [ewn, ep]
        exact RowsR.snoc (tpu _ _ hq) ((rwx.mono e9x).monoT tpu)
      have rfu : RowsR (upd H9 wl (.lst (ys3 ++ [V.ref u] ++ [V.ref q]))) vs2 (beenL ns p (R.hops.take i)) := (rfx.mono e9x).monoT tpu
      have hqu := tpu _ _ hq
      have exu : Ex H5 (upd H9 wl (.lst (ys3 ++ [V.ref u] ++ [V.ref q]))) := ex_upd (ext ex e9x) nwl
      generalize upd H9 wl (.lst (ys3 ++ [V.ref u] ++ [V.ref q])) = Hu at *
      rw [← show posL ns p (R.hops.take i ++ [h]) = shiftL ns (posL ns p (R.hops.take i)) h.1 (if h.2 = true then -1 else 1) from ep] at hqu
      generalize posL ns p (R.hops.take i ++ [h]) = pn at *
      refine ⟨_, rfl, _, rfl, wl, _, _, _, rfl, rfl, SqL.of hwu, atI_last _ _, _, rfl, iT pn, (beenL ns p (R.hops.take i)).map iT, dp_ints hqu, .lst (SqL.of hfu) rfu.dp, (sh_ints (n := 59) _).ok, (sh_rows (n := 58) _).ok, ?_⟩
      rw [any_rows]
      have lfs : vs2.length ≤ 100001 := by
        have h1 := rfx.len
        have h2 := seats_len ok pr pnod pseat
        omega
      by_cases cin : pn ∈ beenL ns p (R.hops.take i)
      · refine ⟨_, rfl, itf (by rw [decide_eq_true cin]; rfl) ?_⟩
        rw [if_pos cin] at en
        exact ⟨_, _, _, _, rfl, exu, hwu, rwu, hfu, by rw [en]; exact rfu⟩
      · refine ⟨_, rfl, itt (by rw [decide_eq_false cin]; rfl) ?_⟩
        rw [if_neg cin] at en
        refine ⟨_, rfl, .inl ⟨rfl, _, SqL.of hfu⟩, _, rfl, _, rfl, wl, _, _, _, rfl, rfl, SqL.of hwu, atI_last _ _, fl, _, _, rfl, rfl, hfu, Nat.lt_of_le_of_lt lfs (by decide), ?_⟩
        have tpf : ∀ c2 zs, Hu c2 = some (.tup zs) → (upd Hu fl (.lst (vs2 ++ [V.ref q]))) c2 = some (.tup zs) := fun c2 zs z => by
          rw [upd_ne (fun e => by rw [e] at z; exact absurd (hfu.symm.trans z) (by intro z; cases z))]
          exact z
        refine ⟨_, _, _, _, rfl, ex_upd exu nfl5, ?_, rwu.monoT tpf, upd_same, ?_⟩
        · rw [upd_ne nwf]
          exact hwu
        · rw [en]
          exact RowsR.snoc (tpf _ _ hqu) (rfu.monoT tpf)
    · rintro σ Hx ⟨us, vs2, y7, y8, rfl, ex, hwx, rwx, hfx, rfx⟩
      rw [lx, List.take_length] at rwx rfx
      rw [← T0.been] at rfx
      have h5x := ex
      refine ⟨_, rfl, ?_⟩
      refine mk_tab (b := false) (show SqH Hx (false, l) _ from ex _ _ hl5) ok fun bd H8 e8 nbd tab => ?_
      have E8 := ext ex e8
      have lmv : ∀ m ∈ R.hops, m.1.length = ns.length := fun m hm => (tour_hops T0 sk m hm).len
      refine ⟨_, rfl, _, rfl, _, rfl, r, _, _, _, rfl, rfl, SqT.of (E8 _ _ hr5), rfl, mk_rec (bq := false) (bm := false) tab ok ⟨gxs, E8 _ _ hg5, rg.mono E8⟩ gne (by omega) gsk gnd (E8 _ _ hp5) sk ⟨xs, E8 _ _ hml5, (show HopsR H8 xs R.hops from rh5.monoT fun _ _ z => E8 _ _ z)⟩ (by omega) lmv fun rc H9 e9 nrc rec => ?_⟩
      dsimp only [gName]
      obtain ⟨rdx, _, _, _, _, _, _, _, rh1, _⟩ := id rec
      refine ⟨_, rfl, rc, rdx, _, rfl, rh1, rfl, rc, ns, p, gs, R.hops, rfl, rec, fun sa Ha ea nsa ra => ?_⟩
      obtain ⟨ws, hsa, rws⟩ := ra
      have E9 := ext E8 e9
      have eha := ext e8 (ext e9 ea)
      refine ⟨_, rfl, .list ((walkL ns p R.hops).map iT), .list ((walkL ns p R.hops).map iT), .lst (SqL.of hsa) rws.dp, .lst (SqL.of (eha _ _ hwx)) (rwx.mono eha).dp, (sh_rows (n := 58) _).ok, (sh_rows (n := 58) _).ok, ?_⟩
      rw [eqv_refl _ (sh_rows (n := 58) _).1]
      refine ⟨true, rfl, ?_⟩
      rw [if_pos rfl]
      refine ⟨_, rfl, _, rfl, r, _, _, _, rfl, rfl, SqT.of (ea _ _ (E9 _ _ hr5)), rfl, .list (R.been.map iT), .list (R.been.map iT), .lst (SqL.of (eha _ _ hfx)) (rfx.mono eha).dp, .lst (SqL.of (ea _ _ (E9 _ _ hsl5))) (rb5.monoT fun _ _ z => ea _ _ (E9 _ _ z)).dp, (sh_rows (n := 58) _).ok, (sh_rows (n := 58) _).ok, ?_⟩
      rw [eqv_refl _ (sh_rows (n := 58) _).1]
      exact k _ (X5.trans (XB.of (ext ex eha))) (src5.mono (ext ex eha))
end

theorem oc_all {ns p : List Int} {rp : Rp} {lim : Int} {R : TrR} (T0 : TourOk ns p rp lim R) (one : ∀ n ∈ ns, 1 ≤ n) :
    (0 < (dep (countsL ns (openL ns R.been R.last)) R.last).getD 0 ∧ R.oc = 2 ∧ (R.hops.length : Int) = lim) ∨ ((dep (countsL ns (openL ns R.been R.last)) R.last).getD 0 = 0 ∧ R.oc = 0 ∧ (R.been.length : Int) = prodL ns) ∨ ((dep (countsL ns (openL ns R.been R.last)) R.last).getD 0 = 0 ∧ R.oc = 1 ∧ (R.been.length : Int) ≠ prodL ns) := by
  have lA := allS_len one
  have hp := T0.pin
  rcases T0.oc with ⟨h1, h2⟩ | ⟨h1, h2, h3⟩ | ⟨h1, h2, d, h3⟩
  · refine .inr (.inl ⟨?_, h1, ?_⟩)
    · rw [h2]
      have h1 : countsL ns [] = [] := by
        unfold countsL
        rw [show (allS ns).length + 2 = (allS ns).length + 1 + 1 from rfl]
        unfold roundsL
        rw [if_pos rfl]
        rfl
      rw [h1]
      rfl
    · have a : allS ns ⊆ R.been := fun o ho => Classical.byContradiction fun c => by
        have : o ∈ openL ns R.been R.last := mem_open.mpr ⟨mem_allS.mp ho, c, fun z => c (z ▸ hp)⟩
        rw [h2] at this
        cases this
      have b : R.been ⊆ allS ns := fun o ho => mem_allS.mpr (T0.seat o ho)
      have c1 := (allS_nodup ns).length_le_of_subset a
      have c2 := T0.nod.length_le_of_subset b
      omega
  · refine .inr (.inr ⟨by rw [h3]; rfl, h1, fun z => h2 ?_⟩)
    obtain ⟨o, ho⟩ := List.exists_mem_of_ne_nil _ h2
    obtain ⟨so, no, _⟩ := mem_open.mp ho
    have b : (o :: R.been) ⊆ allS ns := fun q hq => by
      rcases List.mem_cons.mp hq with rfl | h
      · exact mem_allS.mpr so
      · exact mem_allS.mpr (T0.seat q h)
    have c2 := (List.nodup_cons.mpr ⟨no, T0.nod⟩).length_le_of_subset b
    rw [List.length_cons] at c2
    omega
  · refine .inl ⟨?_, h1, h2⟩
    have sks : ∀ t ∈ openL ns R.been R.last, SeatOk ns t := fun t ht => (mem_open.mp ht).1
    have ne : openL ns R.been R.last ≠ [] := fun z => by
      rw [z] at h3
      have h1 : countsL ns [] = [] := by
        unfold countsL
        rw [show (allS ns).length + 2 = (allS ns).length + 1 + 1 from rfl]
        unfold roundsL
        rw [if_pos rfl]
        rfl
      rw [h1] at h3
      cases h3
    have lst := counts_least sks (openL_nodup ns R.been R.last) ne
    rw [h3]
    refine Nat.pos_of_ne_zero fun z => ?_
    rw [show (some d).getD 0 = d from rfl] at z
    rw [z] at h3
    exact (mem_open.mp ((lst.zero _).mp h3)).2.1 hp
theorem shs (o : Nat) : SeqAt.shaped (.str (ocS o)) = true := by
  refine Sh.ok ⟨?_, by simp only [PyData.depth]; omega⟩
  simp only [PyData.canLay0]
  unfold ocS
  split
  · decide +kernel
  · split <;> decide +kernel
theorem eqs (o : Nat) : PyData.eqv (.str (ocS o)) (.str (ocS o)) = true := by simp [PyData.eqv]
section
variable {P : Program} {w : World} {K : PySem.W.Frag} {mg : Str → Option Value} {base : Heap}
def sp_law_right : Sp := fun vs H Q _ => ∃ (l s r ml sl : Addr) (x : V) (ns p : List Int) (rp : Rp) (lim : Int) (R : TrR), vs = [.ref l, .ref s, x, .int lim, .ref r] ∧ H l = some (.lst (ns.map V.int)) ∧ SzOk ns ∧ prodL ns ≤ 300 ∧ H s = some (.tup (p.map V.int)) ∧ SeatOk ns p ∧ RespT H x rp ∧ RpOk ns p rp ∧ TourV H r ml sl R ∧ R.hops.length ≤ 99999 ∧ TourOk ns p rp lim R ∧ ∀ H2, Ex H H2 → Q (.bl true) H2
theorem ok_law_right (T : TX K mg) : FnOk P w K mg base CX0 5 T.f_law_right T.fd_law_right ["_law_dims_here", "_law_spot", "_law_responder", "_law_bound", "_law_found"] sp_law_right := by
  refine T.F_law_right.ok sc_law_right (fun vs H Q E h => ?_) (fun cdv A outer s H vs Q E hr h => ?_)
  · obtain ⟨l, s, r, ml, sl, x, ns, p, rp, lim, R, rfl, _⟩ := h
    rfl
  · obtain ⟨l, s, r, ml, sl, x, ns, p, rp, lim, R, rfl, hl, ok, pr, hs, sk, hx, rok, ⟨xs, ys, hrr, hml, rh, hsl, rb⟩, lh, T0, k⟩ := h
    refine ⟨_, (pss_cons (ps_if (PW.pt (pw_or (pt_not (pt_val (pe_callB call_isi (by rfl) T.z_isinstance (by decide +kernel) (pa_cons (pv 4) (pa_cons (pe_bltn (v := .ty "tuple") rfl T.z_tuple (by decide +kernel) rfl) pa_nil))))) (pw_or (pt_cmpR op_ne (pe_callB call_len_seq (by rfl) T.z_len (by decide +kernel) (pa_cons (pv 4) pa_nil)) pe_int (nomark _)) (pw_or (pt_not (pt_val (pe_callB call_isi (by rfl) T.z_isinstance (by decide +kernel) (pa_cons (pe_ix ix_tup (pv 4) pe_int (fun _ _ => rfl)) (pa_cons (pe_bltn (v := .ty "list") rfl T.z_list (by decide +kernel) rfl) pa_nil))))) (pw_or1 (pt_cmpR op_gt (pe_callB call_len_seq (by rfl) T.z_len (by decide +kernel) (pa_cons (pe_ix ix_tup (pv 4) pe_int (fun _ _ => rfl)) pa_nil)) (pv 3) (nomark _))))))) (pss_one (ps_ret pe_bl)) pss_nil) (pss_cons (ps_if (PW.pt (pw_or (pt_not (pt_val (pe_call (ok_law_are_moves T) (hr.mono (by decide)) rfl T.m_law_are_moves T.F_law_are_moves.kp T.b_law_are_moves .nil pass0 (pa_cons (pv 0) (pa_cons (pe_ix ix_tup (pv 4) pe_int (fun _ _ => rfl)) pa_nil))))) (pw_or1 (pt_not (pt_val (pe_callB call_isi (by rfl) T.z_isinstance (by decide +kernel) (pa_cons (pe_ix ix_tup (pv 4) pe_int (fun _ _ => rfl)) (pa_cons (pe_bltn (v := .ty "list") rfl T.z_list (by decide +kernel) rfl) pa_nil)))))))) (pss_one (ps_ret pe_bl)) pss_nil) (pss_cons (ps_set (i := 5) sc_law_right.nd rfl (Or.inl rfl) (pe_call (ok_law_replayed T) hr rfl T.m_law_replayed T.F_law_replayed.kp T.b_law_replayed .nil pass0 (pa_cons (pv 0) (pa_cons (pv 1) (pa_cons (pv 2) (pa_cons (pe_ix ix_tup (pv 4) pe_int (fun _ _ => rfl)) pa_nil)))))) (pss_cons (ps_if (PW.pt (pw_or (pt_cmpR op_isN (pv 5) pe_non (nomark _)) (pw_or1 (pt_cmpR (r := rNeD K) (op_neD hr.units) (pe_ix ix_tup (pv 4) pe_int (fun _ _ => rfl)) (pe_ix ix_tup (pv 5) pe_int (fun _ _ => rfl)) (nomark _))))) (pss_one (ps_ret pe_bl)) pss_nil) (pss_cons (ps_if (pt_cmpR op_gt (pe_ix ix_tup (pv 5) pe_int (fun _ _ => rfl)) pe_int (nomark _)) (pss_one (ps_ret (pe_and (pe_cmpR op_eq (pe_ix ix_tup (pv 4) pe_int (fun _ _ => rfl)) pe_str (nomark _)) (pe_one (pe_cmpR op_eq (pe_callB call_len_seq (by rfl) T.z_len (by decide +kernel) (pa_cons (pe_ix ix_tup (pv 4) pe_int (fun _ _ => rfl)) pa_nil)) (pv 3) (nomark _)))))) pss_nil) (pss_one (ps_ret (pe_cmpR (r := rEqD K) (op_eqD hr.units) (pe_ix ix_tup (pv 4) pe_int (fun _ _ => rfl)) (pe_ix ix_list (pe_lst (pa_cons pe_str (pa_cons pe_str pa_nil))) (pe_callTy call_int1 (by rfl) T.z_int (by decide +kernel) (pa_cons (pe_cmpR op_eq (pe_callB call_len_seq (by rfl) T.z_len (by decide +kernel) (pa_cons (pe_ix ix_tup (pv 4) pe_int (fun _ _ => rfl)) pa_nil)) (pe_call (ok_law_total T) (hr.mono (by decide)) rfl T.m_law_total T.F_law_total.kp T.b_law_total .nil pass0 (pa_cons (pv 0) pa_nil)) (nomark _)) pa_nil)) (fun _ _ => rfl)) (nomark _))))))))), ?_⟩
    have lx : xs.length = R.hops.length := Paired.length rh
    have ly : ys.length = R.been.length := Paired.length rb
    have le := T0.le
    refine ⟨_, rfl, _, _, _, _, true, rfl, .ty _, .base (.tup hrr), kit_ty (by decide +kernel), _, rfl, ?_⟩
    refine ⟨_, rfl, r, _, rfl, .inr (SqT.of hrr), rfl, _, rfl, itf rfl ?_⟩
    refine ⟨_, rfl, r, _, _, _, rfl, rfl, SqT.of hrr, rfl, _, _, _, _, true, rfl, .ty _, .base (.lst hml), kit_ty (by decide +kernel), _, rfl, itf rfl ?_⟩
    refine ⟨_, rfl, r, _, _, _, rfl, rfl, SqT.of hrr, rfl, ml, _, rfl, .inl (SqL.of hml), _, rfl, _, _, rfl, rfl, _, rfl, itf (by rw [lx]; exact decide_eq_false (by omega)) ?_⟩
    refine ⟨_, rfl, _, rfl, r, _, _, _, rfl, rfl, SqT.of hrr, rfl, l, ml, ns, R.hops, xs, rfl, hl, ok, pr, hml, rh, tour_hops T0 sk, fun H1 e1 => ⟨_, rfl, itf rfl ?_⟩⟩
    refine ⟨_, rfl, r, _, _, _, rfl, rfl, SqT.of (e1 _ _ hrr), rfl, _, _, _, _, true, rfl, .ty _, .base (.lst (e1 _ _ hsl)), kit_ty (by decide +kernel), _, rfl, itf rfl ?_⟩
    refine ⟨_, rfl, _, rfl, _, rfl, _, rfl, r, _, _, _, rfl, rfl, SqT.of (e1 _ _ hrr), rfl, l, s, ml, x, ns, p, rp, lim, R, xs, rfl, e1 _ _ hl, ok, pr, e1 _ _ hs, sk, hx.mono e1, rok, e1 _ _ hml, rh.monoT (fun _ _ z => e1 _ _ z), by omega, T0, fun r2 b H2 e2 ⟨us, hb, rb2⟩ hr2 => ?_⟩
    have E2 := ext e1 e2
    have rb3 : RowsR H2 ys R.been := rb.monoT fun _ _ z => E2 _ _ z
    dsimp only [gName]
    refine ⟨_, rfl, rfl, _, rfl, itf rfl ?_⟩
    refine ⟨_, rfl, r, _, _, _, rfl, rfl, SqT.of (E2 _ _ hrr), rfl, _, rfl, r2, _, _, _, rfl, rfl, SqT.of hr2, rfl, .list (R.been.map iT), .list (R.been.map iT), .lst (SqL.of (E2 _ _ hsl)) rb3.dp, .lst (SqL.of hb) rb2.dp, (sh_rows (n := 58) _).ok, (sh_rows (n := 58) _).ok, _, rfl, itf (by rw [eqv_refl _ (sh_rows (n := 58) _).1]; rfl) ?_⟩
    have pos := prodL_pos ok.one
    have hrr2 := E2 _ _ hrr
    have hml2 := E2 _ _ hml
    have hsl2 := E2 _ _ hsl
    have hl2 := E2 _ _ hl
    refine ⟨_, rfl, r2, _, _, _, rfl, rfl, SqT.of hr2, rfl, _, _, rfl, rfl, _, rfl, ?_⟩
    rcases oc_all T0 ok.one with ⟨h1, h2, h3⟩ | ⟨h1, h2, h3⟩ | ⟨h1, h2, h3⟩
    · refine itt (decide_eq_true (by omega)) ?_
      refine ⟨_, rfl, r, _, _, _, rfl, rfl, SqT.of hrr2, rfl, rfl, true, by rw [h2]; decide +kernel, ?_⟩
      rw [if_pos rfl]
      refine ⟨_, rfl, r, _, _, _, rfl, rfl, SqT.of hrr2, rfl, ml, _, rfl, .inl (SqL.of hml2), _, rfl, rfl, ?_⟩
      rw [lx, h3, decide_eq_true rfl]
      exact k _ E2
    · refine itf (decide_eq_false (by omega)) ?_
      refine ⟨_, rfl, r, _, _, _, rfl, rfl, SqT.of hrr2, rfl, slen rfl, ?_⟩
      (intro el nel; generalize hGel : upd _ el _ = H3; have eH3 := exG hGel nel; have hel := atG hGel; clear hGel)
      have eq1 : (decide (V.int (ys.length : Int) = V.int (prodL ns))) = true := by rw [ly, h3]; simp
      refine ⟨_, rfl, r, _, _, _, rfl, rfl, SqT.of (eH3 _ _ hrr2), rfl, sl, _, rfl, .inl (SqL.of (eH3 _ _ hsl2)), _, rfl, l, ns, rfl, eH3 _ _ hl2, ok.one, Int.le_trans pr (by decide), rfl, .inr ⟨true, congrArg (fun z => [V.bl z]) eq1, el, _, _, _, rfl, rfl, SqL.of hel, rfl, .str (ocS R.oc), .str (ocS R.oc), .str _, by rw [h2]; exact .str _, shs R.oc, shs R.oc, ?_⟩⟩
      rw [eqs R.oc]
      exact k _ (ext E2 eH3)
    · refine itf (decide_eq_false (by omega)) ?_
      refine ⟨_, rfl, r, _, _, _, rfl, rfl, SqT.of hrr2, rfl, slen rfl, ?_⟩
      (intro el nel; generalize hGel : upd _ el _ = H3; have eH3 := exG hGel nel; have hel := atG hGel; clear hGel)
      have eq1 : (decide (V.int (ys.length : Int) = V.int (prodL ns))) = false := decide_eq_false (fun z => h3 (by injection z with z; rw [← z, ly]))
      refine ⟨_, rfl, r, _, _, _, rfl, rfl, SqT.of (eH3 _ _ hrr2), rfl, sl, _, rfl, .inl (SqL.of (eH3 _ _ hsl2)), _, rfl, l, ns, rfl, eH3 _ _ hl2, ok.one, Int.le_trans pr (by decide), rfl, .inr ⟨false, congrArg (fun z => [V.bl z]) eq1, el, _, _, _, rfl, rfl, SqL.of hel, rfl, .str (ocS R.oc), .str (ocS R.oc), .str _, by rw [h2]; exact .str _, shs R.oc, shs R.oc, ?_⟩⟩
      rw [eqs R.oc]
      exact k _ (ext E2 eH3)
end

/-! ### data that repr shows, and how long the text is -/
def Shw (c : Nat) (d : PyData) : Prop := d.showable = true ∧ d.hasDict = false ∧ d.shown.length ≤ c
theorem Shw.up {c e : Nat} {d : PyData} (h : Shw c d) (l : c ≤ e) : Shw e d := ⟨h.1, h.2.1, Nat.le_trans h.2.2 l⟩
theorem shw_int {i : Int} (h : i.natAbs < 10 ^ 12) : Shw 13 (.int i) := by
  refine ⟨?_, rfl, PyData.shown_int_le h⟩
  show decide (i.natAbs.log2 < 1920) = true
  refine decide_eq_true ?_
  have : i.natAbs.log2 < 40 := by
    by_cases z : i.natAbs = 0
    · rw [z]
      decide
    · exact (Nat.log2_lt z).mpr (Nat.lt_of_lt_of_le h (by decide))
  omega
theorem shw_all {c : Nat} : ∀ {ds : List PyData}, (∀ d ∈ ds, Shw c d) → PyData.showableAll ds = true ∧ PyData.hasDictAll ds = false ∧ ((PyData.shownAll ds).map (·.length)).sum ≤ ds.length * c ∧ (PyData.shownAll ds).length = ds.length
  | [], _ => ⟨rfl, rfl, by simp [PyData.shownAll], rfl⟩
  | d :: ds, h => by
    obtain ⟨a, b, e⟩ := h d List.mem_cons_self
    obtain ⟨a2, b2, e2, l2⟩ := shw_all fun x hx => h x (List.mem_cons_of_mem _ hx)
    refine ⟨by simp only [PyData.showableAll, a, a2, Bool.and_true], by simp only [PyData.hasDictAll, b, b2, Bool.or_false], ?_, by simp only [PyData.shownAll, List.length_cons, l2]⟩
    simp only [PyData.shownAll, List.map_cons, List.sum_cons, List.length_cons, Nat.succ_mul]
    omega
theorem shw_tuple {c : Nat} {ds : List PyData} (h : ∀ d ∈ ds, Shw c d) : Shw (ds.length * (c + 2) + 3) (.tuple ds) := by
  obtain ⟨a, b, e, l⟩ := shw_all h
  refine ⟨by simpa only [PyData.showable] using a, by simpa only [PyData.hasDict] using b, ?_⟩
  have := tupleText_len_le (PyData.shownAll ds)
  simp only [PyData.shown, Nat.mul_add] at *
  omega
theorem shw_list {c : Nat} {ds : List PyData} (h : ∀ d ∈ ds, Shw c d) : Shw (ds.length * (c + 2) + 3) (.list ds) := by
  obtain ⟨a, b, e, l⟩ := shw_all h
  refine ⟨by simpa only [PyData.showable] using a, by simpa only [PyData.hasDict] using b, ?_⟩
  have := listText_len_le (PyData.shownAll ds)
  simp only [PyData.shown, Nat.mul_add] at *
  omega
theorem shw_ints {ps : List Int} (h : ∀ x ∈ ps, x.natAbs < 10 ^ 12) : Shw (ps.length * 15 + 3) (iT ps) := by
  have := shw_tuple (c := 13) (ds := ps.map PyData.int) fun d hd => by
    obtain ⟨i, hi, rfl⟩ := List.mem_map.mp hd
    exact shw_int (h i hi)
  rw [List.length_map] at this
  exact this
theorem shw_big {i : Int} (h : i.natAbs.log2 < 1920) : Shw 1921 (.int i) := ⟨decide_eq_true h, rfl, int_text_len_1921 h⟩

/-- the data of a list or tuple of seats -/
def gD (b : Bool) (tss : List (List Int)) : PyData := if b = true then .tuple (tss.map iT) else .list (tss.map iT)
theorem gD_dp {K : PySem.W.Frag} {H : Hp} {q : Bool × Addr} {tss : List (List Int)} (h : RowsQ H q tss) : Dp K H (.ref q.2) (gD q.1 tss) := by
  obtain ⟨xs, h1, h2⟩ := h
  obtain ⟨b, a⟩ := q
  cases b with
  | true => exact .tup (SqT.of (show H a = some (.tup xs) from h1)) h2.dp
  | false => exact .lst (SqL.of (show H a = some (.lst xs) from h1)) h2.dp
theorem gD_shw {b : Bool} {tss : List (List Int)} (h : ∀ t ∈ tss, t.length ≤ 4 ∧ ∀ x ∈ t, x.natAbs < 10 ^ 12) (l : tss.length ≤ 1000) : Shw 100000 (gD b tss) ∧ (gD b tss).depth ≤ 60 := by
  have a : ∀ d ∈ tss.map iT, Shw 63 d := fun d hd => by
    obtain ⟨t, ht, rfl⟩ := List.mem_map.mp hd
    obtain ⟨h1, h2⟩ := h t ht
    exact (shw_ints h2).up (by omega)
  have e : ∀ d ∈ tss.map iT, Sh 59 d := fun d hd => by
    obtain ⟨t, ht, rfl⟩ := List.mem_map.mp hd
    exact sh_ints t
  unfold gD
  cases b with
  | true => exact ⟨(shw_tuple a).up (by rw [List.length_map]; omega), (sh_tuple e).2⟩
  | false => exact ⟨(shw_list a).up (by rw [List.length_map]; omega), (sh_list e).2⟩

/-! ### the texts of a responder and of a tour -/
theorem shw_away (b : Bool) : Shw 11 (.str (awayW b)) := by
  refine ⟨rfl, rfl, ?_⟩
  rw [PyData.shown_str]
  cases b <;> decide +kernel
theorem shw_oc (o : Nat) : Shw 11 (.str (ocS o)) := by
  refine ⟨rfl, rfl, ?_⟩
  rw [PyData.shown_str]
  unfold ocS
  split
  · decide +kernel
  · split <;> decide +kernel
theorem shs_away {n : Nat} (b : Bool) : Sh n (.str (awayW b)) := ⟨by cases b <;> (simp only [PyData.canLay0]; decide +kernel), by simp only [PyData.depth]; omega⟩
theorem shs_oc {n : Nat} (o : Nat) : Sh n (.str (ocS o)) := by
  refine ⟨?_, by simp only [PyData.depth]; omega⟩
  simp only [PyData.canLay0]
  unfold ocS
  split
  · decide +kernel
  · split <;> decide +kernel
/-- the data of a responder -/
def respD : Rp → PyData
  | .words bs => .list (wordsD bs)
  | .wit m ws r => .tuple [.int m, iT ws, .int r]
theorem resp_dp {K : PySem.W.Frag} {H : Hp} {x : V} {rp : Rp} (h : RespT H x rp) : ∃ a, x = .ref a ∧ Dp K H (.ref a) (respD rp) := by
  cases rp with
  | words bs =>
    obtain ⟨l, h1, h2⟩ := h
    exact ⟨l, h1, .lst (SqL.of h2) (dp_words bs)⟩
  | wit m ws r =>
    obtain ⟨wt, h1, wa, h2, h3⟩ := h
    exact ⟨wt, h1, .tup (SqT.of h2) (.cons (.int _) (.cons (dp_ints h3) (.cons (.int _) .nil)))⟩
theorem resp_shw {ns p : List Int} {rp : Rp} (n4 : ns.length ≤ 4) (ok : RpOk ns p rp) (sm : RpSm ns rp) : Shw 1000 (respD rp) ∧ (respD rp).depth ≤ 60 := by
  cases rp with
  | words bs =>
    have h5 : bs.length ≤ 5 := sm
    refine ⟨(shw_list (c := 11) (ds := wordsD bs) fun d hd => ?_).up (by rw [List.length_map]; omega), (sh_words bs).2⟩
    obtain ⟨b, _, rfl⟩ := List.mem_map.mp hd
    exact shw_away b
  | wit m ws r =>
    obtain ⟨w1, _, _⟩ := ok
    obtain ⟨m300, _⟩ := sm
    have m3 := w1.m3
    have r0 := w1.r0
    have r1 := w1.r1
    have hw : Shw 63 (iT ws) := (shw_ints fun x hx => by
      obtain ⟨x0, x1⟩ := w1.w0 x hx
      exact Nat.lt_of_le_of_lt (show x.natAbs ≤ 300 by omega) (by decide)).up (by rw [w1.len]; omega)
    refine ⟨(shw_tuple (c := 63) (ds := [.int m, iT ws, .int r]) fun d hd => ?_).up (by simp), (sh_tuple (n := 59) fun d hd => ?_).2⟩
    · simp only [List.mem_cons, List.not_mem_nil, or_false] at hd
      rcases hd with rfl | rfl | rfl
      · exact (shw_int (Nat.lt_of_le_of_lt (show m.natAbs ≤ 300 by omega) (by decide))).up (by decide)
      · exact hw
      · exact (shw_int (Nat.lt_of_le_of_lt (show r.natAbs ≤ 300 by omega) (by decide))).up (by decide)
    · simp only [List.mem_cons, List.not_mem_nil, or_false] at hd
      rcases hd with rfl | rfl | rfl
      · exact sh_int m
      · exact sh_ints ws
      · exact sh_int r
/-- the data of a tour -/
def hopD (h : Hop) : PyData := .tuple [iT h.1, .str (awayW h.2)]
def tourD (R : TrR) : PyData := .tuple [.list (R.hops.map hopD), .list (R.been.map iT), .str (ocS R.oc)]
theorem hops_dp {K : PySem.W.Frag} {H : Hp} : ∀ {xs : List V} {hs : List Hop}, HopsR H xs hs → DpAll K H xs (hs.map hopD)
  | _, _, .nil => .nil
  | _, _, .cons ⟨r, c, h1, h2, h3⟩ t => by
    subst h1
    exact .cons (.tup (SqT.of h2) (.cons (dp_ints h3) (.cons (.str _) .nil))) (hops_dp t)
theorem tour_dp {K : PySem.W.Frag} {H : Hp} {r ml sl : Addr} {R : TrR} (h : TourV H r ml sl R) : Dp K H (.ref r) (tourD R) := by
  obtain ⟨xs, ys, h1, h2, h3, h4, h5⟩ := h
  exact .tup (SqT.of h1) (.cons (.lst (SqL.of h2) (hops_dp h3)) (.cons (.lst (SqL.of h4) h5.dp) (.cons (.str _) .nil)))
theorem seat_small {ns t : List Int} (ok : SzOk ns) (pr : prodL ns ≤ 300) (sk : SeatOk ns t) : t.length ≤ 4 ∧ ∀ x ∈ t, x.natAbs < 10 ^ 12 := by
  refine ⟨by rw [sk.len]; exact ok.le, fun x hx => ?_⟩
  obtain ⟨j, hj⟩ := List.getElem?_of_mem hx
  have lj : j < ns.length := by rw [← sk.len]; exact (List.getElem?_eq_some_iff.mp hj).1
  obtain ⟨x0, x1⟩ := (seat_iff.mp sk).2 j _ x (List.getElem?_eq_getElem lj) hj
  have nb := mul_le_prod ok.one (List.getElem?_eq_getElem lj)
  exact Nat.lt_of_le_of_lt (show x.natAbs ≤ 300 by omega) (by decide)
theorem tour_shw {ns p : List Int} {rp : Rp} {lim : Int} {R : TrR} (ok : SzOk ns) (pr : prodL ns ≤ 300) (T0 : TourOk ns p rp lim R) (sk : SeatOk ns p) (lh : R.hops.length ≤ 1000) : Shw 1000000 (tourD R) ∧ (tourD R).depth ≤ 60 := by
  have hop1 : ∀ d ∈ R.hops.map hopD, Shw 133 d := fun d hd => by
    obtain ⟨h, hh, rfl⟩ := List.mem_map.mp hd
    obtain ⟨a, b⟩ := seat_small ok pr (tour_hops T0 sk h hh)
    refine (shw_tuple (c := 63) (ds := [iT h.1, .str (awayW h.2)]) fun e he => ?_).up (by simp)
    simp only [List.mem_cons, List.not_mem_nil, or_false] at he
    rcases he with rfl | rfl
    · exact (shw_ints b).up (by omega)
    · exact (shw_away _).up (by decide)
  have hop2 : ∀ d ∈ R.hops.map hopD, Sh 50 d := fun d hd => by
    obtain ⟨h, hh, rfl⟩ := List.mem_map.mp hd
    refine sh_tuple (n := 49) fun e he => ?_
    simp only [List.mem_cons, List.not_mem_nil, or_false] at he
    rcases he with rfl | rfl
    · exact sh_ints h.1
    · exact shs_away _
  have been1 : ∀ d ∈ R.been.map iT, Shw 63 d := fun d hd => by
    obtain ⟨t, ht, rfl⟩ := List.mem_map.mp hd
    obtain ⟨a, b⟩ := seat_small ok pr (T0.seat t ht)
    exact (shw_ints b).up (by omega)
  have lb := seats_len ok pr T0.nod T0.seat
  refine ⟨(shw_tuple (c := 200000) (ds := [.list (R.hops.map hopD), .list (R.been.map iT), .str (ocS R.oc)]) fun e he => ?_).up (by simp), (sh_tuple (n := 59) fun e he => ?_).2⟩
  · simp only [List.mem_cons, List.not_mem_nil, or_false] at he
    rcases he with rfl | rfl | rfl
    · exact (shw_list hop1).up (by rw [List.length_map]; omega)
    · exact (shw_list been1).up (by rw [List.length_map]; omega)
    · exact (shw_oc _).up (by decide)
  · simp only [List.mem_cons, List.not_mem_nil, or_false] at he
    rcases he with rfl | rfl | rfl
    · exact sh_list fun d hd => ⟨(hop2 d hd).1, Nat.le_trans (hop2 d hd).2 (by decide)⟩
    · exact sh_rows (n := 57) _
    · exact shs_oc _
/-- the fuel bounds the moves -/
theorem tour_fuel {ns : List Int} {rp : Rp} {lim : Int} {R : TrR} : ∀ (f : Nat) (hops : List Hop) {been : List (List Int)} {p : List Int}, tourF ns rp lim f hops been p = some R → R.hops.length ≤ hops.length + f
  | 0, _, _, _, h => by cases h
  | f + 1, hops, been, p, h => by
    unfold tourF at h
    by_cases c1 : openL ns been p = []
    · rw [if_pos c1] at h
      obtain rfl := (Option.some.inj h).symm
      exact Nat.le_add_right _ _
    rw [if_neg c1] at h
    cases hd : dep (countsL ns (openL ns been p)) p with
    | none =>
      rw [hd] at h
      obtain rfl := (Option.some.inj h).symm
      exact Nat.le_add_right _ _
    | some d =>
      rw [hd] at h
      dsimp only at h
      by_cases c2 : (hops.length : Int) = lim
      · rw [if_pos c2] at h
        obtain rfl := (Option.some.inj h).symm
        exact Nat.le_add_right _ _
      rw [if_neg c2] at h
      have := tour_fuel f _ h
      rw [List.length_append, List.length_singleton] at this
      omega
theorem tour_small {ns st : List Int} {rp : Rp} {lim : Int} (sk : SeatOk ns st) (l0 : 0 ≤ lim) (one : ∀ n ∈ ns, 1 ≤ n) (pr : prodL ns ≤ 16) : ∃ f R, f ≤ 1000 ∧ tourF ns rp lim f [] [st] st = some R ∧ TourOk ns st rp lim R ∧ R.hops.length ≤ 1000 := by
  have lA := allS_len one
  have hm : tourM ns [st] st ≤ 16 * 19 + 18 := by
    unfold tourM
    have h1 : (openL ns [st] st).length ≤ 16 := Nat.le_trans (List.length_filter_le _ _) (by omega)
    have h2 : (dep (countsL ns (openL ns [st] st)) st).getD 0 ≤ (allS ns).length + 2 := by
      cases h3 : dep (countsL ns (openL ns [st] st)) st with
      | none => exact Nat.zero_le _
      | some x => exact dep_le h3
    have h4 : (openL ns [st] st).length * ((allS ns).length + 3) ≤ 16 * 19 := Nat.mul_le_mul h1 (by omega)
    omega
  obtain ⟨R, hR⟩ := tour_ends ns rp lim (16 * 19 + 19) [] (been := [st]) (p := st) sk List.mem_cons_self (by omega)
  have := tour_fuel _ _ hR
  simp only [List.length_nil] at this
  exact ⟨16 * 19 + 19, R, by omega, hR, tour_ok (been := [st]) (p := st) _ [] hR rfl rfl (fun i h hi => by simp at hi) (by simpa using l0) (by simp) (fun t ht => by rw [List.mem_singleton.mp ht]; exact sk) List.mem_cons_self, by omega⟩
theorem TourV.monoX {t : Addr} {H H2 : Hp} {r ml sl : Addr} {R : TrR} {zs : List V} (h : TourV H r ml sl R) (ht : H t = some (.lst zs)) (nm : ml ≠ t) (ns : sl ≠ t) (e : ∀ c o, c ≠ t → H c = some o → H2 c = some o) : TourV H2 r ml sl R := by
  have tp : ∀ c xs, H c = some (.tup xs) → H2 c = some (.tup xs) := fun c xs z => e _ _ (fun q => by rw [q, ht] at z; cases z) z
  obtain ⟨xs, ys, h1, h2, h3, h4, h5⟩ := h
  exact ⟨xs, ys, tp _ _ h1, e _ _ nm h2, h3.monoT tp, e _ _ ns h4, h5.monoT tp⟩
theorem TourV.mono {H H2 : Hp} {r ml sl : Addr} {R : TrR} (h : TourV H r ml sl R) (e : Ex H H2) : TourV H2 r ml sl R := by
  obtain ⟨xs, ys, h1, h2, h3, h4, h5⟩ := h
  exact ⟨xs, ys, e _ _ h1, e _ _ h2, h3.monoT fun _ _ z => e _ _ z, e _ _ h4, h5.mono e⟩

def dims9 : List (List Int) := [[300], [147], [15, 20], [7, 42], [5, 60], [3, 10, 10], [99], [2, 75], [3, 3, 3, 11]]
theorem dims9_ok : ∀ ns ∈ dims9, (ns ≠ [] ∧ ns.length ≤ 4 ∧ (∀ n ∈ ns, 1 ≤ n) ∧ prodL ns ≤ 300 ∧ ∀ n ∈ ns, n ≤ 300) := by decide +kernel
section
variable {P : Program} {w : World} {K : PySem.W.Frag} {mg : Str → Option Value} {base : Heap}
def sp_law_large_right : Sp := fun vs H Q _ => ∃ (s : Addr), vs = [.ref s] ∧ Src H s ∧ ∀ H2, XB s H H2 → Src H2 s → Q (.bl true) H2
theorem ok_law_large_right (T : TX K mg) : FnOk P w K mg base CX0 9 T.f_law_large_right T.fd_law_large_right ["_law_source_here"] sp_law_large_right := by
  refine T.F_law_large_right.ok sc_law_large_right (fun vs H Q E h => ?_) (fun cdv A outer s H vs Q E hr h => ?_)
  · obtain ⟨s, rfl, _⟩ := h
    rfl
  · obtain ⟨s, rfl, hs, k⟩ := h
    refine ⟨_, (pss_cons (ps_set (i := 1) sc_law_large_right.nd rfl (Or.inl rfl) (pe_call (ok_law_choice T) (hr.mono (by decide)) rfl T.m_law_choice T.F_law_choice.kp T.b_law_choice .nil pass0 (pa_cons (pv 0) (pa_cons (pe_lst (pa_cons (pe_lst (pa_cons pe_int pa_nil)) (pa_cons (pe_lst (pa_cons pe_int pa_nil)) (pa_cons (pe_lst (pa_cons pe_int (pa_cons pe_int pa_nil))) (pa_cons (pe_lst (pa_cons pe_int (pa_cons pe_int pa_nil))) (pa_cons (pe_lst (pa_cons pe_int (pa_cons pe_int pa_nil))) (pa_cons (pe_lst (pa_cons pe_int (pa_cons pe_int (pa_cons pe_int pa_nil)))) (pa_cons (pe_lst (pa_cons pe_int pa_nil)) (pa_cons (pe_lst (pa_cons pe_int (pa_cons pe_int pa_nil))) (pa_cons (pe_lst (pa_cons pe_int (pa_cons pe_int (pa_cons pe_int (pa_cons pe_int pa_nil))))) pa_nil)))))))))) pa_nil)))) (pss_cons (ps_set (i := 2) sc_law_large_right.nd rfl (Or.inl rfl) (pe_call (ok_law_choice T) (hr.mono (by decide)) rfl T.m_law_choice T.F_law_choice.kp T.b_law_choice .nil pass0 (pa_cons (pv 0) (pa_cons (pe_call (ok_law_spots T) (hr.mono (by decide)) rfl T.m_law_spots T.F_law_spots.kp T.b_law_spots .nil pass0 (pa_cons (pv 1) pa_nil)) pa_nil)))) (pss_cons (ps_set (i := 3) sc_law_large_right.nd rfl (Or.inl rfl) (pe_call (ok_law_draw_responder T) (hr.mono (by decide)) rfl T.m_law_draw_responder T.F_law_draw_responder.kp T.b_law_draw_responder .nil pass0 (pa_cons (pv 0) (pa_cons (pv 1) (pa_cons (pv 2) pa_nil))))) (pss_cons (ps_set (i := 4) sc_law_large_right.nd rfl (Or.inl rfl) (pe_op op_add pe_int (pe_call (ok_law_draw T) (hr.mono (by decide)) rfl T.m_law_draw T.F_law_draw.kp T.b_law_draw .nil pass0 (pa_cons (pv 0) (pa_cons pe_int pa_nil))))) (pss_one (ps_ret (pe_call (ok_law_right T) (hr.mono (by decide)) rfl T.m_law_right T.F_law_right.kp T.b_law_right .nil pass0 (pa_cons (pv 1) (pa_cons (pv 2) (pa_cons (pv 3) (pa_cons (pv 4) (pa_cons (pe_call (ok_run_tour T) hr rfl T.m_run_tour T.F_run_tour.kp T.b_run_tour .nil pass0 (pa_cons (pe_make T.M_Table (ok_Table_init T) (hr.mono (by decide)) rfl T.m_Table T.b_Table_init .nil pass0 (pa_cons (pv 1) pa_nil)) (pa_cons (pv 2) (pa_cons (pv 3) (pa_cons (pv 4) pa_nil))))) pa_nil)))))))))))), ?_⟩
    refine seq_asg ?_
    refine ⟨_, rfl, ?_⟩
    show tLst _ _ _ _
    refine rows_lst (rows := dims9) ?_ (by decide) fun q1 xs1 H1 e1 nq1 hq1 lr1 nr1 => ?_
    · unfold dims9
      repeat (first | exact RowsD.nil | refine RowsD.cons (fun _ _ _ h => h) (by decide) (by simp) ?_)
    refine ⟨s, q1, xs1, rfl, hs.mono e1, hq1, hs.ne nq1, (fun z => by have := lr1.len; rw [z] at this; cases this), by rw [lr1.len]; decide, fun v H2 hv xb2 src2 => ?_⟩
    obtain ⟨l, ns, rfl, hns, hl1⟩ := lr1.mem hv
    have nls : l ≠ s := hs.ne (nr1 l hv)
    have hl := xb2 _ _ nls hl1
    have XB2 : XB s H H2 := (XB.of e1).trans xb2
    obtain ⟨n1, n2, n3, pr, n300⟩ := dims9_ok ns hns
    have ok : SzOk ns := ⟨n1, n2, n3⟩
    clear hv lr1 nr1 hq1 hl1 nq1 hns xb2 e1
    dsimp only [gName]
    have lA := allS_len ok.one
    have pos := prodL_pos ok.one
    refine ⟨_, rfl, _, rfl, l, ns, rfl, hl, ok, pr, fun ev H3 e3 nev ⟨xs, hev, rx⟩ => ?_⟩
    have lx := rx.len
    have src3 := src2.mono e3
    have nevs : ev ≠ s := src2.ne nev
    refine ⟨s, ev, xs, rfl, src3, hev, nevs, (fun z => by rw [z] at lx; simp at lx; omega), by omega, fun v H4 hv xb4 src4 => ?_⟩
    obtain ⟨sp, p, rfl, hp, hsp⟩ := mem_rows rx hv
    have sk := mem_allS.mp hp
    have hsp4 := tup_xb src3 hsp xb4
    have hl4 := xb4 _ _ nls (e3 _ _ hl)
    have X4 : XB s H H4 := XB2.trans ((XB.of e3).trans xb4)
    dsimp only [gName]
    refine ⟨_, rfl, _, rfl, _, rfl, s, l, sp, ns, p, rfl, src4, hl4, nls, ok, pr, hsp4, sk, fun x rp H5 hx rok rsm xb5 src5 => ?_⟩
    dsimp only [gName]
    refine ⟨_, rfl, s, 6, rfl, src5, by decide, by decide +kernel, fun r6 H6 r60 r61 xb6 src6 => ⟨_, _, rfl, rfl, ?_⟩⟩
    have hx6 := hx.xb src5 xb6 rok
    have hsp6 := tup_xb src5 (tup_xb src4 hsp4 xb5) xb6
    have hl6 := xb6 _ _ nls (xb5 _ _ nls hl4)
    have X6 : XB s H H6 := X4.trans (xb5.trans xb6)
    dsimp only [gName]
    refine ⟨_, rfl, _, rfl, _, rfl, _, rfl, _, rfl, ?_⟩
    refine mk_tab (b := false) (show SqH H6 (false, l) _ from hl6) ok fun bd H7 e7 nbd tab => ?_
    obtain ⟨f, R, lf, hR, T0⟩ := tour_all (ns := ns) (st := p) (rp := rp) (lim := 1 + r6) sk (by omega) ok.one pr
    have le := T0.le
    refine ⟨_, rfl, _, rfl, _, rfl, bd, sp, x, ns, p, rp, 1 + r6, f, R, rfl, tab, ok, pr, e7 _ _ hsp6, sk, hx6.mono e7, rok, by omega, lf, hR, fun r ml sl H8 e8 nrr nml nsl nms tv => ?_⟩
    have E8 := ext e7 e8
    refine ⟨l, sp, r, ml, sl, x, ns, p, rp, 1 + r6, R, rfl, E8 _ _ hl6, ok, pr, E8 _ _ hsp6, sk, hx6.mono E8, rok, tv, by omega, T0, fun H9 e9 => ?_⟩
    exact k _ (X6.trans (XB.of (ext E8 e9))) (src6.mono (ext E8 e9))
end

section
variable {P : Program} {w : World} {K : PySem.W.Frag} {mg : Str → Option Value} {base : Heap}
def sp_law (K : PySem.W.Frag) : Sp := fun vs H Q _ => ∃ (a : Addr) (ns : List Int), vs = [.ref a] ∧ SqL K H a (ns.map V.int) ∧ ns.length ≤ 63 ∧ ∀ H2, Q (.bl true) H2
theorem ok_law (T : TX K mg) : CG.FnOkG P w K mg base 11 T.f_law T.fd_law ["_law_script"] (sp_law K) := by
  refine CG.okG T.F_law sc_law (fun vs H Q E h => ?_) (fun cdv A outer s H vs Q E gd hr h => ?_)
  · obtain ⟨a, ns, rfl, _⟩ := h
    rfl
  · obtain ⟨a, ns, rfl, hS, hlen, k⟩ := h
    refine ⟨_, (pss_cons (ps_if (pt_not (pt_val (pe_call (ok_law_large_right T) (hr.mono (by decide)) rfl T.m_law_large_right T.F_law_large_right.kp T.b_law_large_right .nil pass0 (pa_cons (pe_call (ok_law_source T) (hr.mono (by decide)) rfl T.m_law_source T.F_law_source.kp T.b_law_source .nil pass0 (pa_cons (pe_ix ix_list (pe_op (r := rCatR K) op_catR (pe_lst (pa_cons pe_int pa_nil)) (pv 0)) (pe_un un_neg pe_int) (fun _ _ => rfl)) pa_nil)) pa_nil)))) (pss_one (ps_ret pe_bl)) pss_nil) (pss_cons (ps_for PassesOwn.never rfl (pi_list (pe_op (r := rCatR K) op_catR (pe_slice sl_list (pv 0) po_none (po_some pe_int)) (pe_lst (pa_cons pe_int pa_nil)))) (pg_name (i := 1) sc_law.nd rfl (Or.inl rfl)) (pss_cons (ps_set (i := 2) sc_law.nd rfl (Or.inl rfl) (pe_call (ok_law_source T) (hr.mono (by decide)) rfl T.m_law_source T.F_law_source.kp T.b_law_source .nil pass0 (pa_cons (pv 1) pa_nil))) (pss_cons (ps_set (i := 3) sc_law.nd rfl (Or.inl rfl) (pe_call (ok_law_dims T) (hr.mono (by decide)) rfl T.m_law_dims T.F_law_dims.kp T.b_law_dims .nil pass0 (pa_cons (pv 2) (pa_cons pe_int pa_nil)))) (pss_cons (ps_set (i := 4) sc_law.nd rfl (Or.inl rfl) (pe_call (ok_law_choice T) (hr.mono (by decide)) rfl T.m_law_choice T.F_law_choice.kp T.b_law_choice .nil pass0 (pa_cons (pv 2) (pa_cons (pe_call (ok_law_spots T) (hr.mono (by decide)) rfl T.m_law_spots T.F_law_spots.kp T.b_law_spots .nil pass0 (pa_cons (pv 3) pa_nil)) pa_nil)))) (pss_cons (ps_set (i := 5) sc_law.nd rfl (Or.inl rfl) (pe_call (ok_law_draw_responder T) (hr.mono (by decide)) rfl T.m_law_draw_responder T.F_law_draw_responder.kp T.b_law_draw_responder .nil pass0 (pa_cons (pv 2) (pa_cons (pv 3) (pa_cons (pv 4) pa_nil))))) (pss_cons (ps_set (i := 6) sc_law.nd rfl (Or.inl rfl) (pe_callB (CG.cr_repr gd (u65 hr)) (by rfl) T.z_repr (by decide +kernel) (pa_cons (pv 5) pa_nil))) (pss_cons (ps_set (i := 7) sc_law.nd rfl (Or.inl rfl) (pe_call (ok_law_choice T) (hr.mono (by decide)) rfl T.m_law_choice T.F_law_choice.kp T.b_law_choice .nil pass0 (pa_cons (pv 2) (pa_cons (pe_lst (pa_cons pe_int (pa_cons (pe_call (ok_law_draw T) (hr.mono (by decide)) rfl T.m_law_draw T.F_law_draw.kp T.b_law_draw .nil pass0 (pa_cons (pv 2) (pa_cons pe_int pa_nil))) (pa_cons (pe_op op_pow pe_int pe_int) (pa_cons (pe_op op_pow pe_int pe_int) pa_nil))))) pa_nil)))) (pss_cons (ps_set (i := 8) sc_law.nd rfl (Or.inl rfl) (pe_lst pa_nil)) (pss_cons (ps_for PassesOwn.never rfl (pi_range1 rfl T.z_range (pa_cons pe_int pa_nil)) (pg_name (i := 9) sc_law.nd rfl (Or.inl rfl)) (pss_cons (ps_set (i := 10) sc_law.nd rfl (Or.inl rfl) (pe_call (ok_run_tour T) (hr.mono (by decide)) rfl T.m_run_tour T.F_run_tour.kp T.b_run_tour .nil pass0 (pa_cons (pe_make T.M_Table (ok_Table_init T) (hr.mono (by decide)) rfl T.m_Table T.b_Table_init .nil pass0 (pa_cons (pe_ix ix_list (pe_lst (pa_cons (pe_callTy call_list_of (by rfl) T.z_list (by decide +kernel) (pa_cons (pv 3) pa_nil)) (pa_cons (pe_callTy call_tuple_of (by rfl) T.z_tuple (by decide +kernel) (pa_cons (pv 3) pa_nil)) pa_nil))) (pv 9) (fun _ _ => rfl)) pa_nil)) (pa_cons (pv 4) (pa_cons (pv 5) (pa_cons (pv 7) pa_nil)))))) (pss_cons (ps_expr (pe_bm PySem.F.plainAttrs_list PySem.F.slot_list_append PySem.F.type_list_append mt_append (pv 8) (pa_cons (pe_callB (CG.cr_repr gd (u65 hr)) (by rfl) T.z_repr (by decide +kernel) (pa_cons (pv 10) pa_nil)) pa_nil))) (pss_cons (ps_if (PW.pt (pw_or (pt_not (pt_val (pe_call (ok_law_right T) (hr.mono (by decide)) rfl T.m_law_right T.F_law_right.kp T.b_law_right .nil pass0 (pa_cons (pv 3) (pa_cons (pv 4) (pa_cons (pv 5) (pa_cons (pv 7) (pa_cons (pv 10) pa_nil)))))))) (pw_or1 (pt_cmpR op_ne (pe_callB (CG.cr_repr gd (u65 hr)) (by rfl) T.z_repr (by decide +kernel) (pa_cons (pv 5) pa_nil)) (pv 6) (nomark _))))) (pss_one (ps_ret pe_bl)) pss_nil) (pss_cons (ps_if (pt_not (pt_val (pe_call (ok_law_recorded T) hr rfl T.m_law_recorded T.F_law_recorded.kp T.b_law_recorded .nil pass0 (pa_cons (pv 2) (pa_cons (pv 3) (pa_cons (pv 4) (pa_cons (pv 10) pa_nil))))))) (pss_one (ps_ret pe_bl)) pss_nil) (pss_cons (ps_expr (pe_bm PySem.F.plainAttrs_list PySem.F.slot_list_append PySem.F.type_list_append mt_append (pe_ix ix_tup (pv 10) pe_int (fun _ _ => rfl)) (pa_cons pe_non pa_nil))) (pss_one (ps_expr (pe_bm0 PySem.F.plainAttrs_list PySem.F.slot_list_clear PySem.F.type_list_clear mt_clear (pe_ix ix_tup (pv 10) pe_int (fun _ _ => rfl))))))))))) (pss_one (ps_if (pt_cmpR op_ne (pe_ix ix_list (pv 8) pe_int (fun _ _ => rfl)) (pe_ix ix_list (pv 8) pe_int (fun _ _ => rfl)) (nomark _)) (pss_one (ps_ret pe_bl)) pss_nil))))))))))) (pss_one (ps_ret pe_bl)))), ?_⟩
    refine ⟨slen rfl, ?_⟩
    (intro z0 nz0; generalize hGz0 : upd _ z0 _ = H1; have eH1 := exG hGz0 nz0; have hz0 := atG hGz0; clear hGz0)
    have hz0 : H1 z0 = some (.lst (([0] : List Int).map V.int)) := hz0
    refine ⟨_, rfl, z0, a, _, _, rfl, rfl, SqL.of hz0, Evl.ex_l eH1 hS, ?_, ?_⟩
    · rw [List.length_map, List.length_map]
      exact Nat.le_trans (show 1 + ns.length ≤ 64 by omega) (by decide)
    (intro z1 nz1; generalize hGz1 : upd _ z1 _ = H2; have eH2 := exG hGz1 nz1; have hz1 := atG hGz1; clear hGz1)
    obtain ⟨c0, hc0⟩ := last_int (0 :: ns) (by simp)
    refine ⟨_, rfl, z1, _, _, _, rfl, rfl, SqL.of hz1, hc0, ?_⟩
    refine ⟨c0, rfl, fun H3 s0 e3 ns0 src0 => ?_⟩
    refine ⟨s0, rfl, src0, fun H4 xb4 src4 => ⟨_, rfl, itf rfl ?_⟩⟩
    have ns00 : H s0 = none := Evl.fresh_back (ext eH1 eH2) ns0
    have E4 : Ex H H4 := fun c o z => xb4 c o (ne_of_none z ns00) ((ext eH1 (ext eH2 e3)) _ _ z)
    clear hz0 hz1 eH1 eH2 e3 xb4 src4 src0 ns00 ns0 hc0 nz0 nz1
    refine ⟨_, rfl, 2, rfl, a, _, rfl, Evl.ex_l E4 hS, fun c hc => ⟨slen rfl, ?_⟩⟩
    obtain ⟨ms, em⟩ := cut_map ns none (some 2)
    have ml : (ms.map V.int).length ≤ 63 := by
      rw [← em]
      exact Nat.le_trans (cut_len _ _ _) (by rw [List.length_map]; exact hlen)
    rw [em]
    generalize hG5 : upd H4 c _ = H5
    have hc5 := atG hG5
    clear hG5
    (intro zz nzz; generalize hGzz : upd _ zz _ = H6; have eH6 := exG hGzz nzz; have hzz := atG hGzz; clear hGzz)
    refine ⟨c, zz, _, _, rfl, rfl, SqL.of (eH6 _ _ hc5), SqL.of hzz, ?_, ?_⟩
    · exact Nat.le_trans (show _ + 1 ≤ 64 by omega) (by decide)
    (intro d nd; generalize hGd : upd _ d _ = H7; have eH7 := exG hGd nd; have hd := atG hGd; clear hGd)
    have hd7 : H7 d = some (.lst ((ms ++ [0]).map V.int)) := by
      rw [hd, List.map_append]
      rfl
    refine ⟨d, rfl, ⟨_, SqL.of hd7⟩, ?_⟩
    have hd := hd7
    clear hc5 hzz hd7 eH6 eH7 E4
    refine for_it (walk_list (xs := (ms ++ [0]).map V.int)) (fun i σ H => (∃ y1 y2 y3 y4 y5 y6 y7 y8 y9 y10, σ = [some (.ref a), y1, y2, y3, y4, y5, y6, y7, y8, y9, y10]) ∧ H d = some (.lst ((ms ++ [0]).map V.int))) ⟨⟨_, _, _, _, _, _, _, _, _, _, rfl⟩, hd⟩ (fun i σ H _ p => SqL.of p.2) ?_ (fun σ H ⟨⟨y1, y2, y3, y4, y5, y6, y7, y8, y9, y10, e⟩, _⟩ => k _)
    clear hd
    rintro i x σ _ H1 hi ⟨⟨y1, y2, y3, y4, y5, y6, y7, y8, y9, y10, rfl⟩, hd1⟩ ⟨rfl, hx⟩
    obtain ⟨n, _, rfl⟩ := map_get hx
    dsimp only [gName]
    show tSeq _ _ _ [_, _, _, _, _, _, _, _, _, _, _] _
    refine ⟨_, rfl, n, rfl, fun H2 s e2 ns0 src => ?_⟩
    have nd : d ≠ s := ne_of_none hd1 ns0
    have src0 := src
    have hd2 := e2 _ _ hd1
    dsimp only [gName]
    show tSeq _ _ _ [_, _, _, _, _, _, _, _, _, _, _] _
    refine ⟨_, rfl, s, 16, rfl, src, by decide, fun l ns H3 nl hl ok p16 xb3 src3 => ?_⟩
    have pr : prodL ns ≤ 300 := Int.le_trans p16 (by decide)
    have nls : l ≠ s := src.ne nl
    have lA := allS_len ok.one
    have pos := prodL_pos ok.one
    dsimp only [gName]
    show tSeq _ _ _ [_, _, _, _, _, _, _, _, _, _, _] _
    refine ⟨_, rfl, _, rfl, l, ns, rfl, hl, ok, pr, fun ev H4 e4 nev ⟨xs, hev, rx⟩ => ?_⟩
    have lx := rx.len
    have src4 := src3.mono e4
    have nevs : ev ≠ s := src3.ne nev
    refine ⟨s, ev, xs, rfl, src4, hev, nevs, (fun z => by rw [z] at lx; simp at lx; omega), by omega, fun v H5 hv xb5 src5 => ?_⟩
    obtain ⟨sp, p, rfl, hp, hsp⟩ := mem_rows rx hv
    have sk := mem_allS.mp hp
    have hsp5 := tup_xb src4 hsp xb5
    have hl5 := xb5 _ _ nls (e4 _ _ hl)
    have X5 : XB s H2 H5 := xb3.trans ((XB.of e4).trans xb5)
    dsimp only [gName]
    show tSeq _ _ _ [_, _, _, _, _, _, _, _, _, _, _] _
    refine ⟨_, rfl, _, rfl, _, rfl, s, l, sp, ns, p, rfl, src5, hl5, nls, ok, pr, hsp5, sk, fun x rp H6 hx rok rsm xb6 src6 => ?_⟩
    obtain ⟨rs, rds⟩ := resp_shw ok.le rok rsm
    obtain ⟨xa, rfl, xdp⟩ := resp_dp (K := K) hx
    dsimp only [gName]
    show tSeq _ _ _ [_, _, _, _, _, _, _, _, _, _, _] _
    refine ⟨_, rfl, xa, _, rfl, xdp, rs.1, rs.2.1, Nat.le_trans rs.2.2 (by decide), rds, ?_⟩
    dsimp only [gName]
    show tSeq _ _ _ [_, _, _, _, _, _, _, _, _, _, _] _
    refine ⟨_, rfl, _, rfl, s, 9, rfl, src6, by decide, by decide +kernel, fun r7 H7 r70 r71 xb7 src7 => ⟨_, _, rfl, rfl, ⟨by decide, by decide, by decide⟩, _, _, rfl, rfl, ⟨by decide, by decide, by decide⟩, slen rfl, ?_⟩⟩
    (intro bl nbl; generalize hGbl : upd _ bl _ = H8; have eH8 := exG hGbl nbl; have hbl := atG hGbl; clear hGbl)
    have nbs : bl ≠ s := src7.ne nbl
    refine ⟨s, bl, _, rfl, src7.mono eH8, hbl, nbs, by simp, by simp, fun v H9 hv xb9 src9 => ?_⟩
    obtain ⟨lim, rfl, l0⟩ : ∃ lim : Int, v = .int lim ∧ 0 ≤ lim := by
      simp only [List.mem_cons, List.not_mem_nil, or_false, or_self] at hv
      rcases hv with rfl | rfl | rfl
      · exact ⟨0, rfl, by decide⟩
      · exact ⟨r7, rfl, r70⟩
      · exact ⟨_, rfl, by decide⟩
    have X69 : XB s H6 H9 := xb7.trans ((XB.of eH8).trans xb9)
    have hx9 := RespT.xb src6 X69 rok hx
    have xdp9 : ∀ {Hz : Hp}, RespT Hz (.ref xa) rp → Dp K Hz (.ref xa) (respD rp) := fun h => by
      obtain ⟨a2, e2, h2⟩ := resp_dp (K := K) h
      injection e2 with e2
      rw [e2]
      exact h2
    have hsp9 := tup_xb src5 hsp5 (xb6.trans X69)
    have hl9 := X69 _ _ nls (xb6 _ _ nls hl5)
    have X9 : XB s H2 H9 := X5.trans (xb6.trans X69)
    have hd9 := X9 _ _ nd hd2
    obtain ⟨f, R, lf, hR, T0, lh⟩ := tour_small (ns := ns) (st := p) (rp := rp) (lim := lim) sk l0 ok.one p16
    obtain ⟨ts, tds⟩ := tour_shw ok pr T0 sk lh
    clear hbl nbl xb9 X69 xb7 eH8 src7 hx xdp xb6 src6 hl5 hsp5 X5 xb5 src5 hsp hv hev rx e4 src4 hl src3 xb3 hd1 hd2 e2
    dsimp only [gName]
    refine ⟨slen rfl, ?_⟩
    (intro tl ntl; generalize hGtl : upd _ tl _ = Ha; have eHa := exG hGtl ntl; have htl := atG hGtl; clear hGtl)
    have nts : tl ≠ s := src9.ne ntl
    dsimp only [gName]
    refine ⟨_, rfl, by decide, by decide, ?_⟩
    refine for_it walk_range (fun i σ Hx => (∃ y9 y10, σ = [some (.ref a), some (.int n), some (.ref s), some (.ref l), some (.ref sp), some (.ref xa), some (.str (respD rp).shown), some (.int lim), some (.ref tl), y9, y10]) ∧ XB s H9 Hx ∧ Src Hx s ∧ Hx tl = some (.lst (List.replicate i (V.str (tourD R).shown)))) ⟨⟨_, _, rfl⟩, XB.of eHa, src9.mono eHa, htl⟩ (fun _ _ _ _ _ => True.intro) ?_ ?_
    · rintro i x σ _ Hx hi ⟨⟨y9, y10, rfl⟩, xb, src, htx⟩ ⟨rfl, rfl⟩
      have hi2 : i < 2 := hi
      have hl := xb _ _ nls hl9
      have hsp := tup_xb src9 hsp9 xb
      have hx := RespT.xb src9 xb rok hx9
      dsimp only [gName]
      show tSeq _ _ _ [_, _, _, _, _, _, _, _, _, _, _] _
      refine ⟨_, rfl, l, _, rfl, .inl (SqL.of hl), ?_⟩
      (intro b1 nb1; generalize hGb1 : upd _ b1 _ = G1; have eG1 := exG hGb1 nb1; have hb1 := atG hGb1; clear hGb1)
      refine ⟨_, rfl, l, _, rfl, .inl ⟨SqL.of (eG1 _ _ hl), ?_⟩⟩
      (intro b2 nb2; generalize hGb2 : upd _ b2 _ = G2; have eG2 := exG hGb2 nb2; have hb2 := atG hGb2; clear hGb2)
      refine ⟨slen rfl, ?_⟩
      (intro el nel; generalize hGel : upd _ el _ = G3; have eG3 := exG hGel nel; have hel := atG hGel; clear hGel)
      have e3 := ext eG1 (ext eG2 eG3)
      obtain ⟨q, gq, hq⟩ := two_kinds (r := 0 + (i : Int)) (by omega) (by omega) ((ext eG2 eG3) _ _ hb1) (eG3 _ _ hb2)
      refine ⟨_, rfl, el, _, _, _, rfl, rfl, SqL.of hel, gq, ?_⟩
      refine mk_tab (b := q.1) hq ok fun bd H4 e4 nbd tab => ?_
      have E4 := ext e3 e4
      refine ⟨_, rfl, _, rfl, _, rfl, bd, sp, .ref xa, ns, p, rp, lim, f, R, rfl, tab, ok, pr, E4 _ _ hsp, sk, hx.mono E4, rok, l0, by omega, hR, fun r ml sl H5 e5 nrr nml nsl nms tv => ?_⟩
      have E5 := ext E4 e5
      have htx5 := E5 _ _ htx
      have nmt : ml ≠ tl := (ne_of_none (E4 _ _ htx) nml).symm
      have nst : sl ≠ tl := (ne_of_none (E4 _ _ htx) nsl).symm
      have nmls : ml ≠ s := (src.mono E4).ne nml
      have nsls : sl ≠ s := (src.mono E4).ne nsl
      have xm : H9 ml = none := (xb.trans (XB.of E4)).back nmls nml
      have xsl : H9 sl = none := (xb.trans (XB.of E4)).back nsls nsl
      clear hq gq hel hb1 hb2 eG1 eG2 eG3 e3 tab
      dsimp only [gName]
      show tSeq _ _ _ [_, _, _, _, _, _, _, _, _, _, _] _
      refine ⟨_, rfl, .inl ⟨rfl, _, SqL.of htx5⟩, _, rfl, r, tourD R, rfl, tour_dp tv, ts.1, ts.2.1, Nat.le_trans ts.2.2 (by decide), tds, tl, _, _, rfl, rfl, htx5, ?_, ?_⟩
      · rw [List.length_replicate]
        exact Nat.lt_of_lt_of_le hi2 (by decide)
      have tvu := tv.monoX (H2 := upd H5 tl (.lst (List.replicate i (V.str (tourD R).shown) ++ [V.str (tourD R).shown]))) htx5 nmt nst fun c o nc z => by
        rw [upd_ne nc]
        exact z
      have htu : upd H5 tl (.lst (List.replicate i (V.str (tourD R).shown) ++ [V.str (tourD R).shown])) tl = some (.lst (List.replicate (i + 1) (V.str (tourD R).shown))) := by
        rw [upd_same, List.replicate_succ']
      have xbu : XB s H9 (upd H5 tl (.lst (List.replicate i (V.str (tourD R).shown) ++ [V.str (tourD R).shown]))) := (xb.trans (XB.of E5)).app ntl
      have srcu : Src (upd H5 tl (.lst (List.replicate i (V.str (tourD R).shown) ++ [V.str (tourD R).shown]))) s := (src.mono E5).app nts
      generalize upd H5 tl (.lst (List.replicate i (V.str (tourD R).shown) ++ [V.str (tourD R).shown])) = Hu at *
      have hlu := xbu _ _ nls hl9
      have hspu := tup_xb src9 hsp9 xbu
      have hxu := RespT.xb src9 xbu rok hx9
      show tSeq _ _ _ [_, _, _, _, _, _, _, _, _, _, _] _
      refine ⟨_, rfl, _, rfl, _, rfl, _, rfl, _, rfl, l, sp, r, ml, sl, .ref xa, ns, p, rp, lim, R, rfl, hlu, ok, pr, hspu, sk, hxu, rok, tvu, by omega, T0, fun H6 e6 => ⟨_, rfl, itf rfl ?_⟩⟩
      refine ⟨_, rfl, xa, _, rfl, xdp9 (hxu.mono e6), rs.1, rs.2.1, Nat.le_trans rs.2.2 (by decide), rds, ?_⟩
      refine ⟨_, rfl, rfl, _, rfl, itf (by simp) ?_⟩
      have tv6 := tvu.mono e6
      have src6 := srcu.mono e6
      have xb6 := xbu.trans (XB.of e6)
      show tSeq _ _ _ [_, _, _, _, _, _, _, _, _, _, _] _
      refine ⟨_, rfl, _, rfl, _, rfl, _, rfl, s, l, sp, r, ml, sl, ns, p, rp, lim, R, rfl, src6, e6 _ _ hlu, nls, ok, pr, e6 _ _ hspu, sk, tv6, nmls, nsls, by omega, T0, fun H7 xb7 src7 => ⟨_, rfl, itf rfl ?_⟩⟩
      obtain ⟨xs, ys, hr6, hml6, rh6, hsl6, rb6⟩ := tv6
      have hr7 := tup_xb src6 hr6 xb7
      have hml7 := xb7 _ _ nmls hml6
      have hsl7 := xb7 _ _ nsls hsl6
      have htx7 := xb7 _ _ nts (e6 _ _ htu)
      have xb7 := xb6.trans xb7
      have lxs : xs.length = R.hops.length := Paired.length rh6
      clear hr6 hml6 rh6 hsl6 rb6 xb6 src6 e6
      show tSeq _ _ _ [_, _, _, _, _, _, _, _, _, _, _] _
      refine ⟨_, rfl, r, _, _, _, rfl, rfl, SqT.of hr7, rfl, .inl ⟨rfl, _, SqL.of hml7⟩, ml, _, _, rfl, rfl, hml7, Nat.lt_of_le_of_lt (show xs.length ≤ 1000 by omega) (by decide), ?_⟩
      have hr8 : upd H7 ml (.lst (xs ++ [V.non])) r = some (.tup [.ref ml, .ref sl, .str (ocS R.oc)]) := by
        rw [upd_ne (fun e => by rw [e] at hr7; exact absurd (hr7.symm.trans hml7) (by intro z; cases z))]
        exact hr7
      have hsl8 : upd H7 ml (.lst (xs ++ [V.non])) sl = some (.lst ys) := by
        rw [upd_ne (Ne.symm nms)]
        exact hsl7
      have htx8 : upd H7 ml (.lst (xs ++ [V.non])) tl = some (.lst (List.replicate (i + 1) (V.str (tourD R).shown))) := by
        rw [upd_ne (Ne.symm nmt)]
        exact htx7
      have xb8 : XB s H9 (upd H7 ml (.lst (xs ++ [V.non]))) := xb7.app xm
      have src8 : Src (upd H7 ml (.lst (xs ++ [V.non]))) s := src7.app nmls
      generalize upd H7 ml (.lst (xs ++ [V.non])) = H8 at *
      show tSeq _ _ _ [_, _, _, _, _, _, _, _, _, _, _] _
      refine ⟨_, rfl, r, _, _, _, rfl, rfl, SqT.of hr8, rfl, .inl ⟨rfl, _, SqL.of hsl8⟩, sl, _, rfl, rfl, hsl8, ?_⟩
      refine ⟨⟨_, _, rfl⟩, xb8.app xsl, src8.app nsls, ?_⟩
      rw [upd_ne (Ne.symm nst)]
      exact htx8
    · rintro σ Hx ⟨⟨y9, y10, rfl⟩, xb, src, htx⟩
      replace htx : Hx tl = some (.lst [V.str (tourD R).shown, V.str (tourD R).shown]) := htx
      have hd := xb _ _ nd hd9
      show tSeq _ _ _ [_, _, _, _, _, _, _, _, _, _, _] _
      refine ⟨_, rfl, tl, _, _, _, rfl, rfl, SqL.of htx, rfl, _, rfl, tl, _, _, _, rfl, rfl, SqL.of htx, rfl, rfl, _, rfl, itf (by simp) ?_⟩
      exact ⟨⟨_, _, _, _, _, _, _, _, _, _, rfl⟩, hd⟩
end

/-! ### the head by facts -/
def dd0 : He.DefD := ⟨("_wall", none), "_wall", "_wall", defArgs s_wall, defBody s_wall, defScope s_wall, [], []⟩
def dd1 : He.DefD := ⟨("is_integer", none), "is_integer", "is_integer", defArgs s_is_integer, defBody s_is_integer, defScope s_is_integer, [], []⟩
def dd2 : He.DefD := ⟨("is_at_least", none), "is_at_least", "is_at_least", defArgs s_is_at_least, defBody s_is_at_least, defScope s_is_at_least, [], []⟩
def dd3 : He.DefD := ⟨("is_between", none), "is_between", "is_between", defArgs s_is_between, defBody s_is_between, defScope s_is_between, [], []⟩
def dd4 : He.DefD := ⟨("require_at_least", none), "require_at_least", "require_at_least", defArgs s_require_at_least, defBody s_require_at_least, defScope s_require_at_least, [], []⟩
def dd5 : He.DefD := ⟨("greatest_common_divisor", none), "greatest_common_divisor", "greatest_common_divisor", defArgs s_greatest_common_divisor, defBody s_greatest_common_divisor, defScope s_greatest_common_divisor, [], []⟩
def dd6 : He.DefD := ⟨("odd_part", none), "odd_part", "odd_part", defArgs s_odd_part, defBody s_odd_part, defScope s_odd_part, [], []⟩
def dd7 : He.DefD := ⟨("Table", some "__init__"), "__init__", "Table.__init__", defArgs s_Table_init, defBody s_Table_init, defScope s_Table_init, [], []⟩
def dd8 : He.DefD := ⟨("Table", some "sizes"), "sizes", "Table.sizes", defArgs s_Table_sizes, defBody s_Table_sizes, defScope s_Table_sizes, [], []⟩
def dd9 : He.DefD := ⟨("Table", some "count"), "count", "Table.count", defArgs s_Table_count, defBody s_Table_count, defScope s_Table_count, [], []⟩
def dd10 : He.DefD := ⟨("Table", some "is_seat"), "is_seat", "Table.is_seat", defArgs s_Table_is_seat, defBody s_Table_is_seat, defScope s_Table_is_seat, [], []⟩
def dd11 : He.DefD := ⟨("Table", some "is_call"), "is_call", "Table.is_call", defArgs s_Table_is_call, defBody s_Table_is_call, defScope s_Table_is_call, [], []⟩
def dd12 : He.DefD := ⟨("Table", some "shifted"), "shifted", "Table.shifted", defArgs s_Table_shifted, defBody s_Table_shifted, defScope s_Table_shifted, [], []⟩
def dd13 : He.DefD := ⟨("Table", some "moves"), "moves", "Table.moves", defArgs s_Table_moves, defBody s_Table_moves, defScope s_Table_moves, [], []⟩
def dd14 : He.DefD := ⟨("Table", some "step"), "step", "Table.step", defArgs s_Table_step, defBody s_Table_step, defScope s_Table_step, [], []⟩
def dd15 : He.DefD := ⟨("Table", some "order"), "order", "Table.order", defArgs s_Table_order, defBody s_Table_order, defScope s_Table_order, [], []⟩
def dd16 : He.DefD := ⟨("Table", some "halves"), "halves", "Table.halves", defArgs s_Table_halves, defBody s_Table_halves, defScope s_Table_halves, [], []⟩
def dd17 : He.DefD := ⟨("is_direction", none), "is_direction", "is_direction", defArgs s_is_direction, defBody s_is_direction, defScope s_is_direction, [], []⟩
def dd18 : He.DefD := ⟨("require_table", none), "require_table", "require_table", defArgs s_require_table, defBody s_require_table, defScope s_require_table, [], []⟩
def dd19 : He.DefD := ⟨("require_seat", none), "require_seat", "require_seat", defArgs s_require_seat, defBody s_require_seat, defScope s_require_seat, [], []⟩
def dd20 : He.DefD := ⟨("require_call", none), "require_call", "require_call", defArgs s_require_call, defBody s_require_call, defScope s_require_call, [], []⟩
def dd21 : He.DefD := ⟨("require_targets", none), "require_targets", "require_targets", defArgs s_require_targets, defBody s_require_targets, defScope s_require_targets, [], []⟩
def dd22 : He.DefD := ⟨("require_small", none), "require_small", "require_small", defArgs s_require_small, defBody s_require_small, defScope s_require_small, [], []⟩
def dd23 : He.DefD := ⟨("all_seats", none), "all_seats", "all_seats", defArgs s_all_seats, defBody s_all_seats, defScope s_all_seats, [], []⟩
def dd24 : He.DefD := ⟨("mirror_seat", none), "mirror_seat", "mirror_seat", defArgs s_mirror_seat, defBody s_mirror_seat, defScope s_mirror_seat, [], []⟩
def dd25 : He.DefD := ⟨("call_to", none), "call_to", "call_to", defArgs s_call_to, defBody s_call_to, defScope s_call_to, [], []⟩
def dd26 : He.DefD := ⟨("call_counts", none), "call_counts", "call_counts", defArgs s_call_counts, defBody s_call_counts, defScope s_call_counts, [], []⟩
def dd27 : He.DefD := ⟨("call_from", none), "call_from", "call_from", defArgs s_call_from, defBody s_call_from, defScope s_call_from, [], []⟩
def dd28 : He.DefD := ⟨("combined", none), "combined", "combined", defArgs s_combined, defBody s_combined, defScope s_combined, [], []⟩
def dd29 : He.DefD := ⟨("reduced", none), "reduced", "reduced", defArgs s_reduced, defBody s_reduced, defScope s_reduced, [], []⟩
def dd30 : He.DefD := ⟨("shift_basis", none), "shift_basis", "shift_basis", defArgs s_shift_basis, defBody s_shift_basis, defScope s_shift_basis, [], []⟩
def dd31 : He.DefD := ⟨("diagonal_product", none), "diagonal_product", "diagonal_product", defArgs s_diagonal_product, defBody s_diagonal_product, defScope s_diagonal_product, [], []⟩
def dd32 : He.DefD := ⟨("coordinates", none), "coordinates", "coordinates", defArgs s_coordinates, defBody s_coordinates, defScope s_coordinates, [], []⟩
def dd33 : He.DefD := ⟨("is_free", none), "is_free", "is_free", defArgs s_is_free, defBody s_is_free, defScope s_is_free, [], []⟩
def dd34 : He.DefD := ⟨("separating_witness", none), "separating_witness", "separating_witness", defArgs s_separating_witness, defBody s_separating_witness, defScope s_separating_witness, [], []⟩
def dd35 : He.DefD := ⟨("reach", none), "reach", "reach", defArgs s_reach, defBody s_reach, defScope s_reach, [], []⟩
def dd36 : He.DefD := ⟨("weighted", none), "weighted", "weighted", defArgs s_weighted, defBody s_weighted, defScope s_weighted, [], []⟩
def dd37 : He.DefD := ⟨("is_witness", none), "is_witness", "is_witness", defArgs s_is_witness, defBody s_is_witness, defScope s_is_witness, [], []⟩
def dd38 : He.DefD := ⟨("unvisited_seats", none), "unvisited_seats", "unvisited_seats", defArgs s_unvisited_seats, defBody s_unvisited_seats, defScope s_unvisited_seats, [], []⟩
def dd39 : He.DefD := ⟨("next_action", none), "next_action", "next_action", defArgs s_next_action, defBody s_next_action, defScope s_next_action, [], []⟩
def dd40 : He.DefD := ⟨("is_responder", none), "is_responder", "is_responder", defArgs s_is_responder, defBody s_is_responder, defScope s_is_responder, [], []⟩
def dd41 : He.DefD := ⟨("answer_of", none), "answer_of", "answer_of", defArgs s_answer_of, defBody s_answer_of, defScope s_answer_of, [], []⟩
def dd42 : He.DefD := ⟨("run_tour", none), "run_tour", "run_tour", defArgs s_run_tour, defBody s_run_tour, defScope s_run_tour, [], []⟩
def dd43 : He.DefD := ⟨("is_move", none), "is_move", "is_move", defArgs s_is_move, defBody s_is_move, defScope s_is_move, [], []⟩
def dd44 : He.DefD := ⟨("require_moves", none), "require_moves", "require_moves", defArgs s_require_moves, defBody s_require_moves, defScope s_require_moves, [], []⟩
def dd45 : He.DefD := ⟨("visited_seats", none), "visited_seats", "visited_seats", defArgs s_visited_seats, defBody s_visited_seats, defScope s_visited_seats, [], []⟩
def dd46 : He.DefD := ⟨("Record", some "__init__"), "__init__", "Record.__init__", defArgs s_Record_init, defBody s_Record_init, defScope s_Record_init, [], []⟩
def dd47 : He.DefD := ⟨("Record", some "seats"), "seats", "Record.seats", defArgs s_Record_seats, defBody s_Record_seats, defScope s_Record_seats, [], []⟩
def dd48 : He.DefD := ⟨("Record", some "calls_to_target"), "calls_to_target", "Record.calls_to_target", defArgs s_Record_calls_to_target, defBody s_Record_calls_to_target, defScope s_Record_calls_to_target, [], []⟩
def dd49 : He.DefD := ⟨("Record", some "losses"), "losses", "Record.losses", defArgs s_Record_losses, defBody s_Record_losses, defScope s_Record_losses, [], []⟩
def dd50 : He.DefD := ⟨("Record", some "first_mistake"), "first_mistake", "Record.first_mistake", defArgs s_Record_first_mistake, defBody s_Record_first_mistake, defScope s_Record_first_mistake, [], []⟩
def dd51 : He.DefD := ⟨("_law_mix", none), "_law_mix", "_law_mix", defArgs s_law_mix, defBody s_law_mix, defScope s_law_mix, [], []⟩
def dd52 : He.DefD := ⟨("_law_source", none), "_law_source", "_law_source", defArgs s_law_source, defBody s_law_source, defScope s_law_source, [], []⟩
def dd53 : He.DefD := ⟨("_law_draw", none), "_law_draw", "_law_draw", defArgs s_law_draw, defBody s_law_draw, defScope s_law_draw, [], []⟩
def dd54 : He.DefD := ⟨("_law_choice", none), "_law_choice", "_law_choice", defArgs s_law_choice, defBody s_law_choice, defScope s_law_choice, [], []⟩
def dd55 : He.DefD := ⟨("_law_shuffle", none), "_law_shuffle", "_law_shuffle", defArgs s_law_shuffle, defBody s_law_shuffle, defScope s_law_shuffle, [], []⟩
def dd56 : He.DefD := ⟨("_law_dims", none), "_law_dims", "_law_dims", defArgs s_law_dims, defBody s_law_dims, defScope s_law_dims, [], []⟩
def dd57 : He.DefD := ⟨("_law_total", none), "_law_total", "_law_total", defArgs s_law_total, defBody s_law_total, defScope s_law_total, [], []⟩
def dd58 : He.DefD := ⟨("_law_spots", none), "_law_spots", "_law_spots", defArgs s_law_spots, defBody s_law_spots, defScope s_law_spots, [], []⟩
def dd59 : He.DefD := ⟨("_law_moved", none), "_law_moved", "_law_moved", defArgs s_law_moved, defBody s_law_moved, defScope s_law_moved, [], []⟩
def dd60 : He.DefD := ⟨("_law_depths", none), "_law_depths", "_law_depths", defArgs s_law_depths, defBody s_law_depths, defScope s_law_depths, [], []⟩
def dd61 : He.DefD := ⟨("_law_has_hop", none), "_law_has_hop", "_law_has_hop", defArgs s_law_has_hop, defBody s_law_has_hop, defScope s_law_has_hop, [], []⟩
def dd62 : He.DefD := ⟨("_law_residue", none), "_law_residue", "_law_residue", defArgs s_law_residue, defBody s_law_residue, defScope s_law_residue, [], []⟩
def dd63 : He.DefD := ⟨("_law_number", none), "_law_number", "_law_number", defArgs s_law_number, defBody s_law_number, defScope s_law_number, [], []⟩
def dd64 : He.DefD := ⟨("_law_draw_responder", none), "_law_draw_responder", "_law_draw_responder", defArgs s_law_draw_responder, defBody s_law_draw_responder, defScope s_law_draw_responder, [], []⟩
def dd65 : He.DefD := ⟨("_law_answer", none), "_law_answer", "_law_answer", defArgs s_law_answer, defBody s_law_answer, defScope s_law_answer, [], []⟩
def dd66 : He.DefD := ⟨("_law_replayed", none), "_law_replayed", "_law_replayed", defArgs s_law_replayed, defBody s_law_replayed, defScope s_law_replayed, [], []⟩
def dd67 : He.DefD := ⟨("_law_are_moves", none), "_law_are_moves", "_law_are_moves", defArgs s_law_are_moves, defBody s_law_are_moves, defScope s_law_are_moves, [], []⟩
def dd68 : He.DefD := ⟨("_law_recorded", none), "_law_recorded", "_law_recorded", defArgs s_law_recorded, defBody s_law_recorded, defScope s_law_recorded, [], []⟩
def dd69 : He.DefD := ⟨("_law_right", none), "_law_right", "_law_right", defArgs s_law_right, defBody s_law_right, defScope s_law_right, [], []⟩
def dd70 : He.DefD := ⟨("_law_large_right", none), "_law_large_right", "_law_large_right", defArgs s_law_large_right, defBody s_law_large_right, defScope s_law_large_right, [], []⟩
def dd71 : He.DefD := ⟨("law", none), "law", "law", defArgs s_law, defBody s_law, defScope s_law, [], []⟩
def fnL0 : List He.DefD := [dd0, dd1, dd2, dd3, dd4, dd5, dd6, dd7, dd8, dd9, dd10, dd11, dd12, dd13, dd14, dd15, dd16, dd17, dd18, dd19, dd20, dd21, dd22, dd23, dd24, dd25, dd26, dd27, dd28, dd29]
def fnL1 : List He.DefD := [dd30, dd31, dd32, dd33, dd34, dd35, dd36, dd37, dd38, dd39, dd40, dd41, dd42, dd43, dd44, dd45, dd46, dd47, dd48, dd49, dd50, dd51, dd52, dd53, dd54, dd55, dd56, dd57, dd58, dd59]
def fnL2 : List He.DefD := [dd60, dd61, dd62, dd63, dd64, dd65, dd66, dd67, dd68, dd69, dd70, dd71]
def fnL : List He.DefD := fnL0 ++ fnL1 ++ fnL2
def faL0 : List He.Fa := [.glo "_wall", .glo "is_integer", .glo "is_at_least", .glo "is_between", .glo "require_at_least", .glo "greatest_common_divisor", .glo "odd_part", .glo "is_direction", .glo "require_table", .glo "require_seat", .glo "require_call", .glo "require_targets", .glo "require_small", .glo "all_seats", .glo "mirror_seat", .glo "call_to", .glo "call_counts", .glo "call_from", .glo "combined", .glo "reduced", .glo "shift_basis", .glo "diagonal_product", .glo "coordinates", .glo "is_free", .glo "separating_witness", .glo "reach", .glo "weighted", .glo "is_witness", .glo "unvisited_seats", .glo "next_action"]
def faL1 : List He.Fa := [.glo "is_responder", .glo "answer_of", .glo "run_tour", .glo "is_move", .glo "require_moves", .glo "visited_seats", .glo "_law_mix", .glo "_law_source", .glo "_law_draw", .glo "_law_choice", .glo "_law_shuffle", .glo "_law_dims", .glo "_law_total", .glo "_law_spots", .glo "_law_moved", .glo "_law_depths", .glo "_law_has_hop", .glo "_law_residue", .glo "_law_number", .glo "_law_draw_responder", .glo "_law_answer", .glo "_law_replayed", .glo "_law_are_moves", .glo "_law_recorded", .glo "_law_right", .glo "_law_large_right", .glo "law", .glo "Table", .cls "Table", .mkr "Table"]
def faL2 : List He.Fa := [.meth "Table" "sizes", .meth "Table" "count", .meth "Table" "is_seat", .meth "Table" "is_call", .meth "Table" "shifted", .meth "Table" "moves", .meth "Table" "step", .meth "Table" "order", .meth "Table" "halves", .noat "Table" "rings", .glo "Record", .cls "Record", .mkr "Record", .meth "Record" "seats", .meth "Record" "calls_to_target", .meth "Record" "losses", .meth "Record" "first_mistake", .noat "Record" "visited", .noat "Record" "table", .noat "Record" "goals", .noat "Record" "played", .int "MAX_RINGS" 4, .int "SMALL" 300, .free "abs", .free "all", .free "any", .free "bool", .free "enumerate", .free "int", .free "isinstance"]
def faL3 : List He.Fa := [.free "len", .free "list", .free "range", .free "repr", .free "str", .free "sum", .free "tuple", .free "zip"]
def faL : List He.Fa := faL0 ++ faL1 ++ faL2 ++ faL3
def exB (K : PySem.W.Frag) : Bool := (He.eqO (PySem.W.findIn K (.ref (He.ga K "Table")) "__class__") (some (some (.builtin "object.__class__")))) && ((decide (PySem.W.mroIn K (He.ga K "Table") (.type "object") = some true)) && ((He.eqO (PySem.W.specialIn K (.builtin "object.__class__") "__get__") (some (some (.builtin "getset_descriptor.__get__")))) && ((decide (PySem.W.takesIn K (.builtin "object.__class__") = some true)) && (true))))
abbrev AlK : Type := He.AlD × Bool
def obsK2 (K : PySem.W.Frag) : AlK := (He.obsD faL fnL K, exB K)
def SaysK (K : PySem.W.Frag) : Prop := obsK2 K = (He.valD fnL, true)
def obsK (g : Addr → Option Obj) : AlK := obsK2 (He.frG g (He.asD g 4))
def hk : PySem.W.Hook where
  α := AlK
  obs := fun s => obsK s.heap.get?
  val := fun _ => (He.valD fnL, true)
  says := fun _ h => ∃ K : PySem.W.Frag, K.In h ∧ SaysK K
  of := fun _ _ e => ⟨_, He.frG_in, e⟩
  keeps := fun _ _ _ ⟨K, hK, c⟩ k => ⟨K, PySem.W.Frag.In.keeps hK k, c⟩
def ob (s : PySem.W.SharedT) : AlK := obsK (HandSHeadRun.getT s)
theorem ob_eq (s : PySem.W.SharedT) : ob s = hk.obs s.abs := by
  have e : HandSHeadRun.getT s = s.abs.heap.get? := funext (HandSHeadRun.getT_eq s)
  show obsK (HandSHeadRun.getT s) = obsK s.abs.heap.get?
  rw [e]
def loose0 : List PySem.Str := ["_wall", "SeatError", "InvalidTable", "InvalidTargets", "InvalidSeat", "InvalidCall", "InvalidDirection", "InvalidNumber", "InvalidMoves", "InvalidStrategy", "TooLarge", "is_integer", "is_at_least", "is_between", "require_at_least", "greatest_common_divisor", "odd_part", "MAX_RINGS", "SMALL", "Table", "is_direction", "require_table", "require_seat", "require_call", "require_targets", "require_small", "all_seats", "mirror_seat", "call_to", "call_counts"]
def loose1 : List PySem.Str := ["call_from", "combined", "reduced", "shift_basis", "diagonal_product", "coordinates", "is_free", "separating_witness", "reach", "weighted", "is_witness", "unvisited_seats", "next_action", "is_responder", "answer_of", "run_tour", "is_move", "require_moves", "visited_seats", "Record", "_law_mix", "_law_source", "_law_draw", "_law_choice", "_law_shuffle", "_law_dims", "_law_total", "_law_spots", "_law_moved", "_law_depths"]
def loose2 : List PySem.Str := ["_law_has_hop", "_law_residue", "_law_number", "_law_witness_ok", "_law_parts", "_law_draw_responder", "_law_answer", "_law_replayed", "_law_are_moves", "_law_recorded", "_law_right", "_law_large_right"]
def loose : List PySem.Str := loose0 ++ loose1 ++ loose2
abbrev RR : PySem.W.OpenRow := PySem.W.OpenLaw.row PySem.Challenge.rw_calledseats_k64_tours_played
abbrev QQ : Program := PySem.W.view RR.prog [80]
def kOf (s : PySem.W.SharedT) : PySem.W.Frag := He.frG (HandSHeadRun.getT s) (He.asD (HandSHeadRun.getT s) 4)
theorem runA (w : World) : HandSHeadRun.RunEq RR QQ PySem.W.Hook.none (fun _ => ()) 30000 loose w := by
  intro os
  kernel_rfl
def obB (s : PySem.W.SharedT) : Bool × List He.FnW := (fnL.all fun d => d.ok (kOf s), fnL.map fun d => He.fnW (kOf s) d.at_)
def obC (s : PySem.W.SharedT) : Bool × Bool := (faL.all fun f => f.ok (kOf s), exB (kOf s))
theorem runB (w : World) (os : OsState) : (HandSHeadRun.endF (HandSHeadRun.stepQ (HandSHeadRun.denQ HandSHeadRun.tabQ) RR.prog w) 30000 RR.prog w os).map obB = some (true, fnL.map He.DefD.val) := by
  kernel_rfl
theorem runC (w : World) (os : OsState) : (HandSHeadRun.endF (HandSHeadRun.stepQ (HandSHeadRun.denQ HandSHeadRun.tabQ) RR.prog w) 30000 RR.prog w os).map obC = some (true, true) := by
  kernel_rfl
theorem runTop (w : World) : HandSHeadRun.RunEq RR QQ hk ob 30000 loose w := by
  intro os
  have hA := runA w os
  have hB := runB w os
  have hC := runC w os
  cases e : HandSHeadRun.endF (HandSHeadRun.stepQ (HandSHeadRun.denQ HandSHeadRun.tabQ) RR.prog w) 30000 RR.prog w os with
  | none =>
    rw [e] at hB
    cases hB
  | some s =>
    rw [e] at hA hB hC
    have hA2 := Option.some.inj hA
    have hB2 : obB s = (true, fnL.map He.DefD.val) := Option.some.inj hB
    have hC2 : obC s = (true, true) := Option.some.inj hC
    have hA3 := Prod.mk.inj hA2
    have hA4 := Prod.mk.inj hA3.2
    obtain ⟨b1, b2⟩ := Prod.mk.inj hB2
    obtain ⟨c1, c2⟩ := Prod.mk.inj hC2
    have ho : ob s = (He.valD fnL, true) := by
      show (((faL.all fun f => f.ok (kOf s)) && (fnL.all fun d => d.ok (kOf s)), fnL.map fun d => He.fnW (kOf s) d.at_), exB (kOf s)) = ((true, fnL.map He.DefD.val), true)
      rw [c1, b1, b2, c2]
      rfl
    exact congrArg some (Prod.ext hA3.1 (Prod.ext hA4.1 ho))
theorem fun_of {K : PySem.W.Frag} {d : He.DefD} {st : Stmt} {x q : Str} {fd : FuncData} (e1 : d.name = x) (e2 : d.qual = q) (e3 : d.params = defArgs st) (e4 : d.body = defBody st) (e5 : d.scope = defScope st) (e6 : d.dfl = []) (F : L2.FunD K d.name d.qual d.params d.body d.scope (d.dvs K) (d.kws K) (He.fAd K d.at_) fd) : Fun K x q st (He.fAd K d.at_) fd := by
  obtain ⟨oc, od, dV, kV, doc, pm, an, cdv, ct, osl, h1, h2, h3, h4, h5⟩ := F.ex
  have h6 : dV = .none := by
    rcases h4 with ⟨_, h⟩ | ⟨h, _⟩
    · exact h
    · exact absurd (by show d.dfl.map _ = []; rw [e6]; rfl) h
  subst e1 e2
  rw [e3, e4, e5, h6] at h1
  exact ⟨⟨oc, od, kV, doc, pm, an, cdv, ct, osl, h1, h2, h3⟩, F.kp⟩
set_option maxHeartbeats 0 in
theorem tx_of {K : PySem.W.Frag} {h : Heap} {mg : Str → Option Value} (X : K.In h) (G : h.Ns mainGlobals mg) (c2 : SaysK K) :
    ∃ T : TX K mg, mg "law" = some (.ref T.f_law) ∧ ∀ (s : Shared) (v : Value), BindsTo s T.fd_law ⟨[v], []⟩ [("_law_script", v)] := by
  have c : He.SaysD faL fnL K := congrArg (fun z : AlK => z.1) c2
  have cx : exB K = true := congrArg (fun z : AlK => z.2) c2
  obtain ⟨ic_Table, cx⟩ := He.ba cx
  obtain ⟨im_Table, cx⟩ := He.ba cx
  obtain ⟨ig_, cx⟩ := He.ba cx
  obtain ⟨it_, cx⟩ := He.ba cx
  obtain ⟨fd0, D0⟩ := c.def_ 0 (d := dd0) rfl
  have F0 : Fun K "_wall" "_wall" s_wall (He.fAd K dd0.at_) fd0 := fun_of rfl rfl rfl rfl rfl rfl D0
  have b0 := F0.binds (ps := ["k"]) fun _ _ _ _ _ _ us hl => match us, hl with | [_], _ => rfl
  obtain ⟨fd1, D1⟩ := c.def_ 1 (d := dd1) rfl
  have F1 : Fun K "is_integer" "is_integer" s_is_integer (He.fAd K dd1.at_) fd1 := fun_of rfl rfl rfl rfl rfl rfl D1
  have b1 := F1.binds (ps := ["value"]) fun _ _ _ _ _ _ us hl => match us, hl with | [_], _ => rfl
  obtain ⟨fd2, D2⟩ := c.def_ 2 (d := dd2) rfl
  have F2 : Fun K "is_at_least" "is_at_least" s_is_at_least (He.fAd K dd2.at_) fd2 := fun_of rfl rfl rfl rfl rfl rfl D2
  have b2 := F2.binds (ps := ["value", "low"]) fun _ _ _ _ _ _ us hl => match us, hl with | [_, _], _ => rfl
  obtain ⟨fd3, D3⟩ := c.def_ 3 (d := dd3) rfl
  have F3 : Fun K "is_between" "is_between" s_is_between (He.fAd K dd3.at_) fd3 := fun_of rfl rfl rfl rfl rfl rfl D3
  have b3 := F3.binds (ps := ["value", "low", "high"]) fun _ _ _ _ _ _ us hl => match us, hl with | [_, _, _], _ => rfl
  obtain ⟨fd4, D4⟩ := c.def_ 4 (d := dd4) rfl
  have F4 : Fun K "require_at_least" "require_at_least" s_require_at_least (He.fAd K dd4.at_) fd4 := fun_of rfl rfl rfl rfl rfl rfl D4
  have b4 := F4.binds (ps := ["value", "low", "name"]) fun _ _ _ _ _ _ us hl => match us, hl with | [_, _, _], _ => rfl
  obtain ⟨fd5, D5⟩ := c.def_ 5 (d := dd5) rfl
  have F5 : Fun K "greatest_common_divisor" "greatest_common_divisor" s_greatest_common_divisor (He.fAd K dd5.at_) fd5 := fun_of rfl rfl rfl rfl rfl rfl D5
  have b5 := F5.binds (ps := ["first", "second"]) fun _ _ _ _ _ _ us hl => match us, hl with | [_, _], _ => rfl
  obtain ⟨fd6, D6⟩ := c.def_ 6 (d := dd6) rfl
  have F6 : Fun K "odd_part" "odd_part" s_odd_part (He.fAd K dd6.at_) fd6 := fun_of rfl rfl rfl rfl rfl rfl D6
  have b6 := F6.binds (ps := ["number"]) fun _ _ _ _ _ _ us hl => match us, hl with | [_], _ => rfl
  obtain ⟨fd7, D7⟩ := c.def_ 7 (d := dd7) rfl
  have F7 : Fun K "__init__" "Table.__init__" s_Table_init (He.fAd K dd7.at_) fd7 := fun_of rfl rfl rfl rfl rfl rfl D7
  have b7 := F7.binds (ps := ["self", "rings"]) fun _ _ _ _ _ _ us hl => match us, hl with | [_, _], _ => rfl
  obtain ⟨fd8, D8⟩ := c.def_ 8 (d := dd8) rfl
  have F8 : Fun K "sizes" "Table.sizes" s_Table_sizes (He.fAd K dd8.at_) fd8 := fun_of rfl rfl rfl rfl rfl rfl D8
  have b8 := F8.binds (ps := ["self"]) fun _ _ _ _ _ _ us hl => match us, hl with | [_], _ => rfl
  obtain ⟨fd9, D9⟩ := c.def_ 9 (d := dd9) rfl
  have F9 : Fun K "count" "Table.count" s_Table_count (He.fAd K dd9.at_) fd9 := fun_of rfl rfl rfl rfl rfl rfl D9
  have b9 := F9.binds (ps := ["self"]) fun _ _ _ _ _ _ us hl => match us, hl with | [_], _ => rfl
  obtain ⟨fd10, D10⟩ := c.def_ 10 (d := dd10) rfl
  have F10 : Fun K "is_seat" "Table.is_seat" s_Table_is_seat (He.fAd K dd10.at_) fd10 := fun_of rfl rfl rfl rfl rfl rfl D10
  have b10 := F10.binds (ps := ["self", "value"]) fun _ _ _ _ _ _ us hl => match us, hl with | [_, _], _ => rfl
  obtain ⟨fd11, D11⟩ := c.def_ 11 (d := dd11) rfl
  have F11 : Fun K "is_call" "Table.is_call" s_Table_is_call (He.fAd K dd11.at_) fd11 := fun_of rfl rfl rfl rfl rfl rfl D11
  have b11 := F11.binds (ps := ["self", "value"]) fun _ _ _ _ _ _ us hl => match us, hl with | [_, _], _ => rfl
  obtain ⟨fd12, D12⟩ := c.def_ 12 (d := dd12) rfl
  have F12 : Fun K "shifted" "Table.shifted" s_Table_shifted (He.fAd K dd12.at_) fd12 := fun_of rfl rfl rfl rfl rfl rfl D12
  have b12 := F12.binds (ps := ["self", "seat", "call", "factor"]) fun _ _ _ _ _ _ us hl => match us, hl with | [_, _, _, _], _ => rfl
  obtain ⟨fd13, D13⟩ := c.def_ 13 (d := dd13) rfl
  have F13 : Fun K "moves" "Table.moves" s_Table_moves (He.fAd K dd13.at_) fd13 := fun_of rfl rfl rfl rfl rfl rfl D13
  have b13 := F13.binds (ps := ["self", "seat", "call"]) fun _ _ _ _ _ _ us hl => match us, hl with | [_, _, _], _ => rfl
  obtain ⟨fd14, D14⟩ := c.def_ 14 (d := dd14) rfl
  have F14 : Fun K "step" "Table.step" s_Table_step (He.fAd K dd14.at_) fd14 := fun_of rfl rfl rfl rfl rfl rfl D14
  have b14 := F14.binds (ps := ["self", "seat", "call", "direction"]) fun _ _ _ _ _ _ us hl => match us, hl with | [_, _, _, _], _ => rfl
  obtain ⟨fd15, D15⟩ := c.def_ 15 (d := dd15) rfl
  have F15 : Fun K "order" "Table.order" s_Table_order (He.fAd K dd15.at_) fd15 := fun_of rfl rfl rfl rfl rfl rfl D15
  have b15 := F15.binds (ps := ["self", "seat"]) fun _ _ _ _ _ _ us hl => match us, hl with | [_, _], _ => rfl
  obtain ⟨fd16, D16⟩ := c.def_ 16 (d := dd16) rfl
  have F16 : Fun K "halves" "Table.halves" s_Table_halves (He.fAd K dd16.at_) fd16 := fun_of rfl rfl rfl rfl rfl rfl D16
  have b16 := F16.binds (ps := ["self", "seat"]) fun _ _ _ _ _ _ us hl => match us, hl with | [_, _], _ => rfl
  obtain ⟨fd17, D17⟩ := c.def_ 17 (d := dd17) rfl
  have F17 : Fun K "is_direction" "is_direction" s_is_direction (He.fAd K dd17.at_) fd17 := fun_of rfl rfl rfl rfl rfl rfl D17
  have b17 := F17.binds (ps := ["value"]) fun _ _ _ _ _ _ us hl => match us, hl with | [_], _ => rfl
  obtain ⟨fd18, D18⟩ := c.def_ 18 (d := dd18) rfl
  have F18 : Fun K "require_table" "require_table" s_require_table (He.fAd K dd18.at_) fd18 := fun_of rfl rfl rfl rfl rfl rfl D18
  have b18 := F18.binds (ps := ["table"]) fun _ _ _ _ _ _ us hl => match us, hl with | [_], _ => rfl
  obtain ⟨fd19, D19⟩ := c.def_ 19 (d := dd19) rfl
  have F19 : Fun K "require_seat" "require_seat" s_require_seat (He.fAd K dd19.at_) fd19 := fun_of rfl rfl rfl rfl rfl rfl D19
  have b19 := F19.binds (ps := ["table", "seat"]) fun _ _ _ _ _ _ us hl => match us, hl with | [_, _], _ => rfl
  obtain ⟨fd20, D20⟩ := c.def_ 20 (d := dd20) rfl
  have F20 : Fun K "require_call" "require_call" s_require_call (He.fAd K dd20.at_) fd20 := fun_of rfl rfl rfl rfl rfl rfl D20
  have b20 := F20.binds (ps := ["table", "call"]) fun _ _ _ _ _ _ us hl => match us, hl with | [_, _], _ => rfl
  obtain ⟨fd21, D21⟩ := c.def_ 21 (d := dd21) rfl
  have F21 : Fun K "require_targets" "require_targets" s_require_targets (He.fAd K dd21.at_) fd21 := fun_of rfl rfl rfl rfl rfl rfl D21
  have b21 := F21.binds (ps := ["table", "targets"]) fun _ _ _ _ _ _ us hl => match us, hl with | [_, _], _ => rfl
  obtain ⟨fd22, D22⟩ := c.def_ 22 (d := dd22) rfl
  have F22 : Fun K "require_small" "require_small" s_require_small (He.fAd K dd22.at_) fd22 := fun_of rfl rfl rfl rfl rfl rfl D22
  have b22 := F22.binds (ps := ["table"]) fun _ _ _ _ _ _ us hl => match us, hl with | [_], _ => rfl
  obtain ⟨fd23, D23⟩ := c.def_ 23 (d := dd23) rfl
  have F23 : Fun K "all_seats" "all_seats" s_all_seats (He.fAd K dd23.at_) fd23 := fun_of rfl rfl rfl rfl rfl rfl D23
  have b23 := F23.binds (ps := ["table"]) fun _ _ _ _ _ _ us hl => match us, hl with | [_], _ => rfl
  obtain ⟨fd24, D24⟩ := c.def_ 24 (d := dd24) rfl
  have F24 : Fun K "mirror_seat" "mirror_seat" s_mirror_seat (He.fAd K dd24.at_) fd24 := fun_of rfl rfl rfl rfl rfl rfl D24
  have b24 := F24.binds (ps := ["table", "seat", "other"]) fun _ _ _ _ _ _ us hl => match us, hl with | [_, _, _], _ => rfl
  obtain ⟨fd25, D25⟩ := c.def_ 25 (d := dd25) rfl
  have F25 : Fun K "call_to" "call_to" s_call_to (He.fAd K dd25.at_) fd25 := fun_of rfl rfl rfl rfl rfl rfl D25
  have b25 := F25.binds (ps := ["table", "seat", "other"]) fun _ _ _ _ _ _ us hl => match us, hl with | [_, _, _], _ => rfl
  obtain ⟨fd26, D26⟩ := c.def_ 26 (d := dd26) rfl
  have F26 : Fun K "call_counts" "call_counts" s_call_counts (He.fAd K dd26.at_) fd26 := fun_of rfl rfl rfl rfl rfl rfl D26
  have b26 := F26.binds (ps := ["table", "targets"]) fun _ _ _ _ _ _ us hl => match us, hl with | [_, _], _ => rfl
  obtain ⟨fd27, D27⟩ := c.def_ 27 (d := dd27) rfl
  have F27 : Fun K "call_from" "call_from" s_call_from (He.fAd K dd27.at_) fd27 := fun_of rfl rfl rfl rfl rfl rfl D27
  have b27 := F27.binds (ps := ["table", "counts", "seat"]) fun _ _ _ _ _ _ us hl => match us, hl with | [_, _, _], _ => rfl
  obtain ⟨fd28, D28⟩ := c.def_ 28 (d := dd28) rfl
  have F28 : Fun K "combined" "combined" s_combined (He.fAd K dd28.at_) fd28 := fun_of rfl rfl rfl rfl rfl rfl D28
  have b28 := F28.binds (ps := ["first", "second", "column"]) fun _ _ _ _ _ _ us hl => match us, hl with | [_, _, _], _ => rfl
  obtain ⟨fd29, D29⟩ := c.def_ 29 (d := dd29) rfl
  have F29 : Fun K "reduced" "reduced" s_reduced (He.fAd K dd29.at_) fd29 := fun_of rfl rfl rfl rfl rfl rfl D29
  have b29 := F29.binds (ps := ["row", "column", "odds"]) fun _ _ _ _ _ _ us hl => match us, hl with | [_, _, _], _ => rfl
  obtain ⟨fd30, D30⟩ := c.def_ 30 (d := dd30) rfl
  have F30 : Fun K "shift_basis" "shift_basis" s_shift_basis (He.fAd K dd30.at_) fd30 := fun_of rfl rfl rfl rfl rfl rfl D30
  have b30 := F30.binds (ps := ["sizes", "targets"]) fun _ _ _ _ _ _ us hl => match us, hl with | [_, _], _ => rfl
  obtain ⟨fd31, D31⟩ := c.def_ 31 (d := dd31) rfl
  have F31 : Fun K "diagonal_product" "diagonal_product" s_diagonal_product (He.fAd K dd31.at_) fd31 := fun_of rfl rfl rfl rfl rfl rfl D31
  have b31 := F31.binds (ps := ["basis"]) fun _ _ _ _ _ _ us hl => match us, hl with | [_], _ => rfl
  obtain ⟨fd32, D32⟩ := c.def_ 32 (d := dd32) rfl
  have F32 : Fun K "coordinates" "coordinates" s_coordinates (He.fAd K dd32.at_) fd32 := fun_of rfl rfl rfl rfl rfl rfl D32
  have b32 := F32.binds (ps := ["basis", "vector"]) fun _ _ _ _ _ _ us hl => match us, hl with | [_, _], _ => rfl
  obtain ⟨fd33, D33⟩ := c.def_ 33 (d := dd33) rfl
  have F33 : Fun K "is_free" "is_free" s_is_free (He.fAd K dd33.at_) fd33 := fun_of rfl rfl rfl rfl rfl rfl D33
  have b33 := F33.binds (ps := ["basis", "vector"]) fun _ _ _ _ _ _ us hl => match us, hl with | [_, _], _ => rfl
  obtain ⟨fd34, D34⟩ := c.def_ 34 (d := dd34) rfl
  have F34 : Fun K "separating_witness" "separating_witness" s_separating_witness (He.fAd K dd34.at_) fd34 := fun_of rfl rfl rfl rfl rfl rfl D34
  have b34 := F34.binds (ps := ["sizes", "targets", "basis", "difference"]) fun _ _ _ _ _ _ us hl => match us, hl with | [_, _, _, _], _ => rfl
  obtain ⟨fd35, D35⟩ := c.def_ 35 (d := dd35) rfl
  have F35 : Fun K "reach" "reach" s_reach (He.fAd K dd35.at_) fd35 := fun_of rfl rfl rfl rfl rfl rfl D35
  have b35 := F35.binds (ps := ["table", "targets", "seat"]) fun _ _ _ _ _ _ us hl => match us, hl with | [_, _, _], _ => rfl
  obtain ⟨fd36, D36⟩ := c.def_ 36 (d := dd36) rfl
  have F36 : Fun K "weighted" "weighted" s_weighted (He.fAd K dd36.at_) fd36 := fun_of rfl rfl rfl rfl rfl rfl D36
  have b36 := F36.binds (ps := ["modulus", "weights", "seat"]) fun _ _ _ _ _ _ us hl => match us, hl with | [_, _, _], _ => rfl
  obtain ⟨fd37, D37⟩ := c.def_ 37 (d := dd37) rfl
  have F37 : Fun K "is_witness" "is_witness" s_is_witness (He.fAd K dd37.at_) fd37 := fun_of rfl rfl rfl rfl rfl rfl D37
  have b37 := F37.binds (ps := ["table", "witness"]) fun _ _ _ _ _ _ us hl => match us, hl with | [_, _], _ => rfl
  obtain ⟨fd38, D38⟩ := c.def_ 38 (d := dd38) rfl
  have F38 : Fun K "unvisited_seats" "unvisited_seats" s_unvisited_seats (He.fAd K dd38.at_) fd38 := fun_of rfl rfl rfl rfl rfl rfl D38
  have b38 := F38.binds (ps := ["table", "visited", "seat"]) fun _ _ _ _ _ _ us hl => match us, hl with | [_, _, _], _ => rfl
  obtain ⟨fd39, D39⟩ := c.def_ 39 (d := dd39) rfl
  have F39 : Fun K "next_action" "next_action" s_next_action (He.fAd K dd39.at_) fd39 := fun_of rfl rfl rfl rfl rfl rfl D39
  have b39 := F39.binds (ps := ["table", "open_seats", "seat"]) fun _ _ _ _ _ _ us hl => match us, hl with | [_, _, _], _ => rfl
  obtain ⟨fd40, D40⟩ := c.def_ 40 (d := dd40) rfl
  have F40 : Fun K "is_responder" "is_responder" s_is_responder (He.fAd K dd40.at_) fd40 := fun_of rfl rfl rfl rfl rfl rfl D40
  have b40 := F40.binds (ps := ["table", "responder", "seat"]) fun _ _ _ _ _ _ us hl => match us, hl with | [_, _, _], _ => rfl
  obtain ⟨fd41, D41⟩ := c.def_ 41 (d := dd41) rfl
  have F41 : Fun K "answer_of" "answer_of" s_answer_of (He.fAd K dd41.at_) fd41 := fun_of rfl rfl rfl rfl rfl rfl D41
  have b41 := F41.binds (ps := ["table", "responder", "seat", "call", "done"]) fun _ _ _ _ _ _ us hl => match us, hl with | [_, _, _, _, _], _ => rfl
  obtain ⟨fd42, D42⟩ := c.def_ 42 (d := dd42) rfl
  have F42 : Fun K "run_tour" "run_tour" s_run_tour (He.fAd K dd42.at_) fd42 := fun_of rfl rfl rfl rfl rfl rfl D42
  have b42 := F42.binds (ps := ["table", "seat", "responder", "limit"]) fun _ _ _ _ _ _ us hl => match us, hl with | [_, _, _, _], _ => rfl
  obtain ⟨fd43, D43⟩ := c.def_ 43 (d := dd43) rfl
  have F43 : Fun K "is_move" "is_move" s_is_move (He.fAd K dd43.at_) fd43 := fun_of rfl rfl rfl rfl rfl rfl D43
  have b43 := F43.binds (ps := ["table", "value"]) fun _ _ _ _ _ _ us hl => match us, hl with | [_, _], _ => rfl
  obtain ⟨fd44, D44⟩ := c.def_ 44 (d := dd44) rfl
  have F44 : Fun K "require_moves" "require_moves" s_require_moves (He.fAd K dd44.at_) fd44 := fun_of rfl rfl rfl rfl rfl rfl D44
  have b44 := F44.binds (ps := ["table", "moves"]) fun _ _ _ _ _ _ us hl => match us, hl with | [_, _], _ => rfl
  obtain ⟨fd45, D45⟩ := c.def_ 45 (d := dd45) rfl
  have F45 : Fun K "visited_seats" "visited_seats" s_visited_seats (He.fAd K dd45.at_) fd45 := fun_of rfl rfl rfl rfl rfl rfl D45
  have b45 := F45.binds (ps := ["table", "seat", "moves"]) fun _ _ _ _ _ _ us hl => match us, hl with | [_, _, _], _ => rfl
  obtain ⟨fd46, D46⟩ := c.def_ 46 (d := dd46) rfl
  have F46 : Fun K "__init__" "Record.__init__" s_Record_init (He.fAd K dd46.at_) fd46 := fun_of rfl rfl rfl rfl rfl rfl D46
  have b46 := F46.binds (ps := ["self", "table", "targets", "seat", "moves"]) fun _ _ _ _ _ _ us hl => match us, hl with | [_, _, _, _, _], _ => rfl
  obtain ⟨fd47, D47⟩ := c.def_ 47 (d := dd47) rfl
  have F47 : Fun K "seats" "Record.seats" s_Record_seats (He.fAd K dd47.at_) fd47 := fun_of rfl rfl rfl rfl rfl rfl D47
  have b47 := F47.binds (ps := ["self"]) fun _ _ _ _ _ _ us hl => match us, hl with | [_], _ => rfl
  obtain ⟨fd48, D48⟩ := c.def_ 48 (d := dd48) rfl
  have F48 : Fun K "calls_to_target" "Record.calls_to_target" s_Record_calls_to_target (He.fAd K dd48.at_) fd48 := fun_of rfl rfl rfl rfl rfl rfl D48
  have b48 := F48.binds (ps := ["self"]) fun _ _ _ _ _ _ us hl => match us, hl with | [_], _ => rfl
  obtain ⟨fd49, D49⟩ := c.def_ 49 (d := dd49) rfl
  have F49 : Fun K "losses" "Record.losses" s_Record_losses (He.fAd K dd49.at_) fd49 := fun_of rfl rfl rfl rfl rfl rfl D49
  have b49 := F49.binds (ps := ["self"]) fun _ _ _ _ _ _ us hl => match us, hl with | [_], _ => rfl
  obtain ⟨fd50, D50⟩ := c.def_ 50 (d := dd50) rfl
  have F50 : Fun K "first_mistake" "Record.first_mistake" s_Record_first_mistake (He.fAd K dd50.at_) fd50 := fun_of rfl rfl rfl rfl rfl rfl D50
  have b50 := F50.binds (ps := ["self"]) fun _ _ _ _ _ _ us hl => match us, hl with | [_], _ => rfl
  obtain ⟨fd51, D51⟩ := c.def_ 51 (d := dd51) rfl
  have F51 : Fun K "_law_mix" "_law_mix" s_law_mix (He.fAd K dd51.at_) fd51 := fun_of rfl rfl rfl rfl rfl rfl D51
  have b51 := F51.binds (ps := ["_law_cell", "_law_step"]) fun _ _ _ _ _ _ us hl => match us, hl with | [_, _], _ => rfl
  obtain ⟨fd52, D52⟩ := c.def_ 52 (d := dd52) rfl
  have F52 : Fun K "_law_source" "_law_source" s_law_source (He.fAd K dd52.at_) fd52 := fun_of rfl rfl rfl rfl rfl rfl D52
  have b52 := F52.binds (ps := ["_law_cell"]) fun _ _ _ _ _ _ us hl => match us, hl with | [_], _ => rfl
  obtain ⟨fd53, D53⟩ := c.def_ 53 (d := dd53) rfl
  have F53 : Fun K "_law_draw" "_law_draw" s_law_draw (He.fAd K dd53.at_) fd53 := fun_of rfl rfl rfl rfl rfl rfl D53
  have b53 := F53.binds (ps := ["_law_source_here", "_law_bound"]) fun _ _ _ _ _ _ us hl => match us, hl with | [_, _], _ => rfl
  obtain ⟨fd54, D54⟩ := c.def_ 54 (d := dd54) rfl
  have F54 : Fun K "_law_choice" "_law_choice" s_law_choice (He.fAd K dd54.at_) fd54 := fun_of rfl rfl rfl rfl rfl rfl D54
  have b54 := F54.binds (ps := ["_law_source_here", "_law_options"]) fun _ _ _ _ _ _ us hl => match us, hl with | [_, _], _ => rfl
  obtain ⟨fd55, D55⟩ := c.def_ 55 (d := dd55) rfl
  have F55 : Fun K "_law_shuffle" "_law_shuffle" s_law_shuffle (He.fAd K dd55.at_) fd55 := fun_of rfl rfl rfl rfl rfl rfl D55
  have b55 := F55.binds (ps := ["_law_source_here", "_law_options"]) fun _ _ _ _ _ _ us hl => match us, hl with | [_, _], _ => rfl
  obtain ⟨fd56, D56⟩ := c.def_ 56 (d := dd56) rfl
  have F56 : Fun K "_law_dims" "_law_dims" s_law_dims (He.fAd K dd56.at_) fd56 := fun_of rfl rfl rfl rfl rfl rfl D56
  have b56 := F56.binds (ps := ["_law_source_here", "_law_bound"]) fun _ _ _ _ _ _ us hl => match us, hl with | [_, _], _ => rfl
  obtain ⟨fd57, D57⟩ := c.def_ 57 (d := dd57) rfl
  have F57 : Fun K "_law_total" "_law_total" s_law_total (He.fAd K dd57.at_) fd57 := fun_of rfl rfl rfl rfl rfl rfl D57
  have b57 := F57.binds (ps := ["_law_dims_here"]) fun _ _ _ _ _ _ us hl => match us, hl with | [_], _ => rfl
  obtain ⟨fd58, D58⟩ := c.def_ 58 (d := dd58) rfl
  have F58 : Fun K "_law_spots" "_law_spots" s_law_spots (He.fAd K dd58.at_) fd58 := fun_of rfl rfl rfl rfl rfl rfl D58
  have b58 := F58.binds (ps := ["_law_dims_here"]) fun _ _ _ _ _ _ us hl => match us, hl with | [_], _ => rfl
  obtain ⟨fd59, D59⟩ := c.def_ 59 (d := dd59) rfl
  have F59 : Fun K "_law_moved" "_law_moved" s_law_moved (He.fAd K dd59.at_) fd59 := fun_of rfl rfl rfl rfl rfl rfl D59
  have b59 := F59.binds (ps := ["_law_dims_here", "_law_spot", "_law_hop", "_law_factor"]) fun _ _ _ _ _ _ us hl => match us, hl with | [_, _, _, _], _ => rfl
  obtain ⟨fd60, D60⟩ := c.def_ 60 (d := dd60) rfl
  have F60 : Fun K "_law_depths" "_law_depths" s_law_depths (He.fAd K dd60.at_) fd60 := fun_of rfl rfl rfl rfl rfl rfl D60
  have b60 := F60.binds (ps := ["_law_dims_here", "_law_goals"]) fun _ _ _ _ _ _ us hl => match us, hl with | [_, _], _ => rfl
  obtain ⟨fd61, D61⟩ := c.def_ 61 (d := dd61) rfl
  have F61 : Fun K "_law_has_hop" "_law_has_hop" s_law_has_hop (He.fAd K dd61.at_) fd61 := fun_of rfl rfl rfl rfl rfl rfl D61
  have b61 := F61.binds (ps := ["_law_dims_here", "_law_every", "_law_spot", "_law_known"]) fun _ _ _ _ _ _ us hl => match us, hl with | [_, _, _, _], _ => rfl
  obtain ⟨fd62, D62⟩ := c.def_ 62 (d := dd62) rfl
  have F62 : Fun K "_law_residue" "_law_residue" s_law_residue (He.fAd K dd62.at_) fd62 := fun_of rfl rfl rfl rfl rfl rfl D62
  have b62 := F62.binds (ps := ["_law_weights", "_law_modulus", "_law_spot"]) fun _ _ _ _ _ _ us hl => match us, hl with | [_, _, _], _ => rfl
  obtain ⟨fd63, D63⟩ := c.def_ 63 (d := dd63) rfl
  have F63 : Fun K "_law_number" "_law_number" s_law_number (He.fAd K dd63.at_) fd63 := fun_of rfl rfl rfl rfl rfl rfl D63
  have b63 := F63.binds (ps := ["_law_thing", "_law_low", "_law_high"]) fun _ _ _ _ _ _ us hl => match us, hl with | [_, _, _], _ => rfl
  obtain ⟨fd64, D64⟩ := c.def_ 64 (d := dd64) rfl
  have F64 : Fun K "_law_draw_responder" "_law_draw_responder" s_law_draw_responder (He.fAd K dd64.at_) fd64 := fun_of rfl rfl rfl rfl rfl rfl D64
  have b64 := F64.binds (ps := ["_law_source_here", "_law_dims_here", "_law_spot"]) fun _ _ _ _ _ _ us hl => match us, hl with | [_, _, _], _ => rfl
  obtain ⟨fd65, D65⟩ := c.def_ 65 (d := dd65) rfl
  have F65 : Fun K "_law_answer" "_law_answer" s_law_answer (He.fAd K dd65.at_) fd65 := fun_of rfl rfl rfl rfl rfl rfl D65
  have b65 := F65.binds (ps := ["_law_dims_here", "_law_responder", "_law_spot", "_law_hop", "_law_done"]) fun _ _ _ _ _ _ us hl => match us, hl with | [_, _, _, _, _], _ => rfl
  obtain ⟨fd66, D66⟩ := c.def_ 66 (d := dd66) rfl
  have F66 : Fun K "_law_replayed" "_law_replayed" s_law_replayed (He.fAd K dd66.at_) fd66 := fun_of rfl rfl rfl rfl rfl rfl D66
  have b66 := F66.binds (ps := ["_law_dims_here", "_law_spot", "_law_responder", "_law_hops"]) fun _ _ _ _ _ _ us hl => match us, hl with | [_, _, _, _], _ => rfl
  obtain ⟨fd67, D67⟩ := c.def_ 67 (d := dd67) rfl
  have F67 : Fun K "_law_are_moves" "_law_are_moves" s_law_are_moves (He.fAd K dd67.at_) fd67 := fun_of rfl rfl rfl rfl rfl rfl D67
  have b67 := F67.binds (ps := ["_law_dims_here", "_law_hops"]) fun _ _ _ _ _ _ us hl => match us, hl with | [_, _], _ => rfl
  obtain ⟨fd68, D68⟩ := c.def_ 68 (d := dd68) rfl
  have F68 : Fun K "_law_recorded" "_law_recorded" s_law_recorded (He.fAd K dd68.at_) fd68 := fun_of rfl rfl rfl rfl rfl rfl D68
  have b68 := F68.binds (ps := ["_law_source_here", "_law_dims_here", "_law_spot", "_law_found"]) fun _ _ _ _ _ _ us hl => match us, hl with | [_, _, _, _], _ => rfl
  obtain ⟨fd69, D69⟩ := c.def_ 69 (d := dd69) rfl
  have F69 : Fun K "_law_right" "_law_right" s_law_right (He.fAd K dd69.at_) fd69 := fun_of rfl rfl rfl rfl rfl rfl D69
  have b69 := F69.binds (ps := ["_law_dims_here", "_law_spot", "_law_responder", "_law_bound", "_law_found"]) fun _ _ _ _ _ _ us hl => match us, hl with | [_, _, _, _, _], _ => rfl
  obtain ⟨fd70, D70⟩ := c.def_ 70 (d := dd70) rfl
  have F70 : Fun K "_law_large_right" "_law_large_right" s_law_large_right (He.fAd K dd70.at_) fd70 := fun_of rfl rfl rfl rfl rfl rfl D70
  have b70 := F70.binds (ps := ["_law_source_here"]) fun _ _ _ _ _ _ us hl => match us, hl with | [_], _ => rfl
  obtain ⟨fd71, D71⟩ := c.def_ 71 (d := dd71) rfl
  have F71 : Fun K "law" "law" s_law (He.fAd K dd71.at_) fd71 := fun_of rfl rfl rfl rfl rfl rfl D71
  have b71 := F71.binds (ps := ["_law_script"]) fun _ _ _ _ _ _ us hl => match us, hl with | [_], _ => rfl
  obtain ⟨t_MAX_RINGS, e_MAX_RINGS⟩ := He.int_ok X G (c.fact 81 (f := .int "MAX_RINGS" 4) rfl)
  obtain ⟨t_SMALL, e_SMALL⟩ := He.int_ok X G (c.fact 82 (f := .int "SMALL" 300) rfl)
  refine ⟨{
    f_wall := He.fAd K dd0.at_, fd_wall := fd0, F_wall := F0, b_wall := b0, m_wall := He.glo_ok X G (c.fact 0 (f := .glo "_wall") rfl),
    f_is_integer := He.fAd K dd1.at_, fd_is_integer := fd1, F_is_integer := F1, b_is_integer := b1, m_is_integer := He.glo_ok X G (c.fact 1 (f := .glo "is_integer") rfl),
    f_is_at_least := He.fAd K dd2.at_, fd_is_at_least := fd2, F_is_at_least := F2, b_is_at_least := b2, m_is_at_least := He.glo_ok X G (c.fact 2 (f := .glo "is_at_least") rfl),
    f_is_between := He.fAd K dd3.at_, fd_is_between := fd3, F_is_between := F3, b_is_between := b3, m_is_between := He.glo_ok X G (c.fact 3 (f := .glo "is_between") rfl),
    f_require_at_least := He.fAd K dd4.at_, fd_require_at_least := fd4, F_require_at_least := F4, b_require_at_least := b4, m_require_at_least := He.glo_ok X G (c.fact 4 (f := .glo "require_at_least") rfl),
    f_greatest_common_divisor := He.fAd K dd5.at_, fd_greatest_common_divisor := fd5, F_greatest_common_divisor := F5, b_greatest_common_divisor := b5, m_greatest_common_divisor := He.glo_ok X G (c.fact 5 (f := .glo "greatest_common_divisor") rfl),
    f_odd_part := He.fAd K dd6.at_, fd_odd_part := fd6, F_odd_part := F6, b_odd_part := b6, m_odd_part := He.glo_ok X G (c.fact 6 (f := .glo "odd_part") rfl),
    f_Table_init := He.fAd K dd7.at_, fd_Table_init := fd7, F_Table_init := F7, b_Table_init := b7,
    f_Table_sizes := He.fAd K dd8.at_, fd_Table_sizes := fd8, F_Table_sizes := F8, b_Table_sizes := b8,
    f_Table_count := He.fAd K dd9.at_, fd_Table_count := fd9, F_Table_count := F9, b_Table_count := b9,
    f_Table_is_seat := He.fAd K dd10.at_, fd_Table_is_seat := fd10, F_Table_is_seat := F10, b_Table_is_seat := b10,
    f_Table_is_call := He.fAd K dd11.at_, fd_Table_is_call := fd11, F_Table_is_call := F11, b_Table_is_call := b11,
    f_Table_shifted := He.fAd K dd12.at_, fd_Table_shifted := fd12, F_Table_shifted := F12, b_Table_shifted := b12,
    f_Table_moves := He.fAd K dd13.at_, fd_Table_moves := fd13, F_Table_moves := F13, b_Table_moves := b13,
    f_Table_step := He.fAd K dd14.at_, fd_Table_step := fd14, F_Table_step := F14, b_Table_step := b14,
    f_Table_order := He.fAd K dd15.at_, fd_Table_order := fd15, F_Table_order := F15, b_Table_order := b15,
    f_Table_halves := He.fAd K dd16.at_, fd_Table_halves := fd16, F_Table_halves := F16, b_Table_halves := b16,
    f_is_direction := He.fAd K dd17.at_, fd_is_direction := fd17, F_is_direction := F17, b_is_direction := b17, m_is_direction := He.glo_ok X G (c.fact 7 (f := .glo "is_direction") rfl),
    f_require_table := He.fAd K dd18.at_, fd_require_table := fd18, F_require_table := F18, b_require_table := b18, m_require_table := He.glo_ok X G (c.fact 8 (f := .glo "require_table") rfl),
    f_require_seat := He.fAd K dd19.at_, fd_require_seat := fd19, F_require_seat := F19, b_require_seat := b19, m_require_seat := He.glo_ok X G (c.fact 9 (f := .glo "require_seat") rfl),
    f_require_call := He.fAd K dd20.at_, fd_require_call := fd20, F_require_call := F20, b_require_call := b20, m_require_call := He.glo_ok X G (c.fact 10 (f := .glo "require_call") rfl),
    f_require_targets := He.fAd K dd21.at_, fd_require_targets := fd21, F_require_targets := F21, b_require_targets := b21, m_require_targets := He.glo_ok X G (c.fact 11 (f := .glo "require_targets") rfl),
    f_require_small := He.fAd K dd22.at_, fd_require_small := fd22, F_require_small := F22, b_require_small := b22, m_require_small := He.glo_ok X G (c.fact 12 (f := .glo "require_small") rfl),
    f_all_seats := He.fAd K dd23.at_, fd_all_seats := fd23, F_all_seats := F23, b_all_seats := b23, m_all_seats := He.glo_ok X G (c.fact 13 (f := .glo "all_seats") rfl),
    f_mirror_seat := He.fAd K dd24.at_, fd_mirror_seat := fd24, F_mirror_seat := F24, b_mirror_seat := b24, m_mirror_seat := He.glo_ok X G (c.fact 14 (f := .glo "mirror_seat") rfl),
    f_call_to := He.fAd K dd25.at_, fd_call_to := fd25, F_call_to := F25, b_call_to := b25, m_call_to := He.glo_ok X G (c.fact 15 (f := .glo "call_to") rfl),
    f_call_counts := He.fAd K dd26.at_, fd_call_counts := fd26, F_call_counts := F26, b_call_counts := b26, m_call_counts := He.glo_ok X G (c.fact 16 (f := .glo "call_counts") rfl),
    f_call_from := He.fAd K dd27.at_, fd_call_from := fd27, F_call_from := F27, b_call_from := b27, m_call_from := He.glo_ok X G (c.fact 17 (f := .glo "call_from") rfl),
    f_combined := He.fAd K dd28.at_, fd_combined := fd28, F_combined := F28, b_combined := b28, m_combined := He.glo_ok X G (c.fact 18 (f := .glo "combined") rfl),
    f_reduced := He.fAd K dd29.at_, fd_reduced := fd29, F_reduced := F29, b_reduced := b29, m_reduced := He.glo_ok X G (c.fact 19 (f := .glo "reduced") rfl),
    f_shift_basis := He.fAd K dd30.at_, fd_shift_basis := fd30, F_shift_basis := F30, b_shift_basis := b30, m_shift_basis := He.glo_ok X G (c.fact 20 (f := .glo "shift_basis") rfl),
    f_diagonal_product := He.fAd K dd31.at_, fd_diagonal_product := fd31, F_diagonal_product := F31, b_diagonal_product := b31, m_diagonal_product := He.glo_ok X G (c.fact 21 (f := .glo "diagonal_product") rfl),
    f_coordinates := He.fAd K dd32.at_, fd_coordinates := fd32, F_coordinates := F32, b_coordinates := b32, m_coordinates := He.glo_ok X G (c.fact 22 (f := .glo "coordinates") rfl),
    f_is_free := He.fAd K dd33.at_, fd_is_free := fd33, F_is_free := F33, b_is_free := b33, m_is_free := He.glo_ok X G (c.fact 23 (f := .glo "is_free") rfl),
    f_separating_witness := He.fAd K dd34.at_, fd_separating_witness := fd34, F_separating_witness := F34, b_separating_witness := b34, m_separating_witness := He.glo_ok X G (c.fact 24 (f := .glo "separating_witness") rfl),
    f_reach := He.fAd K dd35.at_, fd_reach := fd35, F_reach := F35, b_reach := b35, m_reach := He.glo_ok X G (c.fact 25 (f := .glo "reach") rfl),
    f_weighted := He.fAd K dd36.at_, fd_weighted := fd36, F_weighted := F36, b_weighted := b36, m_weighted := He.glo_ok X G (c.fact 26 (f := .glo "weighted") rfl),
    f_is_witness := He.fAd K dd37.at_, fd_is_witness := fd37, F_is_witness := F37, b_is_witness := b37, m_is_witness := He.glo_ok X G (c.fact 27 (f := .glo "is_witness") rfl),
    f_unvisited_seats := He.fAd K dd38.at_, fd_unvisited_seats := fd38, F_unvisited_seats := F38, b_unvisited_seats := b38, m_unvisited_seats := He.glo_ok X G (c.fact 28 (f := .glo "unvisited_seats") rfl),
    f_next_action := He.fAd K dd39.at_, fd_next_action := fd39, F_next_action := F39, b_next_action := b39, m_next_action := He.glo_ok X G (c.fact 29 (f := .glo "next_action") rfl),
    f_is_responder := He.fAd K dd40.at_, fd_is_responder := fd40, F_is_responder := F40, b_is_responder := b40, m_is_responder := He.glo_ok X G (c.fact 30 (f := .glo "is_responder") rfl),
    f_answer_of := He.fAd K dd41.at_, fd_answer_of := fd41, F_answer_of := F41, b_answer_of := b41, m_answer_of := He.glo_ok X G (c.fact 31 (f := .glo "answer_of") rfl),
    f_run_tour := He.fAd K dd42.at_, fd_run_tour := fd42, F_run_tour := F42, b_run_tour := b42, m_run_tour := He.glo_ok X G (c.fact 32 (f := .glo "run_tour") rfl),
    f_is_move := He.fAd K dd43.at_, fd_is_move := fd43, F_is_move := F43, b_is_move := b43, m_is_move := He.glo_ok X G (c.fact 33 (f := .glo "is_move") rfl),
    f_require_moves := He.fAd K dd44.at_, fd_require_moves := fd44, F_require_moves := F44, b_require_moves := b44, m_require_moves := He.glo_ok X G (c.fact 34 (f := .glo "require_moves") rfl),
    f_visited_seats := He.fAd K dd45.at_, fd_visited_seats := fd45, F_visited_seats := F45, b_visited_seats := b45, m_visited_seats := He.glo_ok X G (c.fact 35 (f := .glo "visited_seats") rfl),
    f_Record_init := He.fAd K dd46.at_, fd_Record_init := fd46, F_Record_init := F46, b_Record_init := b46,
    f_Record_seats := He.fAd K dd47.at_, fd_Record_seats := fd47, F_Record_seats := F47, b_Record_seats := b47,
    f_Record_calls_to_target := He.fAd K dd48.at_, fd_Record_calls_to_target := fd48, F_Record_calls_to_target := F48, b_Record_calls_to_target := b48,
    f_Record_losses := He.fAd K dd49.at_, fd_Record_losses := fd49, F_Record_losses := F49, b_Record_losses := b49,
    f_Record_first_mistake := He.fAd K dd50.at_, fd_Record_first_mistake := fd50, F_Record_first_mistake := F50, b_Record_first_mistake := b50,
    f_law_mix := He.fAd K dd51.at_, fd_law_mix := fd51, F_law_mix := F51, b_law_mix := b51, m_law_mix := He.glo_ok X G (c.fact 36 (f := .glo "_law_mix") rfl),
    f_law_source := He.fAd K dd52.at_, fd_law_source := fd52, F_law_source := F52, b_law_source := b52, m_law_source := He.glo_ok X G (c.fact 37 (f := .glo "_law_source") rfl),
    f_law_draw := He.fAd K dd53.at_, fd_law_draw := fd53, F_law_draw := F53, b_law_draw := b53, m_law_draw := He.glo_ok X G (c.fact 38 (f := .glo "_law_draw") rfl),
    f_law_choice := He.fAd K dd54.at_, fd_law_choice := fd54, F_law_choice := F54, b_law_choice := b54, m_law_choice := He.glo_ok X G (c.fact 39 (f := .glo "_law_choice") rfl),
    f_law_shuffle := He.fAd K dd55.at_, fd_law_shuffle := fd55, F_law_shuffle := F55, b_law_shuffle := b55, m_law_shuffle := He.glo_ok X G (c.fact 40 (f := .glo "_law_shuffle") rfl),
    f_law_dims := He.fAd K dd56.at_, fd_law_dims := fd56, F_law_dims := F56, b_law_dims := b56, m_law_dims := He.glo_ok X G (c.fact 41 (f := .glo "_law_dims") rfl),
    f_law_total := He.fAd K dd57.at_, fd_law_total := fd57, F_law_total := F57, b_law_total := b57, m_law_total := He.glo_ok X G (c.fact 42 (f := .glo "_law_total") rfl),
    f_law_spots := He.fAd K dd58.at_, fd_law_spots := fd58, F_law_spots := F58, b_law_spots := b58, m_law_spots := He.glo_ok X G (c.fact 43 (f := .glo "_law_spots") rfl),
    f_law_moved := He.fAd K dd59.at_, fd_law_moved := fd59, F_law_moved := F59, b_law_moved := b59, m_law_moved := He.glo_ok X G (c.fact 44 (f := .glo "_law_moved") rfl),
    f_law_depths := He.fAd K dd60.at_, fd_law_depths := fd60, F_law_depths := F60, b_law_depths := b60, m_law_depths := He.glo_ok X G (c.fact 45 (f := .glo "_law_depths") rfl),
    f_law_has_hop := He.fAd K dd61.at_, fd_law_has_hop := fd61, F_law_has_hop := F61, b_law_has_hop := b61, m_law_has_hop := He.glo_ok X G (c.fact 46 (f := .glo "_law_has_hop") rfl),
    f_law_residue := He.fAd K dd62.at_, fd_law_residue := fd62, F_law_residue := F62, b_law_residue := b62, m_law_residue := He.glo_ok X G (c.fact 47 (f := .glo "_law_residue") rfl),
    f_law_number := He.fAd K dd63.at_, fd_law_number := fd63, F_law_number := F63, b_law_number := b63, m_law_number := He.glo_ok X G (c.fact 48 (f := .glo "_law_number") rfl),
    f_law_draw_responder := He.fAd K dd64.at_, fd_law_draw_responder := fd64, F_law_draw_responder := F64, b_law_draw_responder := b64, m_law_draw_responder := He.glo_ok X G (c.fact 49 (f := .glo "_law_draw_responder") rfl),
    f_law_answer := He.fAd K dd65.at_, fd_law_answer := fd65, F_law_answer := F65, b_law_answer := b65, m_law_answer := He.glo_ok X G (c.fact 50 (f := .glo "_law_answer") rfl),
    f_law_replayed := He.fAd K dd66.at_, fd_law_replayed := fd66, F_law_replayed := F66, b_law_replayed := b66, m_law_replayed := He.glo_ok X G (c.fact 51 (f := .glo "_law_replayed") rfl),
    f_law_are_moves := He.fAd K dd67.at_, fd_law_are_moves := fd67, F_law_are_moves := F67, b_law_are_moves := b67, m_law_are_moves := He.glo_ok X G (c.fact 52 (f := .glo "_law_are_moves") rfl),
    f_law_recorded := He.fAd K dd68.at_, fd_law_recorded := fd68, F_law_recorded := F68, b_law_recorded := b68, m_law_recorded := He.glo_ok X G (c.fact 53 (f := .glo "_law_recorded") rfl),
    f_law_right := He.fAd K dd69.at_, fd_law_right := fd69, F_law_right := F69, b_law_right := b69, m_law_right := He.glo_ok X G (c.fact 54 (f := .glo "_law_right") rfl),
    f_law_large_right := He.fAd K dd70.at_, fd_law_large_right := fd70, F_law_large_right := F70, b_law_large_right := b70, m_law_large_right := He.glo_ok X G (c.fact 55 (f := .glo "_law_large_right") rfl),
    f_law := He.fAd K dd71.at_, fd_law := fd71, F_law := F71, b_law := b71, m_law := He.glo_ok X G (c.fact 56 (f := .glo "law") rfl),
    C_Table := He.ga K "Table", cl_Table := He.cls_ok (c.fact 58 (f := .cls "Table") rfl), m_Table := He.glo_ok X G (c.fact 57 (f := .glo "Table") rfl),
    M_Table := He.mkr_ok (c.fact 59 (f := .mkr "Table") rfl),
    me_Table_sizes := He.meth_ok (c.fact 60 (f := .meth "Table" "sizes") rfl),
    me_Table_count := He.meth_ok (c.fact 61 (f := .meth "Table" "count") rfl),
    me_Table_is_seat := He.meth_ok (c.fact 62 (f := .meth "Table" "is_seat") rfl),
    me_Table_is_call := He.meth_ok (c.fact 63 (f := .meth "Table" "is_call") rfl),
    me_Table_shifted := He.meth_ok (c.fact 64 (f := .meth "Table" "shifted") rfl),
    me_Table_moves := He.meth_ok (c.fact 65 (f := .meth "Table" "moves") rfl),
    me_Table_step := He.meth_ok (c.fact 66 (f := .meth "Table" "step") rfl),
    me_Table_order := He.meth_ok (c.fact 67 (f := .meth "Table" "order") rfl),
    me_Table_halves := He.meth_ok (c.fact 68 (f := .meth "Table" "halves") rfl),
    n_Table_rings := He.noat_ok (c.fact 69 (f := .noat "Table" "rings") rfl),
    C_Record := He.ga K "Record", cl_Record := He.cls_ok (c.fact 71 (f := .cls "Record") rfl), m_Record := He.glo_ok X G (c.fact 70 (f := .glo "Record") rfl),
    M_Record := He.mkr_ok (c.fact 72 (f := .mkr "Record") rfl),
    me_Record_seats := He.meth_ok (c.fact 73 (f := .meth "Record" "seats") rfl),
    me_Record_calls_to_target := He.meth_ok (c.fact 74 (f := .meth "Record" "calls_to_target") rfl),
    me_Record_losses := He.meth_ok (c.fact 75 (f := .meth "Record" "losses") rfl),
    me_Record_first_mistake := He.meth_ok (c.fact 76 (f := .meth "Record" "first_mistake") rfl),
    n_Record_visited := He.noat_ok (c.fact 77 (f := .noat "Record" "visited") rfl),
    n_Record_table := He.noat_ok (c.fact 78 (f := .noat "Record" "table") rfl),
    n_Record_goals := He.noat_ok (c.fact 79 (f := .noat "Record" "goals") rfl),
    n_Record_played := He.noat_ok (c.fact 80 (f := .noat "Record" "played") rfl),
    ic_Table := He.eqO_ok ic_Table,
    im_Table := of_decide_eq_true im_Table,
    ig_ := He.eqO_ok ig_,
    it_ := of_decide_eq_true it_,
    t_MAX_RINGS := t_MAX_RINGS, c_MAX_RINGS := e_MAX_RINGS,
    t_SMALL := t_SMALL, c_SMALL := e_SMALL,
    z_abs := He.free_ok X G (c.fact 83 (f := .free "abs") rfl),
    z_all := He.free_ok X G (c.fact 84 (f := .free "all") rfl),
    z_any := He.free_ok X G (c.fact 85 (f := .free "any") rfl),
    z_bool := He.free_ok X G (c.fact 86 (f := .free "bool") rfl),
    z_enumerate := He.free_ok X G (c.fact 87 (f := .free "enumerate") rfl),
    z_int := He.free_ok X G (c.fact 88 (f := .free "int") rfl),
    z_isinstance := He.free_ok X G (c.fact 89 (f := .free "isinstance") rfl),
    z_len := He.free_ok X G (c.fact 90 (f := .free "len") rfl),
    z_list := He.free_ok X G (c.fact 91 (f := .free "list") rfl),
    z_range := He.free_ok X G (c.fact 92 (f := .free "range") rfl),
    z_repr := He.free_ok X G (c.fact 93 (f := .free "repr") rfl),
    z_str := He.free_ok X G (c.fact 94 (f := .free "str") rfl),
    z_sum := He.free_ok X G (c.fact 95 (f := .free "sum") rfl),
    z_tuple := He.free_ok X G (c.fact 96 (f := .free "tuple") rfl),
    z_zip := He.free_ok X G (c.fact 97 (f := .free "zip") rfl)
  }, He.glo_ok X G (c.fact 56 (f := .glo "law") rfl), fun s v => ?_⟩
  obtain ⟨oc, od, kV, doc, pm, an, cdv, ct, osl, h1, h2, h3⟩ := F71.ex
  show BindsTo s fd71 _ _
  rw [h1]
  exact .of_eq rfl
end CS
open PySem PySem.W PySem.Calls PyProof.Rows in
set_option maxRecDepth 100000 in
set_option maxHeartbeats 0 in
theorem PySem.Challenge.cw_calledseats_k64_tours_played_holds : PySem.Challenge.rw_calledseats_k64_tours_played.Holds := by
  w_on; o_law
  refine HandSHeadRun.head_any (r := OpenLaw.row PySem.Challenge.rw_calledseats_k64_tours_played) (q := view (OpenLaw.row PySem.Challenge.rw_calledseats_k64_tours_played).prog [80]) (H := CS.hk) (ob := CS.ob) (M := 30000) (loose := CS.loose) (d := HandSHeadRun.topDef (OpenLaw.row PySem.Challenge.rw_calledseats_k64_tours_played).prog 80) (kwd := []) CS.ob_eq
    (by kernel_rfl) (fun s => by kernel_rfl) CS.runTop (by kernel_rfl) (by kernel_rfl) (by kernel_rfl) (by rfl) (by first | assumption | decide +kernel) (by decide +kernel) ⟨rfl, rfl, rfl, rfl, rfl, by decide +kernel⟩ ?hw ?hc
  case hw => w_witness2
  case hc =>
    refine CG.walk_ofG (l := PySem.Challenge.rw_calledseats_k64_tours_played) (n := 63) (k := 11) (x := "_law_script") rfl (by decide) (by kernel_rfl) ⟨rfl, by decide, by decide⟩ ?F
    intro w mg fa h Y G hmg0
    obtain ⟨K, KX, c⟩ := Y
    have hmg : mg ("law" : PySem.Str) = some (.ref fa) := by
      have e : (HandSHeadRun.topDef (OpenLaw.row PySem.Challenge.rw_calledseats_k64_tours_played).prog 80).name = ("law" : PySem.Str) := by kernel_rfl
      rw [← e]
      exact hmg0
    obtain ⟨T, e1, e2⟩ := CS.tx_of KX G c
    have e := hmg.symm.trans e1
    cases e
    exact ⟨K, T.fd_law, CS.sp_law K, KX, e2, fun H a ns hl _ hS => ⟨a, ns, rfl, hS, hl, fun _ => rfl⟩, fun base _ _ => CS.ok_law T⟩
