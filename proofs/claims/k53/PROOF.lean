import PyProof.Rows.All
import Wide.All
import OpenK.AllK
import Wide.FinOn
import HandS.ForMost
import HandS.Zip
import HandS.TupAny
import HandS.TupMul
import HandS.Deep
import HandS.Style
import HandS.SetFor
import HandS.Strs
import HandS.Walk
import HandS.IsInst
import HandS.Conv
import HandS.Wide
import HandS.WideBits
import HandS.Evl
import HandS.MakeKwOnly
import KE.GoesMore
import KE.GoesEnumKw
import KE.KBits
import HandS.DictComp
import HandS.DictTup
import HandS.TupLen
import KE.KDictCopyH
import KE.KDictWalk
import KE.KDictKeyed
import PyProof.WalkInts
import PyProof.SeqI3
import HandS.TryOnly
import KE.KStateDown
import HandS.Head0
import HandS.Head1
import HandS.Head2
import HandS.More
import HandS.Defaults
import HandS.HeadEnd
import HandS.HeadHook1
import HandS.HeadHook2
import PySem.Challenge.RW_calledseats_k53_sums_on_small_rings
set_option Elab.async false
set_option linter.all false
set_option maxRecDepth 100000
set_option maxHeartbeats 4000000


namespace CZ
open PySem PySem.Spec PyProof.Rows L2
open PySem.Sem (wp)
/-- one draw of a zip: strict or not -/
def zdraw (b : Bool) (it : Value) : Sem (Option Value) := if b = true then Builtin.SmallTypes.nextOrEnd it else (Builtin.SmallTypes.nextOf it >>= fun x => pure (some x))
/-- a zip object: f0 what it has handed out, b its strictness -/
abbrev ZipO (h : Heap) (z TI TO : Addr) (f0 : Value) (b : Bool) : Prop := h.get? z = some { cls := .type "zip", data := .fields #[f0, .bool false, .bool b, .ref TI, .ref TO] }
abbrev TupO (h : Heap) (T : Addr) (vs : Array Value) : Prop := h.get? T = some { cls := .type "tuple", data := .seq vs }
theorem val_b (b : Bool) : (Value.bool b == Value.bool true) = b := by cases b <;> rfl
section
variable {prog : Program} {w : World} {A : Around} {E : Value → Shared → Prop} {s : Shared} {b : Bool}
theorem zdraw_item {it : Addr} {fp : List Addr} {n i : Nat} {P : Nat → Value → Prop} {St : Nat → Heap → Prop} {Q : Option Value → Shared → Prop} (D : Draws prog w A it fp n P St) (hi : i < n) (st : St i s.heap)
    (hQ : ∀ x h' tk, P i x → St (i + 1) h' → Heap.SameBut it s.heap h' → Q (some x) { s with heap := h', toks := tk }) : wpAny (model prog w) A (zdraw b (.ref it)) Q E s := by
  cases b with
  | false => exact wpAny_bind (m := Builtin.SmallTypes.nextOf (.ref it)) (D.item i s _ _ hi st fun x h' tk p st' sb => wpAny_pure (hQ x h' tk p st' sb))
  | true =>
    show wpAny _ _ (Builtin.SmallTypes.nextOrEnd (.ref it)) _ _ _
    unfold Builtin.SmallTypes.nextOrEnd
    exact wpAny_bind (wpAny_attempt (D.item i s _ _ hi st fun x h' tk p st' sb => wpAny_pure (hQ x h' tk p st' sb)))
theorem zend_strict {it : Addr} {fp : List Addr} {n : Nat} {P : Nat → Value → Prop} {St : Nat → Heap → Prop} {Q : Option Value → Shared → Prop} (D : Draws prog w A it fp n P St) (st : St n s.heap)
    (hQ : ∀ h', Heap.ExtBut it s.heap h' → Q none { s with heap := h' }) : wpAny (model prog w) A (Builtin.SmallTypes.nextOrEnd (.ref it)) Q E s := by
  unfold Builtin.SmallTypes.nextOrEnd
  refine wpAny_bind (wpAny_attempt (D.done s _ _ st fun h' e eb he => ?_))
  obtain ⟨o, ho, hc⟩ := he
  exact wpAny_bind (wpAny_isInstance (T := "StopIteration") (b := true) ⟨o, ho, hc⟩ isSubtype_stop (wpAny_pure (hQ h' eb)))
theorem upd_tup {T : Addr} {vs : Array Value} {x : Value} {k : Nat} {Q : Unit → Shared → Prop} (hT : TupO s.heap T vs) (hz : vs.size ≤ 8)
    (h : ∀ h', TupO h' T (vs.setIfInBounds k x) → Heap.SameBut T s.heap h' → Q () { s with heap := h' }) : wpAny (model prog w) A (updateSeq T (·.setIfInBounds k x)) Q E s := by
  have z8 : (8 : Nat) ≤ sizeLine := by decide
  refine wpAny_updateSeq hT rfl (h _ ?_ (Heap.SameBut.update ..)) (Nat.le_trans hz z8) (by rw [Array.size_setIfInBounds]; exact Nat.le_succ_of_le (Nat.le_trans hz z8))
  unfold TupO
  rw [Heap.get?_update_self _ hT rfl]
  simp [Obj.mapSeq]
theorem iter_zip {z TI TO : Addr} {f0 : Value} {Q : Value → Shared → Prop} (hz : ZipO s.heap z TI TO f0 b) (h : Q (.ref z) s) : wpAny (model prog w) A (pyIter (.ref z)) Q E s := by
  have hT : s.TypeIs (.ref z) "zip" := ⟨_, hz, rfl⟩
  exact wpAny_pyIter_slot hT F.slot_zip_iter (wpAny_call_entry F.slot_zip_iter hT F.entry_zip_iter (wpAny_pure ⟨_, rfl, "zip", _, hT, F.slot_zip_next.lookup, h⟩) (F.args_zip_iter_1 _))
/-- the tuple that was handed out is let go -/
theorem go_zip {elts : List Expr} {x1} {pos : Pos} {z TI TO T : Addr} {Q : Unit → Shared → Prop} (hz : ZipO s.heap z TI TO (rawInt T) b)
    (hQ : ∀ h', ZipO h' z TI TO .none b → Heap.SameBut z s.heap h' → Q () { s with heap := h' }) : wpAny (model prog w) A (letOwnedTupleGo (.Tuple elts x1 pos) (.ref z) (.ref T)) Q E s := by
  unfold letOwnedTupleGo
  refine wpAny_bind (wpAny_load hz ?_)
  show wpAny _ _ (ite _ _ _) Q E s
  rw [if_pos (by simp)]
  exact wpAny_bind (wpAny_rule (wpAny_setField_rec hz (by simp) fun h' hz' hs' => hQ h' hz' hs'))
/-- the StopIteration that a zip ends by -/
theorem stop_it {Q : Fin → Shared → Prop} (hh : A.handled = none) (hE : ∀ h' e, (∀ c o, s.heap.get? c = some o → h'.get? c = some o) → (∃ o, h'.get? e = some o ∧ o.cls = .type "StopIteration") → E (.ref e) { s with heap := h' }) :
    wpAny (model prog w) A (PySem.Builtin.SmallTypes.stopIteration : Sem Fin) Q E s := by
  unfold PySem.Builtin.SmallTypes.stopIteration
  show wpAny _ _ (newExc (.type "StopIteration") [] >>= _) _ _ _
  refine wpAny_bind ?_
  simp only [newExc, newTuple]
  refine wpAny_bind (wpAny_newObj_type ?_ (by size_fits))
  refine wpAny_bind (m := firstArgMember _ _) (wpAny_of_eq (a := Value.none) (by first | rfl | (simp only [firstArgMember]; rfl)) ?_)
  refine wpAny_newObj_type ?_ (by size_fits)
  simp only [raiseNew]
  refine wpAny_bind (wpAny_handled ?_)
  rw [hh]
  exact wpAny_bind (wpAny_pure (wpAny_throw (hE _ _ (fun c o e => Heap.get?_push_of_some _ (Heap.get?_push_of_some _ e)) ⟨_, Heap.get?_push_size _ rfl, rfl⟩)))
end
end CZ

namespace CZ
open PySem PySem.Spec PyProof.Rows L2
open PySem.Sem (wp)
/-- the cells of a zip over 2 iterators lie apart -/
structure Sep2 (z TI TO i1 i2 : Addr) (fp1 fp2 : List Addr) : Prop where
  zTO : z ≠ TO
  zTI : z ≠ TI
  TOTI : TO ≠ TI
  m1 : i1 ∈ fp1
  z1 : z ∉ fp1
  T1 : TO ∉ fp1
  I1 : TI ≠ i1
  s2_1 : i2 ∉ fp1
  m2 : i2 ∈ fp2
  z2 : z ∉ fp2
  T2 : TO ∉ fp2
  I2 : TI ≠ i2
  s1_2 : i1 ∉ fp2
section
variable {prog : Program} {w : World} {A : Around} {E : Value → Shared → Prop} {s : Shared} {b : Bool}
theorem next_item2 {z TI TO i1 i2 : Addr} {fp1 fp2 : List Addr} {n1 n2 i : Nat} {P1 P2 : Nat → Value → Prop} {St1 St2 : Nat → Heap → Prop} {a1 a2 : Value} {Q : Value → Shared → Prop} (S : Sep2 z TI TO i1 i2 fp1 fp2) (D1 : Draws prog w A i1 fp1 n1 P1 St1) (D2 : Draws prog w A i2 fp2 n2 P2 St2)
    (hz : ZipO s.heap z TI TO .none b) (hTI : TupO s.heap TI #[.ref i1, .ref i2]) (hTO : TupO s.heap TO #[a1, a2]) (st1 : St1 i s.heap) (st2 : St2 i s.heap) (hi1 : i < n1) (hi2 : i < n2)
    (hQ : ∀ x1 x2 h' tk, P1 i x1 → P2 i x2 → ZipO h' z TI TO (rawInt s.heap.objs.size) b → TupO h' TO #[x1, x2] → St1 (i + 1) h' → St2 (i + 1) h' → TupO h' s.heap.objs.size #[x1, x2] →
      (∀ c o, c ≠ z → c ≠ TO → c ≠ i1 → c ≠ i2 → s.heap.get? c = some o → h'.get? c = some o) → Q (.ref s.heap.objs.size) { s with heap := h', toks := tk }) :
    wpAny (model prog w) A (Builtin.«zip.__next__» ⟨[.ref z], []⟩) (fun fin s' => ∃ v, fin = .done (.ret v) ∧ Q v s') E s := by
  obtain ⟨hp, g, d, tk0, os⟩ := s
  refine wpAny_bind (m := field (.ref z) 2) (wpAny_field hz rfl (x := .bool b) rfl ?_)
  refine wpAny_bind (m := field (.ref z) 3) (wpAny_field hz rfl (x := .ref TI) rfl ?_)
  refine wpAny_bind (wpAny_seqItems hTI rfl ?_)
  show wpAny _ _ (Builtin.SmallTypes.ownedTupleIsFree (.ref z) >>= _) _ _ _
  rw [val_b]
  refine wpAny_bind ?_
  unfold Builtin.SmallTypes.ownedTupleIsFree
  refine wpAny_bind (wpAny_field hz rfl (x := .none) rfl (wpAny_pure ?_))
  simp only [if_true]
  refine wpAny_bind (wpAny_rule (wpAny_bind (wpAny_field hz rfl (x := .ref TO) rfl ?_)))
  refine wpAny_bind (wpAny_setField_rec hz (by simp) fun g0 hz0 hs0 => wpAny_bind ?_)
  replace hs0 : Heap.SameBut z hp g0 := hs0
  replace hz0 : ZipO g0 z TI TO .ellipsis b := hz0
  have hT0 : TupO g0 TO #[a1, a2] := hs0.extBut _ _ S.zTO.symm hTO
  have t1_0 : St1 i g0 := D1.frame _ _ _ st1 fun c hc o e => hs0.extBut c o (fun q => S.z1 (q ▸ hc)) e
  have t2_0 : St2 i g0 := D2.frame _ _ _ st2 fun c hc o e => hs0.extBut c o (fun q => S.z2 (q ▸ hc)) e
  have k0 : ∀ c o, c ≠ z → c ≠ TO → c ≠ i1 → c ≠ i2 → hp.get? c = some o → g0.get? c = some o := fun c o q0 _ _ _ e => hs0.extBut c o q0 e
  simp only [List.zipIdx_cons, List.zipIdx_nil, List.forIn_cons, List.forIn_nil]
  refine wpAny_bind (wpAny_bind (wpAny_onRaise (m := zdraw b (.ref i1)) (zdraw_item (s := ⟨g0, g, d, tk0, os⟩) D1 hi1 t1_0 fun x1 d1 tk1 p1 n1 hd1 => ?_)))
  replace hd1 : Heap.SameBut i1 g0 d1 := hd1
  have hU1 : TupO d1 TO #[a1, a2] := hd1.extBut _ _ (fun q => S.T1 (q ▸ S.m1)) hT0
  refine wpAny_bind (wpAny_seqItems (s := ⟨d1, g, d, tk1, os⟩) hU1 rfl ?_)
  refine wpAny_bind (upd_tup (s := ⟨d1, g, d, tk1, os⟩) hU1 (by simp) fun g1 hT1 hs1 => ?_)
  replace hs1 : Heap.SameBut TO d1 g1 := hs1
  replace hT1 : TupO g1 TO #[x1, a2] := hT1
  have hz1 : ZipO g1 z TI TO .ellipsis b := hs1.extBut _ _ S.zTO (hd1.extBut _ _ (fun q => S.z1 (q ▸ S.m1)) hz0)
  have t1_1 : St1 (i + 1) g1 := D1.frame _ _ _ n1 fun c hc o e => hs1.extBut c o (fun q => S.T1 (q ▸ hc)) e
  have t2_1 : St2 i g1 := D2.frame _ _ _ t2_0 fun c hc o e => hs1.extBut c o (fun q => S.T2 (q ▸ hc)) (hd1.extBut c o (fun q => S.s1_2 (q ▸ hc)) e)
  have k1 : ∀ c o, c ≠ z → c ≠ TO → c ≠ i1 → c ≠ i2 → hp.get? c = some o → g1.get? c = some o := fun c o qz qT q1 q2 e => hs1.extBut c o qT (hd1.extBut c o q1 (k0 c o qz qT q1 q2 e))
  have e1 : g1.objs.size = g0.objs.size := by rw [hs1.1, hd1.1]
  refine wpAny_bind (wpAny_letGo (wpAny_pure ?_))
  refine wpAny_bind (wpAny_bind (wpAny_onRaise (m := zdraw b (.ref i2)) (zdraw_item (s := ⟨g1, g, d, tk1, os⟩) D2 hi2 t2_1 fun x2 d2 tk2 p2 n2 hd2 => ?_)))
  replace hd2 : Heap.SameBut i2 g1 d2 := hd2
  have hU2 : TupO d2 TO #[x1, a2] := hd2.extBut _ _ (fun q => S.T2 (q ▸ S.m2)) hT1
  refine wpAny_bind (wpAny_seqItems (s := ⟨d2, g, d, tk2, os⟩) hU2 rfl ?_)
  refine wpAny_bind (upd_tup (s := ⟨d2, g, d, tk2, os⟩) hU2 (by simp) fun g2 hT2 hs2 => ?_)
  replace hs2 : Heap.SameBut TO d2 g2 := hs2
  replace hT2 : TupO g2 TO #[x1, x2] := hT2
  have hz2 : ZipO g2 z TI TO .ellipsis b := hs2.extBut _ _ S.zTO (hd2.extBut _ _ (fun q => S.z2 (q ▸ S.m2)) hz1)
  have t1_2 : St1 (i + 1) g2 := D1.frame _ _ _ t1_1 fun c hc o e => hs2.extBut c o (fun q => S.T1 (q ▸ hc)) (hd2.extBut c o (fun q => S.s2_1 (q ▸ hc)) e)
  have t2_2 : St2 (i + 1) g2 := D2.frame _ _ _ n2 fun c hc o e => hs2.extBut c o (fun q => S.T2 (q ▸ hc)) e
  have k2 : ∀ c o, c ≠ z → c ≠ TO → c ≠ i1 → c ≠ i2 → hp.get? c = some o → g2.get? c = some o := fun c o qz qT q1 q2 e => hs2.extBut c o qT (hd2.extBut c o q2 (k1 c o qz qT q1 q2 e))
  have e2 : g2.objs.size = g1.objs.size := by rw [hs2.1, hd2.1]
  refine wpAny_bind (wpAny_letGo (wpAny_pure ?_))
  refine wpAny_pure ?_
  refine wpAny_bind (wpAny_seqItems (s := ⟨g2, g, d, tk2, os⟩) hT2 rfl ?_)
  refine wpAny_bind (wpAny_newTuple ?_)
  have hsz : g2.objs.size = hp.objs.size := by rw [e2, e1, hs0.1]
  have hlt : z < g2.objs.size := Heap.lt_size hz2
  refine wpAny_bind ?_
  unfold Builtin.SmallTypes.ownedTupleHandOut
  have hy : ZipO (g2.push { cls := .type "tuple", data := .seq #[x1, x2] }) z TI TO .ellipsis b := Heap.get?_push_of_some _ hz2
  refine wpAny_bind (wpAny_setField_rec hy (by simp) fun u1 hu1 hv1 => wpAny_setField_rec hu1 (by simp) fun u2 hu2 hv2 => ?_)
  have up : ∀ c o, c ≠ z → g2.get? c = some o → u2.get? c = some o := fun c o q e => hv2.extBut c o q (hv1.extBut c o q (Heap.get?_push_of_some _ e))
  have hN : TupO u2 g2.objs.size #[x1, x2] := hv2.extBut _ _ (Nat.ne_of_gt hlt) (hv1.extBut _ _ (Nat.ne_of_gt hlt) (Heap.get?_push_size _ rfl))
  have hZ : ZipO u2 z TI TO (rawInt g2.objs.size) b := hu2
  rw [hsz] at hN hZ
  refine wpAny_pure ⟨_, rfl, ?_⟩
  show Q (.ref g2.objs.size) ⟨u2, g, d, tk2, os⟩
  rw [hsz]
  exact hQ x1 x2 u2 tk2 p1 p2 hZ (up _ _ S.zTO.symm hT2) (D1.frame _ _ _ t1_2 fun c hc o e => up c o (fun q => S.z1 (q ▸ hc)) e) (D2.frame _ _ _ t2_2 fun c hc o e => up c o (fun q => S.z2 (q ▸ hc)) e) hN fun c o qz qT q1 q2 e => up c o qz (k2 c o qz qT q1 q2 e)
theorem next_end2 {z TI TO i1 i2 : Addr} {fp1 fp2 : List Addr} {n : Nat} {P1 P2 : Nat → Value → Prop} {St1 St2 : Nat → Heap → Prop} {a1 a2 : Value} {Q : Fin → Shared → Prop} (hh : A.handled = none) (S : Sep2 z TI TO i1 i2 fp1 fp2) (D1 : Draws prog w A i1 fp1 n P1 St1) (D2 : Draws prog w A i2 fp2 n P2 St2)
    (hz : ZipO s.heap z TI TO .none b) (hTI : TupO s.heap TI #[.ref i1, .ref i2]) (hTO : TupO s.heap TO #[a1, a2]) (st1 : St1 n s.heap) (st2 : St2 n s.heap)
    (hE : ∀ h' e, (∀ c o, c ≠ z → c ≠ TO → c ≠ i1 → c ≠ i2 → s.heap.get? c = some o → h'.get? c = some o) → (∃ o, h'.get? e = some o ∧ o.cls = .type "StopIteration") → E (.ref e) { s with heap := h' }) :
    wpAny (model prog w) A (Builtin.«zip.__next__» ⟨[.ref z], []⟩) Q E s := by
  obtain ⟨hp, g, d, tk0, os⟩ := s
  refine wpAny_bind (m := field (.ref z) 2) (wpAny_field hz rfl (x := .bool b) rfl ?_)
  refine wpAny_bind (m := field (.ref z) 3) (wpAny_field hz rfl (x := .ref TI) rfl ?_)
  refine wpAny_bind (wpAny_seqItems hTI rfl ?_)
  show wpAny _ _ (Builtin.SmallTypes.ownedTupleIsFree (.ref z) >>= _) _ _ _
  rw [val_b]
  refine wpAny_bind ?_
  unfold Builtin.SmallTypes.ownedTupleIsFree
  refine wpAny_bind (wpAny_field hz rfl (x := .none) rfl (wpAny_pure ?_))
  simp only [if_true]
  refine wpAny_bind (wpAny_rule (wpAny_bind (wpAny_field hz rfl (x := .ref TO) rfl ?_)))
  refine wpAny_bind (wpAny_setField_rec hz (by simp) fun g0 hz0 hs0 => wpAny_bind ?_)
  replace hs0 : Heap.SameBut z hp g0 := hs0
  replace hz0 : ZipO g0 z TI TO .ellipsis b := hz0
  have t1_0 : St1 n g0 := D1.frame _ _ _ st1 fun c hc o e => hs0.extBut c o (fun q => S.z1 (q ▸ hc)) e
  have t2_0 : St2 n g0 := D2.frame _ _ _ st2 fun c hc o e => hs0.extBut c o (fun q => S.z2 (q ▸ hc)) e
  simp only [List.zipIdx_cons, List.zipIdx_nil, List.forIn_cons, List.forIn_nil]
  refine wpAny_bind (wpAny_bind (wpAny_onRaise ?_))
  cases b with
  | false =>
    refine wpAny_bind (m := Builtin.SmallTypes.nextOf (.ref i1)) (D1.done ⟨g0, g, d, tk0, os⟩ _ _ t1_0 fun y e hy he => ?_)
    replace hy : Heap.ExtBut i1 g0 y := hy
    obtain ⟨oe, hoe, hce⟩ := he
    replace hoe : y.get? e = some oe := hoe
    have hzy : ZipO y z TI TO .ellipsis false := hy _ _ (fun q => S.z1 (q ▸ S.m1)) hz0
    have hez : e ≠ z := fun x => by subst x; rw [hzy] at hoe; cases hoe; simp at hce
    refine wpAny_setField_rec (s := ⟨y, g, d, tk0, os⟩) hzy (by simp) fun y2 _ hv => ?_
    replace hv : Heap.SameBut z y y2 := hv
    exact hE y2 e (fun c o qz qT q1 q2 x => hv.extBut c o qz (hy c o q1 (hs0.extBut c o qz x))) ⟨oe, hv.extBut _ _ hez hoe, hce⟩
  | true =>
    refine zend_strict (s := ⟨g0, g, d, tk0, os⟩) D1 t1_0 fun y hy => ?_
    replace hy : Heap.ExtBut i1 g0 y := hy
    have hzy : ZipO y z TI TO .ellipsis true := hy _ _ (fun q => S.z1 (q ▸ S.m1)) hz0
    have t2_1 : St2 n y := D2.frame _ _ _ t2_0 fun c hc o e => hy c o (fun q => S.s1_2 (q ▸ hc)) e
    refine wpAny_bind (wpAny_setField_rec (s := ⟨y, g, d, tk0, os⟩) hzy (by simp) fun y1 _ hv1 => ?_)
    replace hv1 : Heap.SameBut z y y1 := hv1
    have r2_1 : St2 n y1 := D2.frame _ _ _ t2_1 fun c hc o e => hv1.extBut c o (fun q => S.z2 (q ▸ hc)) e
    have k1 : ∀ c o, c ≠ z → c ≠ TO → c ≠ i1 → c ≠ i2 → hp.get? c = some o → y1.get? c = some o := fun c o qz qT q1 q2 e => hv1.extBut c o qz (hy c o q1 (hs0.extBut c o qz e))
    refine wpAny_bind ?_
    refine wpAny_bind ?_
    simp only [List.drop_succ_cons, List.drop_zero, List.zipIdx_cons, List.zipIdx_nil, List.forIn_cons, List.forIn_nil]
    refine wpAny_bind (wpAny_bind (zend_strict (s := ⟨y1, g, d, tk0, os⟩) D2 r2_1 fun y2 hy2 => ?_))
    replace hy2 : Heap.ExtBut i2 y1 y2 := hy2
    have k2 : ∀ c o, c ≠ z → c ≠ TO → c ≠ i1 → c ≠ i2 → hp.get? c = some o → y2.get? c = some o := fun c o qz qT q1 q2 e => hy2 c o q2 (k1 c o qz qT q1 q2 e)
    refine wpAny_pure ?_
    refine wpAny_pure ?_
    exact wpAny_bind (wpAny_rule (stop_it (s := ⟨y2, g, d, tk0, os⟩) hh fun h2 e kk he => hE h2 e (fun c o qz qT q1 q2 x => kk c o (k2 c o qz qT q1 q2 x)) he))
theorem py_item2 {z TI TO i1 i2 : Addr} {fp1 fp2 : List Addr} {n1 n2 i : Nat} {P1 P2 : Nat → Value → Prop} {St1 St2 : Nat → Heap → Prop} {a1 a2 : Value} {Q : Option Value → Shared → Prop} (S : Sep2 z TI TO i1 i2 fp1 fp2) (D1 : Draws prog w A.in1 i1 fp1 n1 P1 St1) (D2 : Draws prog w A.in1 i2 fp2 n2 P2 St2)
    (hz : ZipO s.heap z TI TO .none b) (hTI : TupO s.heap TI #[.ref i1, .ref i2]) (hTO : TupO s.heap TO #[a1, a2]) (st1 : St1 i s.heap) (st2 : St2 i s.heap) (hi1 : i < n1) (hi2 : i < n2)
    (hQ : ∀ x1 x2 h' tk, P1 i x1 → P2 i x2 → ZipO h' z TI TO (rawInt s.heap.objs.size) b → TupO h' TO #[x1, x2] → St1 (i + 1) h' → St2 (i + 1) h' → TupO h' s.heap.objs.size #[x1, x2] →
      (∀ c o, c ≠ z → c ≠ TO → c ≠ i1 → c ≠ i2 → s.heap.get? c = some o → h'.get? c = some o) → Q (some (.ref s.heap.objs.size)) { s with heap := h', toks := tk }) : wpAny (model prog w) A (pyNext (.ref z)) Q E s := by
  have hT : s.TypeIs (.ref z) "zip" := ⟨_, hz, rfl⟩
  unfold pyNext
  refine wpAny_bind (wpAny_attempt (wpAny_callSpecial?_slot (name := Str.ofString "__next__") hT F.slot_zip_next (wpAny_call_entry F.slot_zip_next hT F.entry_zip_next ?_ (F.args_zip_next_1 _))))
  exact next_item2 S D1 D2 hz hTI hTO st1 st2 hi1 hi2 fun x1 x2 h2 tk p1 p2 q1 q2 u1 u2 q3 q4 => wpAny_pure (hQ x1 x2 h2 tk p1 p2 q1 q2 u1 u2 q3 q4)
theorem py_end2 {z TI TO i1 i2 : Addr} {fp1 fp2 : List Addr} {n : Nat} {P1 P2 : Nat → Value → Prop} {St1 St2 : Nat → Heap → Prop} {a1 a2 : Value} {Q : Option Value → Shared → Prop} (hh : A.handled = none) (S : Sep2 z TI TO i1 i2 fp1 fp2) (D1 : Draws prog w A.in1 i1 fp1 n P1 St1) (D2 : Draws prog w A.in1 i2 fp2 n P2 St2)
    (hz : ZipO s.heap z TI TO .none b) (hTI : TupO s.heap TI #[.ref i1, .ref i2]) (hTO : TupO s.heap TO #[a1, a2]) (st1 : St1 n s.heap) (st2 : St2 n s.heap)
    (hQ : ∀ h', (∀ c o, c ≠ z → c ≠ TO → c ≠ i1 → c ≠ i2 → s.heap.get? c = some o → h'.get? c = some o) → Q none { s with heap := h' }) : wpAny (model prog w) A (pyNext (.ref z)) Q E s := by
  have hT : s.TypeIs (.ref z) "zip" := ⟨_, hz, rfl⟩
  unfold pyNext
  refine wpAny_bind (wpAny_attempt (wpAny_callSpecial?_slot (name := Str.ofString "__next__") hT F.slot_zip_next (wpAny_call_entry F.slot_zip_next hT F.entry_zip_next ?_ (F.args_zip_next_1 _))))
  refine next_end2 (A := A.in1) hh S D1 D2 hz hTI hTO st1 st2 fun h2 e kk he => ?_
  obtain ⟨o, ho, hc⟩ := he
  exact wpAny_bind (wpAny_isInstance (T := "StopIteration") (b := true) ⟨o, ho, hc⟩ isSubtype_stop (wpAny_pure (hQ _ kk)))
theorem typeCall_strict2 (v1 v2 x : Value) : checkTypeCall "zip" ⟨[v1, v2], [(Str.ofString "strict", x)]⟩ = pure () := by kernel_rfl
theorem newCall_strict2 (v1 v2 x : Value) : checkBuiltinCall "zip.__new__" ⟨[.type "zip", v1, v2], [(Str.ofString "strict", x)]⟩ = pure () := by kernel_rfl
theorem initArgs_strict2 (obj v1 v2 x : Value) : argsOk "object.__init__" ⟨[obj, v1, v2], [(Str.ofString "strict", x)]⟩ := by unfold argsOk; kernel_rfl
abbrev sT2 (h : Heap) (o1 o2 : Obj) : Heap := (((h.push o1).push o2).push { cls := .type "tuple", data := .seq #[.ref h.objs.size, .ref (h.push o1).objs.size] })
abbrev sO2 (h : Heap) (o1 o2 : Obj) : Heap := (sT2 h o1 o2).push { cls := .type "tuple", data := .seq #[.none, .none] }
abbrev sZ2 (h : Heap) (o1 o2 : Obj) : Heap := (sO2 h o1 o2).push { cls := .type "zip", data := .fields #[.none, .bool false, .bool true, .ref ((h.push o1).push o2).objs.size, .ref (sT2 h o1 o2).objs.size] }
theorem meets_strict2 {v1 v2 : Value} {o1 o2 : Obj} {G1 G2 : Heap → Prop} (B1 : Begins v1 o1 G1) (B2 : Begins v2 o2 G2) :
    Meets (Builtin.«zip.__new__» ⟨[.type "zip", v1, v2], [(Str.ofString "strict", .bool true)]⟩) (fun _ R s => (G1 s.heap ∧ G2 s.heap) ∧ R (.ok (.ret (.ref (sO2 s.heap o1 o2).objs.size))) { s with heap := (sZ2 s.heap o1 o2) }) :=
  .of_wp fun prog w A R s h => by
    obtain ⟨hp, g, d, tk, os⟩ := s
    obtain ⟨⟨h1, h2⟩, h⟩ := h
    have hsub := sub_zip
    have e1 : (Str.ofString "strict" != ("strict" : Str)) = false := by decide +kernel
    have w1 : ∀ {A' : Around} {E : Value → Shared → Prop} {Q : Value → Shared → Prop}, Q (.ref hp.objs.size) ⟨(hp.push o1), g, d, tk, os⟩ → wpAny (model prog w) A' (pyIter v1) Q E ⟨hp, g, d, tk, os⟩ := fun q => B1.iter prog w _ _ ⟨hp, g, d, tk, os⟩ _ (B1.keeps _ _ h1 fun c u e => e) q
    have w2 : ∀ {A' : Around} {E : Value → Shared → Prop} {Q : Value → Shared → Prop}, Q (.ref (hp.push o1).objs.size) ⟨((hp.push o1).push o2), g, d, tk, os⟩ → wpAny (model prog w) A' (pyIter v2) Q E ⟨(hp.push o1), g, d, tk, os⟩ := fun q => B2.iter prog w _ _ ⟨(hp.push o1), g, d, tk, os⟩ _ (B2.keeps _ _ h2 fun c u e => (Heap.get?_push_of_some _ e)) q
    wp_walk using w1, w2
    exact ⟨_, rfl, h⟩
/-- zip(.., strict=True) of 2: its new cells -/
theorem begins_strict2 {v1 v2 : Value} {o1 o2 : Obj} {G1 G2 : Heap → Prop} {Q : Value → Shared → Prop} (B1 : Begins v1 o1 G1) (B2 : Begins v2 o2 G2) (h1 : G1 s.heap) (h2 : G2 s.heap)
    (h : ∀ h', ZipO h' (s.heap.objs.size + 4) (s.heap.objs.size + 2) (s.heap.objs.size + 3) .none true → TupO h' (s.heap.objs.size + 2) #[.ref s.heap.objs.size, .ref (s.heap.objs.size + 1)] → TupO h' (s.heap.objs.size + 3) #[.none, .none] → h'.get? s.heap.objs.size = some o1 → h'.get? (s.heap.objs.size + 1) = some o2 → (∀ c o, s.heap.get? c = some o → h'.get? c = some o) → Q (.ref (s.heap.objs.size + 4)) { s with heap := h' }) :
    wpAny (model prog w) A (call (.type "zip") [v1, v2] [(Str.ofString "strict", .bool true)]) Q E s := by
  refine callType_newKw F.called_zip (by decide) (typeCall_strict2 _ _ _) (newCall_strict2 _ _ _) (fun obj => initArgs_strict2 obj _ _ _) F.entry_zip_new (meets_strict2 B1 B2) ⟨⟨h1, h2⟩, ?_⟩
  have z1 : (s.heap.push o1).objs.size = s.heap.objs.size + 1 := by rw [Heap.size_push]
  have z2 : ((s.heap.push o1).push o2).objs.size = s.heap.objs.size + 2 := by rw [Heap.size_push, z1]
  have z3 : (sT2 s.heap o1 o2).objs.size = s.heap.objs.size + 3 := by rw [Heap.size_push, z2]
  have z4 : (sO2 s.heap o1 o2).objs.size = s.heap.objs.size + 4 := by rw [Heap.size_push, z3]
  have z5 : (sZ2 s.heap o1 o2).objs.size = s.heap.objs.size + 5 := by rw [Heap.size_push, z4]
  have q0 : (sZ2 s.heap o1 o2).get? s.heap.objs.size = some o1 := (Heap.get?_push_of_some _ (Heap.get?_push_of_some _ (Heap.get?_push_of_some _ (Heap.get?_push_of_some _ (Heap.get?_push_size _ B1.free)))))
  have q1 : (sZ2 s.heap o1 o2).get? (s.heap.push o1).objs.size = some o2 := (Heap.get?_push_of_some _ (Heap.get?_push_of_some _ (Heap.get?_push_of_some _ (Heap.get?_push_size _ B2.free))))
  rw [z1] at q1
  have q2 : (sZ2 s.heap o1 o2).get? ((s.heap.push o1).push o2).objs.size = some ({ cls := .type "tuple", data := .seq #[.ref s.heap.objs.size, .ref (s.heap.push o1).objs.size] } : Obj) := (Heap.get?_push_of_some _ (Heap.get?_push_of_some _ (Heap.get?_push_size _ rfl)))
  rw [z2] at q2
  have q3 : (sZ2 s.heap o1 o2).get? (sT2 s.heap o1 o2).objs.size = some ({ cls := .type "tuple", data := .seq #[.none, .none] } : Obj) := (Heap.get?_push_of_some _ (Heap.get?_push_size _ rfl))
  rw [z3] at q3
  have q4 : (sZ2 s.heap o1 o2).get? (sO2 s.heap o1 o2).objs.size = some ({ cls := .type "zip", data := .fields #[.none, .bool false, .bool true, .ref ((s.heap.push o1).push o2).objs.size, .ref (sT2 s.heap o1 o2).objs.size] } : Obj) := (Heap.get?_push_size _ rfl)
  rw [z4] at q4
  rw [z1] at q2
  rw [z3, z2] at q4
  show _ ∧ _
  rw [z4]
  exact ⟨⟨_, q4, rfl⟩, h _ q4 q2 q3 q0 q1 fun c o e => (Heap.get?_push_of_some _ (Heap.get?_push_of_some _ (Heap.get?_push_of_some _ (Heap.get?_push_of_some _ (Heap.get?_push_of_some _ e)))))⟩
end
/-- the cells of a zip over 3 iterators lie apart -/
structure Sep3 (z TI TO i1 i2 i3 : Addr) (fp1 fp2 fp3 : List Addr) : Prop where
  zTO : z ≠ TO
  zTI : z ≠ TI
  TOTI : TO ≠ TI
  m1 : i1 ∈ fp1
  z1 : z ∉ fp1
  T1 : TO ∉ fp1
  I1 : TI ≠ i1
  s2_1 : i2 ∉ fp1
  s3_1 : i3 ∉ fp1
  m2 : i2 ∈ fp2
  z2 : z ∉ fp2
  T2 : TO ∉ fp2
  I2 : TI ≠ i2
  s1_2 : i1 ∉ fp2
  s3_2 : i3 ∉ fp2
  m3 : i3 ∈ fp3
  z3 : z ∉ fp3
  T3 : TO ∉ fp3
  I3 : TI ≠ i3
  s1_3 : i1 ∉ fp3
  s2_3 : i2 ∉ fp3
section
variable {prog : Program} {w : World} {A : Around} {E : Value → Shared → Prop} {s : Shared} {b : Bool}
theorem next_item3 {z TI TO i1 i2 i3 : Addr} {fp1 fp2 fp3 : List Addr} {n1 n2 n3 i : Nat} {P1 P2 P3 : Nat → Value → Prop} {St1 St2 St3 : Nat → Heap → Prop} {a1 a2 a3 : Value} {Q : Value → Shared → Prop} (S : Sep3 z TI TO i1 i2 i3 fp1 fp2 fp3) (D1 : Draws prog w A i1 fp1 n1 P1 St1) (D2 : Draws prog w A i2 fp2 n2 P2 St2) (D3 : Draws prog w A i3 fp3 n3 P3 St3)
    (hz : ZipO s.heap z TI TO .none b) (hTI : TupO s.heap TI #[.ref i1, .ref i2, .ref i3]) (hTO : TupO s.heap TO #[a1, a2, a3]) (st1 : St1 i s.heap) (st2 : St2 i s.heap) (st3 : St3 i s.heap) (hi1 : i < n1) (hi2 : i < n2) (hi3 : i < n3)
    (hQ : ∀ x1 x2 x3 h' tk, P1 i x1 → P2 i x2 → P3 i x3 → ZipO h' z TI TO (rawInt s.heap.objs.size) b → TupO h' TO #[x1, x2, x3] → St1 (i + 1) h' → St2 (i + 1) h' → St3 (i + 1) h' → TupO h' s.heap.objs.size #[x1, x2, x3] →
      (∀ c o, c ≠ z → c ≠ TO → c ≠ i1 → c ≠ i2 → c ≠ i3 → s.heap.get? c = some o → h'.get? c = some o) → Q (.ref s.heap.objs.size) { s with heap := h', toks := tk }) :
    wpAny (model prog w) A (Builtin.«zip.__next__» ⟨[.ref z], []⟩) (fun fin s' => ∃ v, fin = .done (.ret v) ∧ Q v s') E s := by
  obtain ⟨hp, g, d, tk0, os⟩ := s
  refine wpAny_bind (m := field (.ref z) 2) (wpAny_field hz rfl (x := .bool b) rfl ?_)
  refine wpAny_bind (m := field (.ref z) 3) (wpAny_field hz rfl (x := .ref TI) rfl ?_)
  refine wpAny_bind (wpAny_seqItems hTI rfl ?_)
  show wpAny _ _ (Builtin.SmallTypes.ownedTupleIsFree (.ref z) >>= _) _ _ _
  rw [val_b]
  refine wpAny_bind ?_
  unfold Builtin.SmallTypes.ownedTupleIsFree
  refine wpAny_bind (wpAny_field hz rfl (x := .none) rfl (wpAny_pure ?_))
  simp only [if_true]
  refine wpAny_bind (wpAny_rule (wpAny_bind (wpAny_field hz rfl (x := .ref TO) rfl ?_)))
  refine wpAny_bind (wpAny_setField_rec hz (by simp) fun g0 hz0 hs0 => wpAny_bind ?_)
  replace hs0 : Heap.SameBut z hp g0 := hs0
  replace hz0 : ZipO g0 z TI TO .ellipsis b := hz0
  have hT0 : TupO g0 TO #[a1, a2, a3] := hs0.extBut _ _ S.zTO.symm hTO
  have t1_0 : St1 i g0 := D1.frame _ _ _ st1 fun c hc o e => hs0.extBut c o (fun q => S.z1 (q ▸ hc)) e
  have t2_0 : St2 i g0 := D2.frame _ _ _ st2 fun c hc o e => hs0.extBut c o (fun q => S.z2 (q ▸ hc)) e
  have t3_0 : St3 i g0 := D3.frame _ _ _ st3 fun c hc o e => hs0.extBut c o (fun q => S.z3 (q ▸ hc)) e
  have k0 : ∀ c o, c ≠ z → c ≠ TO → c ≠ i1 → c ≠ i2 → c ≠ i3 → hp.get? c = some o → g0.get? c = some o := fun c o q0 _ _ _ _ e => hs0.extBut c o q0 e
  simp only [List.zipIdx_cons, List.zipIdx_nil, List.forIn_cons, List.forIn_nil]
  refine wpAny_bind (wpAny_bind (wpAny_onRaise (m := zdraw b (.ref i1)) (zdraw_item (s := ⟨g0, g, d, tk0, os⟩) D1 hi1 t1_0 fun x1 d1 tk1 p1 n1 hd1 => ?_)))
  replace hd1 : Heap.SameBut i1 g0 d1 := hd1
  have hU1 : TupO d1 TO #[a1, a2, a3] := hd1.extBut _ _ (fun q => S.T1 (q ▸ S.m1)) hT0
  refine wpAny_bind (wpAny_seqItems (s := ⟨d1, g, d, tk1, os⟩) hU1 rfl ?_)
  refine wpAny_bind (upd_tup (s := ⟨d1, g, d, tk1, os⟩) hU1 (by simp) fun g1 hT1 hs1 => ?_)
  replace hs1 : Heap.SameBut TO d1 g1 := hs1
  replace hT1 : TupO g1 TO #[x1, a2, a3] := hT1
  have hz1 : ZipO g1 z TI TO .ellipsis b := hs1.extBut _ _ S.zTO (hd1.extBut _ _ (fun q => S.z1 (q ▸ S.m1)) hz0)
  have t1_1 : St1 (i + 1) g1 := D1.frame _ _ _ n1 fun c hc o e => hs1.extBut c o (fun q => S.T1 (q ▸ hc)) e
  have t2_1 : St2 i g1 := D2.frame _ _ _ t2_0 fun c hc o e => hs1.extBut c o (fun q => S.T2 (q ▸ hc)) (hd1.extBut c o (fun q => S.s1_2 (q ▸ hc)) e)
  have t3_1 : St3 i g1 := D3.frame _ _ _ t3_0 fun c hc o e => hs1.extBut c o (fun q => S.T3 (q ▸ hc)) (hd1.extBut c o (fun q => S.s1_3 (q ▸ hc)) e)
  have k1 : ∀ c o, c ≠ z → c ≠ TO → c ≠ i1 → c ≠ i2 → c ≠ i3 → hp.get? c = some o → g1.get? c = some o := fun c o qz qT q1 q2 q3 e => hs1.extBut c o qT (hd1.extBut c o q1 (k0 c o qz qT q1 q2 q3 e))
  have e1 : g1.objs.size = g0.objs.size := by rw [hs1.1, hd1.1]
  refine wpAny_bind (wpAny_letGo (wpAny_pure ?_))
  refine wpAny_bind (wpAny_bind (wpAny_onRaise (m := zdraw b (.ref i2)) (zdraw_item (s := ⟨g1, g, d, tk1, os⟩) D2 hi2 t2_1 fun x2 d2 tk2 p2 n2 hd2 => ?_)))
  replace hd2 : Heap.SameBut i2 g1 d2 := hd2
  have hU2 : TupO d2 TO #[x1, a2, a3] := hd2.extBut _ _ (fun q => S.T2 (q ▸ S.m2)) hT1
  refine wpAny_bind (wpAny_seqItems (s := ⟨d2, g, d, tk2, os⟩) hU2 rfl ?_)
  refine wpAny_bind (upd_tup (s := ⟨d2, g, d, tk2, os⟩) hU2 (by simp) fun g2 hT2 hs2 => ?_)
  replace hs2 : Heap.SameBut TO d2 g2 := hs2
  replace hT2 : TupO g2 TO #[x1, x2, a3] := hT2
  have hz2 : ZipO g2 z TI TO .ellipsis b := hs2.extBut _ _ S.zTO (hd2.extBut _ _ (fun q => S.z2 (q ▸ S.m2)) hz1)
  have t1_2 : St1 (i + 1) g2 := D1.frame _ _ _ t1_1 fun c hc o e => hs2.extBut c o (fun q => S.T1 (q ▸ hc)) (hd2.extBut c o (fun q => S.s2_1 (q ▸ hc)) e)
  have t2_2 : St2 (i + 1) g2 := D2.frame _ _ _ n2 fun c hc o e => hs2.extBut c o (fun q => S.T2 (q ▸ hc)) e
  have t3_2 : St3 i g2 := D3.frame _ _ _ t3_1 fun c hc o e => hs2.extBut c o (fun q => S.T3 (q ▸ hc)) (hd2.extBut c o (fun q => S.s2_3 (q ▸ hc)) e)
  have k2 : ∀ c o, c ≠ z → c ≠ TO → c ≠ i1 → c ≠ i2 → c ≠ i3 → hp.get? c = some o → g2.get? c = some o := fun c o qz qT q1 q2 q3 e => hs2.extBut c o qT (hd2.extBut c o q2 (k1 c o qz qT q1 q2 q3 e))
  have e2 : g2.objs.size = g1.objs.size := by rw [hs2.1, hd2.1]
  refine wpAny_bind (wpAny_letGo (wpAny_pure ?_))
  refine wpAny_bind (wpAny_bind (wpAny_onRaise (m := zdraw b (.ref i3)) (zdraw_item (s := ⟨g2, g, d, tk2, os⟩) D3 hi3 t3_2 fun x3 d3 tk3 p3 n3 hd3 => ?_)))
  replace hd3 : Heap.SameBut i3 g2 d3 := hd3
  have hU3 : TupO d3 TO #[x1, x2, a3] := hd3.extBut _ _ (fun q => S.T3 (q ▸ S.m3)) hT2
  refine wpAny_bind (wpAny_seqItems (s := ⟨d3, g, d, tk3, os⟩) hU3 rfl ?_)
  refine wpAny_bind (upd_tup (s := ⟨d3, g, d, tk3, os⟩) hU3 (by simp) fun g3 hT3 hs3 => ?_)
  replace hs3 : Heap.SameBut TO d3 g3 := hs3
  replace hT3 : TupO g3 TO #[x1, x2, x3] := hT3
  have hz3 : ZipO g3 z TI TO .ellipsis b := hs3.extBut _ _ S.zTO (hd3.extBut _ _ (fun q => S.z3 (q ▸ S.m3)) hz2)
  have t1_3 : St1 (i + 1) g3 := D1.frame _ _ _ t1_2 fun c hc o e => hs3.extBut c o (fun q => S.T1 (q ▸ hc)) (hd3.extBut c o (fun q => S.s3_1 (q ▸ hc)) e)
  have t2_3 : St2 (i + 1) g3 := D2.frame _ _ _ t2_2 fun c hc o e => hs3.extBut c o (fun q => S.T2 (q ▸ hc)) (hd3.extBut c o (fun q => S.s3_2 (q ▸ hc)) e)
  have t3_3 : St3 (i + 1) g3 := D3.frame _ _ _ n3 fun c hc o e => hs3.extBut c o (fun q => S.T3 (q ▸ hc)) e
  have k3 : ∀ c o, c ≠ z → c ≠ TO → c ≠ i1 → c ≠ i2 → c ≠ i3 → hp.get? c = some o → g3.get? c = some o := fun c o qz qT q1 q2 q3 e => hs3.extBut c o qT (hd3.extBut c o q3 (k2 c o qz qT q1 q2 q3 e))
  have e3 : g3.objs.size = g2.objs.size := by rw [hs3.1, hd3.1]
  refine wpAny_bind (wpAny_letGo (wpAny_pure ?_))
  refine wpAny_pure ?_
  refine wpAny_bind (wpAny_seqItems (s := ⟨g3, g, d, tk3, os⟩) hT3 rfl ?_)
  refine wpAny_bind (wpAny_newTuple ?_)
  have hsz : g3.objs.size = hp.objs.size := by rw [e3, e2, e1, hs0.1]
  have hlt : z < g3.objs.size := Heap.lt_size hz3
  refine wpAny_bind ?_
  unfold Builtin.SmallTypes.ownedTupleHandOut
  have hy : ZipO (g3.push { cls := .type "tuple", data := .seq #[x1, x2, x3] }) z TI TO .ellipsis b := Heap.get?_push_of_some _ hz3
  refine wpAny_bind (wpAny_setField_rec hy (by simp) fun u1 hu1 hv1 => wpAny_setField_rec hu1 (by simp) fun u2 hu2 hv2 => ?_)
  have up : ∀ c o, c ≠ z → g3.get? c = some o → u2.get? c = some o := fun c o q e => hv2.extBut c o q (hv1.extBut c o q (Heap.get?_push_of_some _ e))
  have hN : TupO u2 g3.objs.size #[x1, x2, x3] := hv2.extBut _ _ (Nat.ne_of_gt hlt) (hv1.extBut _ _ (Nat.ne_of_gt hlt) (Heap.get?_push_size _ rfl))
  have hZ : ZipO u2 z TI TO (rawInt g3.objs.size) b := hu2
  rw [hsz] at hN hZ
  refine wpAny_pure ⟨_, rfl, ?_⟩
  show Q (.ref g3.objs.size) ⟨u2, g, d, tk3, os⟩
  rw [hsz]
  exact hQ x1 x2 x3 u2 tk3 p1 p2 p3 hZ (up _ _ S.zTO.symm hT3) (D1.frame _ _ _ t1_3 fun c hc o e => up c o (fun q => S.z1 (q ▸ hc)) e) (D2.frame _ _ _ t2_3 fun c hc o e => up c o (fun q => S.z2 (q ▸ hc)) e) (D3.frame _ _ _ t3_3 fun c hc o e => up c o (fun q => S.z3 (q ▸ hc)) e) hN fun c o qz qT q1 q2 q3 e => up c o qz (k3 c o qz qT q1 q2 q3 e)
theorem next_end3 {z TI TO i1 i2 i3 : Addr} {fp1 fp2 fp3 : List Addr} {n : Nat} {P1 P2 P3 : Nat → Value → Prop} {St1 St2 St3 : Nat → Heap → Prop} {a1 a2 a3 : Value} {Q : Fin → Shared → Prop} (hh : A.handled = none) (S : Sep3 z TI TO i1 i2 i3 fp1 fp2 fp3) (D1 : Draws prog w A i1 fp1 n P1 St1) (D2 : Draws prog w A i2 fp2 n P2 St2) (D3 : Draws prog w A i3 fp3 n P3 St3)
    (hz : ZipO s.heap z TI TO .none b) (hTI : TupO s.heap TI #[.ref i1, .ref i2, .ref i3]) (hTO : TupO s.heap TO #[a1, a2, a3]) (st1 : St1 n s.heap) (st2 : St2 n s.heap) (st3 : St3 n s.heap)
    (hE : ∀ h' e, (∀ c o, c ≠ z → c ≠ TO → c ≠ i1 → c ≠ i2 → c ≠ i3 → s.heap.get? c = some o → h'.get? c = some o) → (∃ o, h'.get? e = some o ∧ o.cls = .type "StopIteration") → E (.ref e) { s with heap := h' }) :
    wpAny (model prog w) A (Builtin.«zip.__next__» ⟨[.ref z], []⟩) Q E s := by
  obtain ⟨hp, g, d, tk0, os⟩ := s
  refine wpAny_bind (m := field (.ref z) 2) (wpAny_field hz rfl (x := .bool b) rfl ?_)
  refine wpAny_bind (m := field (.ref z) 3) (wpAny_field hz rfl (x := .ref TI) rfl ?_)
  refine wpAny_bind (wpAny_seqItems hTI rfl ?_)
  show wpAny _ _ (Builtin.SmallTypes.ownedTupleIsFree (.ref z) >>= _) _ _ _
  rw [val_b]
  refine wpAny_bind ?_
  unfold Builtin.SmallTypes.ownedTupleIsFree
  refine wpAny_bind (wpAny_field hz rfl (x := .none) rfl (wpAny_pure ?_))
  simp only [if_true]
  refine wpAny_bind (wpAny_rule (wpAny_bind (wpAny_field hz rfl (x := .ref TO) rfl ?_)))
  refine wpAny_bind (wpAny_setField_rec hz (by simp) fun g0 hz0 hs0 => wpAny_bind ?_)
  replace hs0 : Heap.SameBut z hp g0 := hs0
  replace hz0 : ZipO g0 z TI TO .ellipsis b := hz0
  have t1_0 : St1 n g0 := D1.frame _ _ _ st1 fun c hc o e => hs0.extBut c o (fun q => S.z1 (q ▸ hc)) e
  have t2_0 : St2 n g0 := D2.frame _ _ _ st2 fun c hc o e => hs0.extBut c o (fun q => S.z2 (q ▸ hc)) e
  have t3_0 : St3 n g0 := D3.frame _ _ _ st3 fun c hc o e => hs0.extBut c o (fun q => S.z3 (q ▸ hc)) e
  simp only [List.zipIdx_cons, List.zipIdx_nil, List.forIn_cons, List.forIn_nil]
  refine wpAny_bind (wpAny_bind (wpAny_onRaise ?_))
  cases b with
  | false =>
    refine wpAny_bind (m := Builtin.SmallTypes.nextOf (.ref i1)) (D1.done ⟨g0, g, d, tk0, os⟩ _ _ t1_0 fun y e hy he => ?_)
    replace hy : Heap.ExtBut i1 g0 y := hy
    obtain ⟨oe, hoe, hce⟩ := he
    replace hoe : y.get? e = some oe := hoe
    have hzy : ZipO y z TI TO .ellipsis false := hy _ _ (fun q => S.z1 (q ▸ S.m1)) hz0
    have hez : e ≠ z := fun x => by subst x; rw [hzy] at hoe; cases hoe; simp at hce
    refine wpAny_setField_rec (s := ⟨y, g, d, tk0, os⟩) hzy (by simp) fun y2 _ hv => ?_
    replace hv : Heap.SameBut z y y2 := hv
    exact hE y2 e (fun c o qz qT q1 q2 q3 x => hv.extBut c o qz (hy c o q1 (hs0.extBut c o qz x))) ⟨oe, hv.extBut _ _ hez hoe, hce⟩
  | true =>
    refine zend_strict (s := ⟨g0, g, d, tk0, os⟩) D1 t1_0 fun y hy => ?_
    replace hy : Heap.ExtBut i1 g0 y := hy
    have hzy : ZipO y z TI TO .ellipsis true := hy _ _ (fun q => S.z1 (q ▸ S.m1)) hz0
    have t2_1 : St2 n y := D2.frame _ _ _ t2_0 fun c hc o e => hy c o (fun q => S.s1_2 (q ▸ hc)) e
    have t3_1 : St3 n y := D3.frame _ _ _ t3_0 fun c hc o e => hy c o (fun q => S.s1_3 (q ▸ hc)) e
    refine wpAny_bind (wpAny_setField_rec (s := ⟨y, g, d, tk0, os⟩) hzy (by simp) fun y1 _ hv1 => ?_)
    replace hv1 : Heap.SameBut z y y1 := hv1
    have r2_1 : St2 n y1 := D2.frame _ _ _ t2_1 fun c hc o e => hv1.extBut c o (fun q => S.z2 (q ▸ hc)) e
    have r3_1 : St3 n y1 := D3.frame _ _ _ t3_1 fun c hc o e => hv1.extBut c o (fun q => S.z3 (q ▸ hc)) e
    have k1 : ∀ c o, c ≠ z → c ≠ TO → c ≠ i1 → c ≠ i2 → c ≠ i3 → hp.get? c = some o → y1.get? c = some o := fun c o qz qT q1 q2 q3 e => hv1.extBut c o qz (hy c o q1 (hs0.extBut c o qz e))
    refine wpAny_bind ?_
    refine wpAny_bind ?_
    simp only [List.drop_succ_cons, List.drop_zero, List.zipIdx_cons, List.zipIdx_nil, List.forIn_cons, List.forIn_nil]
    refine wpAny_bind (wpAny_bind (zend_strict (s := ⟨y1, g, d, tk0, os⟩) D2 r2_1 fun y2 hy2 => ?_))
    replace hy2 : Heap.ExtBut i2 y1 y2 := hy2
    have k2 : ∀ c o, c ≠ z → c ≠ TO → c ≠ i1 → c ≠ i2 → c ≠ i3 → hp.get? c = some o → y2.get? c = some o := fun c o qz qT q1 q2 q3 e => hy2 c o q2 (k1 c o qz qT q1 q2 q3 e)
    have r3_2 : St3 n y2 := D3.frame _ _ _ r3_1 fun c hc o e => hy2 c o (fun q => S.s2_3 (q ▸ hc)) e
    refine wpAny_pure ?_
    refine wpAny_bind (wpAny_bind (zend_strict (s := ⟨y2, g, d, tk0, os⟩) D3 r3_2 fun y3 hy3 => ?_))
    replace hy3 : Heap.ExtBut i3 y2 y3 := hy3
    have k3 : ∀ c o, c ≠ z → c ≠ TO → c ≠ i1 → c ≠ i2 → c ≠ i3 → hp.get? c = some o → y3.get? c = some o := fun c o qz qT q1 q2 q3 e => hy3 c o q3 (k2 c o qz qT q1 q2 q3 e)
    refine wpAny_pure ?_
    refine wpAny_pure ?_
    exact wpAny_bind (wpAny_rule (stop_it (s := ⟨y3, g, d, tk0, os⟩) hh fun h2 e kk he => hE h2 e (fun c o qz qT q1 q2 q3 x => kk c o (k3 c o qz qT q1 q2 q3 x)) he))
theorem py_item3 {z TI TO i1 i2 i3 : Addr} {fp1 fp2 fp3 : List Addr} {n1 n2 n3 i : Nat} {P1 P2 P3 : Nat → Value → Prop} {St1 St2 St3 : Nat → Heap → Prop} {a1 a2 a3 : Value} {Q : Option Value → Shared → Prop} (S : Sep3 z TI TO i1 i2 i3 fp1 fp2 fp3) (D1 : Draws prog w A.in1 i1 fp1 n1 P1 St1) (D2 : Draws prog w A.in1 i2 fp2 n2 P2 St2) (D3 : Draws prog w A.in1 i3 fp3 n3 P3 St3)
    (hz : ZipO s.heap z TI TO .none b) (hTI : TupO s.heap TI #[.ref i1, .ref i2, .ref i3]) (hTO : TupO s.heap TO #[a1, a2, a3]) (st1 : St1 i s.heap) (st2 : St2 i s.heap) (st3 : St3 i s.heap) (hi1 : i < n1) (hi2 : i < n2) (hi3 : i < n3)
    (hQ : ∀ x1 x2 x3 h' tk, P1 i x1 → P2 i x2 → P3 i x3 → ZipO h' z TI TO (rawInt s.heap.objs.size) b → TupO h' TO #[x1, x2, x3] → St1 (i + 1) h' → St2 (i + 1) h' → St3 (i + 1) h' → TupO h' s.heap.objs.size #[x1, x2, x3] →
      (∀ c o, c ≠ z → c ≠ TO → c ≠ i1 → c ≠ i2 → c ≠ i3 → s.heap.get? c = some o → h'.get? c = some o) → Q (some (.ref s.heap.objs.size)) { s with heap := h', toks := tk }) : wpAny (model prog w) A (pyNext (.ref z)) Q E s := by
  have hT : s.TypeIs (.ref z) "zip" := ⟨_, hz, rfl⟩
  unfold pyNext
  refine wpAny_bind (wpAny_attempt (wpAny_callSpecial?_slot (name := Str.ofString "__next__") hT F.slot_zip_next (wpAny_call_entry F.slot_zip_next hT F.entry_zip_next ?_ (F.args_zip_next_1 _))))
  exact next_item3 S D1 D2 D3 hz hTI hTO st1 st2 st3 hi1 hi2 hi3 fun x1 x2 x3 h2 tk p1 p2 p3 q1 q2 u1 u2 u3 q3 q4 => wpAny_pure (hQ x1 x2 x3 h2 tk p1 p2 p3 q1 q2 u1 u2 u3 q3 q4)
theorem py_end3 {z TI TO i1 i2 i3 : Addr} {fp1 fp2 fp3 : List Addr} {n : Nat} {P1 P2 P3 : Nat → Value → Prop} {St1 St2 St3 : Nat → Heap → Prop} {a1 a2 a3 : Value} {Q : Option Value → Shared → Prop} (hh : A.handled = none) (S : Sep3 z TI TO i1 i2 i3 fp1 fp2 fp3) (D1 : Draws prog w A.in1 i1 fp1 n P1 St1) (D2 : Draws prog w A.in1 i2 fp2 n P2 St2) (D3 : Draws prog w A.in1 i3 fp3 n P3 St3)
    (hz : ZipO s.heap z TI TO .none b) (hTI : TupO s.heap TI #[.ref i1, .ref i2, .ref i3]) (hTO : TupO s.heap TO #[a1, a2, a3]) (st1 : St1 n s.heap) (st2 : St2 n s.heap) (st3 : St3 n s.heap)
    (hQ : ∀ h', (∀ c o, c ≠ z → c ≠ TO → c ≠ i1 → c ≠ i2 → c ≠ i3 → s.heap.get? c = some o → h'.get? c = some o) → Q none { s with heap := h' }) : wpAny (model prog w) A (pyNext (.ref z)) Q E s := by
  have hT : s.TypeIs (.ref z) "zip" := ⟨_, hz, rfl⟩
  unfold pyNext
  refine wpAny_bind (wpAny_attempt (wpAny_callSpecial?_slot (name := Str.ofString "__next__") hT F.slot_zip_next (wpAny_call_entry F.slot_zip_next hT F.entry_zip_next ?_ (F.args_zip_next_1 _))))
  refine next_end3 (A := A.in1) hh S D1 D2 D3 hz hTI hTO st1 st2 st3 fun h2 e kk he => ?_
  obtain ⟨o, ho, hc⟩ := he
  exact wpAny_bind (wpAny_isInstance (T := "StopIteration") (b := true) ⟨o, ho, hc⟩ isSubtype_stop (wpAny_pure (hQ _ kk)))
theorem typeCall_strict3 (v1 v2 v3 x : Value) : checkTypeCall "zip" ⟨[v1, v2, v3], [(Str.ofString "strict", x)]⟩ = pure () := by kernel_rfl
theorem newCall_strict3 (v1 v2 v3 x : Value) : checkBuiltinCall "zip.__new__" ⟨[.type "zip", v1, v2, v3], [(Str.ofString "strict", x)]⟩ = pure () := by kernel_rfl
theorem initArgs_strict3 (obj v1 v2 v3 x : Value) : argsOk "object.__init__" ⟨[obj, v1, v2, v3], [(Str.ofString "strict", x)]⟩ := by unfold argsOk; kernel_rfl
abbrev sT3 (h : Heap) (o1 o2 o3 : Obj) : Heap := ((((h.push o1).push o2).push o3).push { cls := .type "tuple", data := .seq #[.ref h.objs.size, .ref (h.push o1).objs.size, .ref ((h.push o1).push o2).objs.size] })
abbrev sO3 (h : Heap) (o1 o2 o3 : Obj) : Heap := (sT3 h o1 o2 o3).push { cls := .type "tuple", data := .seq #[.none, .none, .none] }
abbrev sZ3 (h : Heap) (o1 o2 o3 : Obj) : Heap := (sO3 h o1 o2 o3).push { cls := .type "zip", data := .fields #[.none, .bool false, .bool true, .ref (((h.push o1).push o2).push o3).objs.size, .ref (sT3 h o1 o2 o3).objs.size] }
theorem meets_strict3 {v1 v2 v3 : Value} {o1 o2 o3 : Obj} {G1 G2 G3 : Heap → Prop} (B1 : Begins v1 o1 G1) (B2 : Begins v2 o2 G2) (B3 : Begins v3 o3 G3) :
    Meets (Builtin.«zip.__new__» ⟨[.type "zip", v1, v2, v3], [(Str.ofString "strict", .bool true)]⟩) (fun _ R s => (G1 s.heap ∧ G2 s.heap ∧ G3 s.heap) ∧ R (.ok (.ret (.ref (sO3 s.heap o1 o2 o3).objs.size))) { s with heap := (sZ3 s.heap o1 o2 o3) }) :=
  .of_wp fun prog w A R s h => by
    obtain ⟨hp, g, d, tk, os⟩ := s
    obtain ⟨⟨h1, h2, h3⟩, h⟩ := h
    have hsub := sub_zip
    have e1 : (Str.ofString "strict" != ("strict" : Str)) = false := by decide +kernel
    have w1 : ∀ {A' : Around} {E : Value → Shared → Prop} {Q : Value → Shared → Prop}, Q (.ref hp.objs.size) ⟨(hp.push o1), g, d, tk, os⟩ → wpAny (model prog w) A' (pyIter v1) Q E ⟨hp, g, d, tk, os⟩ := fun q => B1.iter prog w _ _ ⟨hp, g, d, tk, os⟩ _ (B1.keeps _ _ h1 fun c u e => e) q
    have w2 : ∀ {A' : Around} {E : Value → Shared → Prop} {Q : Value → Shared → Prop}, Q (.ref (hp.push o1).objs.size) ⟨((hp.push o1).push o2), g, d, tk, os⟩ → wpAny (model prog w) A' (pyIter v2) Q E ⟨(hp.push o1), g, d, tk, os⟩ := fun q => B2.iter prog w _ _ ⟨(hp.push o1), g, d, tk, os⟩ _ (B2.keeps _ _ h2 fun c u e => (Heap.get?_push_of_some _ e)) q
    have w3 : ∀ {A' : Around} {E : Value → Shared → Prop} {Q : Value → Shared → Prop}, Q (.ref ((hp.push o1).push o2).objs.size) ⟨(((hp.push o1).push o2).push o3), g, d, tk, os⟩ → wpAny (model prog w) A' (pyIter v3) Q E ⟨((hp.push o1).push o2), g, d, tk, os⟩ := fun q => B3.iter prog w _ _ ⟨((hp.push o1).push o2), g, d, tk, os⟩ _ (B3.keeps _ _ h3 fun c u e => (Heap.get?_push_of_some _ (Heap.get?_push_of_some _ e))) q
    wp_walk using w1, w2, w3
    exact ⟨_, rfl, h⟩
/-- zip(.., strict=True) of 3: its new cells -/
theorem begins_strict3 {v1 v2 v3 : Value} {o1 o2 o3 : Obj} {G1 G2 G3 : Heap → Prop} {Q : Value → Shared → Prop} (B1 : Begins v1 o1 G1) (B2 : Begins v2 o2 G2) (B3 : Begins v3 o3 G3) (h1 : G1 s.heap) (h2 : G2 s.heap) (h3 : G3 s.heap)
    (h : ∀ h', ZipO h' (s.heap.objs.size + 5) (s.heap.objs.size + 3) (s.heap.objs.size + 4) .none true → TupO h' (s.heap.objs.size + 3) #[.ref s.heap.objs.size, .ref (s.heap.objs.size + 1), .ref (s.heap.objs.size + 2)] → TupO h' (s.heap.objs.size + 4) #[.none, .none, .none] → h'.get? s.heap.objs.size = some o1 → h'.get? (s.heap.objs.size + 1) = some o2 → h'.get? (s.heap.objs.size + 2) = some o3 → (∀ c o, s.heap.get? c = some o → h'.get? c = some o) → Q (.ref (s.heap.objs.size + 5)) { s with heap := h' }) :
    wpAny (model prog w) A (call (.type "zip") [v1, v2, v3] [(Str.ofString "strict", .bool true)]) Q E s := by
  refine callType_newKw F.called_zip (by decide) (typeCall_strict3 _ _ _ _) (newCall_strict3 _ _ _ _) (fun obj => initArgs_strict3 obj _ _ _ _) F.entry_zip_new (meets_strict3 B1 B2 B3) ⟨⟨h1, h2, h3⟩, ?_⟩
  have z1 : (s.heap.push o1).objs.size = s.heap.objs.size + 1 := by rw [Heap.size_push]
  have z2 : ((s.heap.push o1).push o2).objs.size = s.heap.objs.size + 2 := by rw [Heap.size_push, z1]
  have z3 : (((s.heap.push o1).push o2).push o3).objs.size = s.heap.objs.size + 3 := by rw [Heap.size_push, z2]
  have z4 : (sT3 s.heap o1 o2 o3).objs.size = s.heap.objs.size + 4 := by rw [Heap.size_push, z3]
  have z5 : (sO3 s.heap o1 o2 o3).objs.size = s.heap.objs.size + 5 := by rw [Heap.size_push, z4]
  have z6 : (sZ3 s.heap o1 o2 o3).objs.size = s.heap.objs.size + 6 := by rw [Heap.size_push, z5]
  have q0 : (sZ3 s.heap o1 o2 o3).get? s.heap.objs.size = some o1 := (Heap.get?_push_of_some _ (Heap.get?_push_of_some _ (Heap.get?_push_of_some _ (Heap.get?_push_of_some _ (Heap.get?_push_of_some _ (Heap.get?_push_size _ B1.free))))))
  have q1 : (sZ3 s.heap o1 o2 o3).get? (s.heap.push o1).objs.size = some o2 := (Heap.get?_push_of_some _ (Heap.get?_push_of_some _ (Heap.get?_push_of_some _ (Heap.get?_push_of_some _ (Heap.get?_push_size _ B2.free)))))
  rw [z1] at q1
  have q2 : (sZ3 s.heap o1 o2 o3).get? ((s.heap.push o1).push o2).objs.size = some o3 := (Heap.get?_push_of_some _ (Heap.get?_push_of_some _ (Heap.get?_push_of_some _ (Heap.get?_push_size _ B3.free))))
  rw [z2] at q2
  have q3 : (sZ3 s.heap o1 o2 o3).get? (((s.heap.push o1).push o2).push o3).objs.size = some ({ cls := .type "tuple", data := .seq #[.ref s.heap.objs.size, .ref (s.heap.push o1).objs.size, .ref ((s.heap.push o1).push o2).objs.size] } : Obj) := (Heap.get?_push_of_some _ (Heap.get?_push_of_some _ (Heap.get?_push_size _ rfl)))
  rw [z3] at q3
  have q4 : (sZ3 s.heap o1 o2 o3).get? (sT3 s.heap o1 o2 o3).objs.size = some ({ cls := .type "tuple", data := .seq #[.none, .none, .none] } : Obj) := (Heap.get?_push_of_some _ (Heap.get?_push_size _ rfl))
  rw [z4] at q4
  have q5 : (sZ3 s.heap o1 o2 o3).get? (sO3 s.heap o1 o2 o3).objs.size = some ({ cls := .type "zip", data := .fields #[.none, .bool false, .bool true, .ref (((s.heap.push o1).push o2).push o3).objs.size, .ref (sT3 s.heap o1 o2 o3).objs.size] } : Obj) := (Heap.get?_push_size _ rfl)
  rw [z5] at q5
  rw [z2, z1] at q3
  rw [z4, z3] at q5
  show _ ∧ _
  rw [z5]
  exact ⟨⟨_, q5, rfl⟩, h _ q5 q3 q4 q0 q1 q2 fun c o e => (Heap.get?_push_of_some _ (Heap.get?_push_of_some _ (Heap.get?_push_of_some _ (Heap.get?_push_of_some _ (Heap.get?_push_of_some _ (Heap.get?_push_of_some _ e))))))⟩
end
end CZ

namespace CZ
open PySem PySem.Spec PyProof.Rows L2
/-- a list (false) or a tuple (true) that is read -/
def SqK (K : PySem.W.Frag) (H : Hp) (p : Bool × Addr) (xs : List V) : Prop := if p.1 = true then SqT K H p.2 xs else SqL K H p.2 xs
def SqIt (h : Heap) (it : Addr) (p : Bool × Addr) (i : Nat) : Prop := if p.1 = true then h.IsTupleIter it p.2 i else h.IsListIter it p.2 i
def SeqIs (h : Heap) (p : Bool × Addr) (its : List Value) : Prop := if p.1 = true then h.IsTuple p.2 its.toArray else h.IsList p.2 its.toArray
/-- the iterator's object as it begins -/
def itO (p : Bool × Addr) : Obj := if p.1 = true then { cls := .type "tuple_iterator", data := .fields #[.ref p.2, .int 0 0] } else { cls := .type "list_iterator", data := .fields #[.ref p.2, .int 0 0] }
theorem SqIt.at {h h' : Heap} {it : Addr} {p : Bool × Addr} {i : Nat} (x : SqIt h it p i) (k : ∀ o, h.get? it = some o → h'.get? it = some o) : SqIt h' it p i := by
  obtain ⟨b, a⟩ := p
  cases b
  · exact Heap.IsListIter.at (show h.IsListIter it a i from x) k
  · exact Heap.IsTupleIter.at (show h.IsTupleIter it a i from x) k
theorem SqIt.obj {h : Heap} {it : Addr} {p : Bool × Addr} {i : Nat} (x : SqIt h it p i) : ∃ o, h.get? it = some o ∧ ∀ v, o.data ≠ .cell v := by
  obtain ⟨b, a⟩ := p
  cases b
  · obtain ⟨o, e, _, d⟩ := (show h.IsListIter it a i from x)
    exact ⟨o, e, fun v q => by rw [d] at q; cases q⟩
  · obtain ⟨o, e, _, d⟩ := (show h.IsTupleIter it a i from x)
    exact ⟨o, e, fun v q => by rw [d] at q; cases q⟩
theorem SqIt.begin {h : Heap} {it : Addr} {p : Bool × Addr} (e : h.get? it = some (itO p)) : SqIt h it p 0 := by
  obtain ⟨b, a⟩ := p
  cases b
  · exact ⟨_, e, rfl, rfl⟩
  · exact ⟨_, e, rfl, rfl⟩
theorem begins_of (p : Bool × Addr) (its : List Value) : Begins (.ref p.2) (itO p) (fun h => SeqIs h p its) := by
  obtain ⟨b, a⟩ := p
  cases b
  · exact begins_list a its.toArray
  · exact begins_tuple a its.toArray
theorem draws_of {prog : Program} {w : World} {A : Around} (hh : A.handled = none) (it : Addr) (p : Bool × Addr) (ne : p.2 ≠ it) (its : List Value) :
    Draws prog w A it [it, p.2] its.toArray.size (fun i v => its.toArray[i]? = some v) (fun i h => SqIt h it p i ∧ SeqIs h p its) := by
  obtain ⟨b, a⟩ := p
  cases b
  · exact Draws.list hh it a ne its.toArray
  · exact Draws.tuple hh it a ne its.toArray
section
variable {X : Cx} {pins : List (Addr × Obj)} {σ : L2.St} {H : Hp} {s : Shared} {p : Bool × Addr} {xs ys : List V}
theorem sq_seq (I : Inv X pins σ H s) (h : SqK X.K H p xs) : ∃ its : List Value, Vals xs its ∧ SeqIs s.heap p its ∧ p.2 < s.heap.objs.size := by
  obtain ⟨b, a⟩ := p
  cases b
  · obtain ⟨its, rv, q, _⟩ := I.list (show SqL X.K H a xs from h)
    exact ⟨its, rv, q.isList, q.lt⟩
  · obtain ⟨its, rv, q, _⟩ := I.tuple (show SqT X.K H a xs from h)
    obtain ⟨o, ho, _⟩ := id q
    exact ⟨its, rv, q, Heap.lt_size ho⟩
theorem sq_inj (I : Inv X pins σ H s) (h : SqK X.K H p xs) (h2 : SqK X.K H p ys) : xs = ys := by
  obtain ⟨b, a⟩ := p
  cases b
  · exact I.list_inj (show SqL X.K H a xs from h) h2
  · exact I.tuple_inj (show SqT X.K H a xs from h) h2
end
/-- what a zip of lists and tuples of one length gives -/
def ItZ (K : PySem.W.Frag) (l : List (Bool × Addr)) : It :=
  ⟨fun i H => ∃ vs : List V, Paired (fun p v => ∃ xs, SqK K H p xs ∧ xs[i]? = some v) l vs,
    fun i H v H2 => ∃ (T : Addr) (vs : List V), v = .ref T ∧ H T = none ∧ H2 = upd H T (.tup vs) ∧ Paired (fun p v => ∀ xs, SqK K H p xs → xs[i]? = some v) l vs,
    fun i H => ∀ p ∈ l, ∃ xs, SqK K H p xs ∧ xs.length = i⟩
def YRow (xss : List (List V)) : Nat → Hp → V → Hp → Prop := fun i H v H2 => ∃ (T : Addr) (vs : List V), v = .ref T ∧ H T = none ∧ H2 = upd H T (.tup vs) ∧ Paired (fun (xs : List V) v => xs[i]? = some v) xss vs
theorem pair_go {K : PySem.W.Frag} {H : Hp} {i : Nat} : ∀ {l : List (Bool × Addr)} {xss : List (List V)}, Paired (fun p xs => SqK K H p xs) l xss → (∀ xs ∈ xss, i < xs.length) → ∃ vs, Paired (fun p v => ∃ xs, SqK K H p xs ∧ xs[i]? = some v) l vs
  | _, _, .nil, _ => ⟨[], .nil⟩
  | _, _, .cons (b := xs) r t, h => by
    obtain ⟨vs, q⟩ := pair_go t fun ys hy => h ys (List.mem_cons_of_mem _ hy)
    have hi := h xs List.mem_cons_self
    exact ⟨xs[i] :: vs, .cons ⟨xs, r, List.getElem?_eq_getElem hi⟩ q⟩
theorem pair_row {K : PySem.W.Frag} {H : Hp} {i : Nat} : ∀ {l : List (Bool × Addr)} {xss : List (List V)} {vs : List V}, Paired (fun p xs => SqK K H p xs) l xss → Paired (fun p v => ∀ xs, SqK K H p xs → xs[i]? = some v) l vs → Paired (fun (xs : List V) v => xs[i]? = some v) xss vs
  | _, _, _, .nil, .nil => .nil
  | _, _, _, .cons r t, .cons q u => .cons (q _ r) (pair_row t u)
theorem pair_stop {K : PySem.W.Frag} {H : Hp} {n : Nat} : ∀ {l : List (Bool × Addr)} {xss : List (List V)}, Paired (fun p xs => SqK K H p xs) l xss → (∀ xs ∈ xss, xs.length = n) → ∀ p ∈ l, ∃ xs, SqK K H p xs ∧ xs.length = n
  | _, _, .nil, _, _, hp => nomatch hp
  | _, _, .cons r t, h, p, hp => by
    rcases List.mem_cons.mp hp with e | hp
    · rw [e]
      exact ⟨_, r, h _ List.mem_cons_self⟩
    · exact pair_stop t (fun ys hy => h ys (List.mem_cons_of_mem _ hy)) p hp
theorem walk_rows {K : PySem.W.Frag} {l : List (Bool × Addr)} {xss : List (List V)} {n : Nat} (hn : ∀ xs ∈ xss, xs.length = n) : Walk (ItZ K l) n (fun H => Paired (fun p xs => SqK K H p xs) l xss) (YRow xss) :=
  ⟨fun i H hi q => pair_go q fun xs hx => by rw [hn xs hx]; exact hi, fun H q => pair_stop q hn, fun i H x H2 _ q y => by
    obtain ⟨T, vs, h1, h2, h3, h4⟩ := y
    exact ⟨T, vs, h1, h2, h3, pair_row q h4⟩⟩
/-- the reading of zip(..): which are tuples is told by the flags -/
def iZ (K : PySem.W.Frag) (fl : List Bool) (ta : TA) : TI := fun σ H R => ta σ H fun vs H1 => ∃ l : List Addr, vs = l.map V.ref ∧ l.length = fl.length ∧ (∀ p ∈ fl.zip l, ∃ xs, SqK K H1 p xs) ∧ R (ItZ K (fl.zip l)) H1
theorem nin_new {M a : Nat} (j k : Nat) (h : a < M) (hjk : j ≠ k) : M + j ∉ [M + k, a] := by
  simp only [List.mem_cons, List.mem_nil_iff, or_false, not_or]
  omega
theorem looks_ty {M : Model} {h : Heap} (T : String) (_ : True) : ∃ k, (k = Keeper.frame ∨ k = Keeper.machine ∨ k = Keeper.boundFrame) ∧ PySem.W.Looks M h (keeperOf (.type T)) k := ⟨_, .inr (.inl rfl), PySem.W.Looks.of_pure rfl⟩
end CZ

namespace CZ
open PySem PySem.Spec PyProof.Rows L2
theorem turn_z2 {P : Program} {w : World} {K : PySem.W.Frag} {elts : List Expr} {kk : Nat} {tpos : Pos} {z TI TO i1 i2 : Addr} {p1 p2 : Bool × Addr} {b : Bool} (S : Sep2 z TI TO i1 i2 [i1, p1.2] [i2, p2.2]) (ne1 : p1.2 ≠ i1) (ne2 : p2.2 ≠ i2) :
    Turn P w K (.Tuple elts kk tpos) (ItZ K [p1, p2]) [z, TI, TO, i1, i2] z (fun i h => ZipO h z TI TO .none b ∧ TupO h TI #[.ref i1, .ref i2] ∧ (∃ a1 a2, TupO h TO #[a1, a2]) ∧ SqIt h i1 p1 i ∧ SqIt h i2 p2 i) where
  mem := by simp
  obj := fun i h st c hc => by
    obtain ⟨hz, hTI, ⟨a1, a2, hTO⟩, h1, h2⟩ := st
    have e : c = z ∨ c = TI ∨ c = TO ∨ c = i1 ∨ c = i2 := by simpa using hc
    rcases e with q | q | q | q | q
    · rw [q]; exact ⟨_, hz, fun v q => nomatch q⟩
    · rw [q]; exact ⟨_, hTI, fun v q => nomatch q⟩
    · rw [q]; exact ⟨_, hTO, fun v q => nomatch q⟩
    · rw [q]; exact h1.obj
    · rw [q]; exact h2.obj
  keep := fun i h h2 st k => by
    obtain ⟨hz, hTI, ⟨a1, a2, hTO⟩, h1, h2⟩ := st
    exact ⟨k z (by simp) _ hz, k TI (by simp) _ hTI, ⟨a1, a2, k TO (by simp) _ hTO⟩, h1.at fun o q => k i1 (by simp) o q, h2.at fun o q => k i2 (by simp) o q⟩
  item := by
    intro X hP hw hK hc i pins s σ H E I hf st hg
    subst hP hw hK
    obtain ⟨hz, hTI, ⟨a1, a2, hTO⟩, h1, h2⟩ := st
    obtain ⟨vs, hv⟩ := hg
    cases hv with
    | cons r1 hv1 =>
      rename_i v1 ws1
      obtain ⟨xs1, hq1, hx1⟩ := r1
      obtain ⟨its1, rv1, q1, _⟩ := sq_seq I hq1
      obtain ⟨u1, hu1, ru1⟩ := rv1.get hx1
      have g1 : its1.toArray[i]? = some u1 := by simpa using hu1
      have l1 : i < its1.toArray.size := by have := (List.getElem?_eq_some_iff.mp hu1).1; simpa using this
      cases hv1 with
      | cons r2 hv2 =>
        rename_i v2 ws2
        obtain ⟨xs2, hq2, hx2⟩ := r2
        obtain ⟨its2, rv2, q2, _⟩ := sq_seq I hq2
        obtain ⟨u2, hu2, ru2⟩ := rv2.get hx2
        have g2 : its2.toArray[i]? = some u2 := by simpa using hu2
        have l2 : i < its2.toArray.size := by have := (List.getElem?_eq_some_iff.mp hu2).1; simpa using this
        cases hv2
        have hzl : z < s.heap.objs.size := Heap.lt_size hz
        refine py_item2 S (draws_of (A := X.A.in1) (I.ok.hd hc) i1 p1 ne1 its1) (draws_of (A := X.A.in1) (I.ok.hd hc) i2 p2 ne2 its2) hz hTI hTO ⟨h1, q1⟩ ⟨h2, q2⟩ l1 l2 fun x1 x2 hA tk y1 y2 z2 TO2 n1 n2 hT hk => ?_
        obtain rfl : u1 = x1 := Option.some.inj (g1.symm.trans y1)
        obtain rfl : u2 = x2 := Option.some.inj (g2.symm.trans y2)
        refine ⟨_, rfl, go_zip (s := { s with heap := hA, toks := tk }) z2 fun hB z3 sb => ?_⟩
        replace sb : Heap.SameBut z hA hB := sb
        have hT2 : hB.get? s.heap.objs.size = some { cls := .type "tuple", data := .seq #[u1, u2] } := (sb.2 _ (Nat.ne_of_gt hzl)).trans hT
        have new : ObjOk X.prog X.w (upd H s.heap.objs.size (.tup [v1, v2])) hB s.heap.objs.size (.tup [v1, v2]) := ⟨by show 2 ≤ sizeLine; decide, [u1, u2], (.cons ru1 (.cons ru2 .nil)), ⟨_, hT2, rfl, _, rfl⟩⟩
        have I1 : Inv X pins σ (upd H s.heap.objs.size (.tup [v1, v2])) { s with heap := hB, toks := tk } := I.turnedNew (t' := tk) (ch := [z, TI, TO, i1, i2]) (fun c o hb q => (sb.2 c (fun q => hb (by simp [q]))).trans (hk c o (fun q => hb (by simp [q])) (fun q => hb (by simp [q])) (fun q => hb (by simp [q])) (fun q => hb (by simp [q])) q)) hf (Nat.le_refl _) new
        refine ⟨.ref s.heap.objs.size, _, I1, rfl, ⟨_, _, rfl, I.hok.fresh (Nat.le_refl _), rfl, (.cons (fun l hl => by rw [sq_inj I hl hq1]; exact hx1) (.cons (fun l hl => by rw [sq_inj I hl hq2]; exact hx2) .nil))⟩, ⟨z3, (sb.2 _ S.zTI.symm).trans (hk _ _ S.zTI.symm S.TOTI.symm S.I1 S.I2 hTI), ⟨u1, u2, (sb.2 _ S.zTO.symm).trans TO2⟩, (n1.1.at fun o q => (sb.2 _ (fun q => S.z1 (by rw [← q]; exact S.m1))).trans q), (n2.1.at fun o q => (sb.2 _ (fun q => S.z2 (by rw [← q]; exact S.m2))).trans q)⟩, fun c hcm => ?_⟩
        have hlt : c < s.heap.objs.size := by
          have e : c = z ∨ c = TI ∨ c = TO ∨ c = i1 ∨ c = i2 := by simpa using hcm
          rcases e with q | q | q | q | q
          · rw [q]; exact hzl
          · rw [q]; exact Heap.lt_size hTI
          · rw [q]; exact Heap.lt_size hTO
          · rw [q]; obtain ⟨_, e1, _⟩ := h1.obj; exact Heap.lt_size e1
          · rw [q]; obtain ⟨_, e1, _⟩ := h2.obj; exact Heap.lt_size e1
        rw [upd_ne (Nat.ne_of_lt hlt)]
        exact (hf c hcm).1
  done := by
    intro X hP hw hK hc i pins s σ H E I hf st hg
    subst hP hw hK
    obtain ⟨hz, hTI, ⟨a1, a2, hTO⟩, h1, h2⟩ := st
    obtain ⟨xs1, hq1, hx1⟩ := hg p1 (by simp)
    obtain ⟨its1, rv1, q1, _⟩ := sq_seq I hq1
    have l1 : its1.toArray.size = i := by have := rv1.length; simp; omega
    have D1 := draws_of (prog := X.prog) (w := X.w) (A := X.A.in1) (I.ok.hd hc) i1 p1 ne1 its1
    rw [l1] at D1
    obtain ⟨xs2, hq2, hx2⟩ := hg p2 (by simp)
    obtain ⟨its2, rv2, q2, _⟩ := sq_seq I hq2
    have l2 : its2.toArray.size = i := by have := rv2.length; simp; omega
    have D2 := draws_of (prog := X.prog) (w := X.w) (A := X.A.in1) (I.ok.hd hc) i2 p2 ne2 its2
    rw [l2] at D2
    exact py_end2 (I.ok.hd hc) S D1 D2 hz hTI hTO ⟨h1, q1⟩ ⟨h2, q2⟩ fun h2 hk => ⟨rfl, I.turnedL (t' := s.toks) (ch := [z, TI, TO, i1, i2]) (fun c o hb q => hk c o (fun q => hb (by simp [q])) (fun q => hb (by simp [q])) (fun q => hb (by simp [q])) (fun q => hb (by simp [q])) q) hf⟩
  self := fun A i s Q E st h => iter_zip st.1 h
theorem sep_new2 {M : Nat} {p1 p2 : Bool × Addr} (h1 : p1.2 < M) (h2 : p2.2 < M) : Sep2 (M + 4) (M + 2) (M + 3) M (M + 1) [M, p1.2] [M + 1, p2.2] where
  zTO := by show (M + 4 : Nat) ≠ M + 3; omega
  zTI := by show (M + 4 : Nat) ≠ M + 2; omega
  TOTI := by show (M + 3 : Nat) ≠ M + 2; omega
  m1 := by simp
  z1 := nin_new (a := p1.2) 4 0 h1 (by decide)
  T1 := nin_new (a := p1.2) 3 0 h1 (by decide)
  I1 := by show (M + 2 : Nat) ≠ M; omega
  s2_1 := nin_new (a := p1.2) 1 0 h1 (by decide)
  m2 := by simp
  z2 := nin_new (a := p2.2) 4 1 h2 (by decide)
  T2 := nin_new (a := p2.2) 3 1 h2 (by decide)
  I2 := by show (M + 2 : Nat) ≠ M + 1; omega
  s1_2 := nin_new (a := p2.2) 0 1 h2 (by decide)
theorem pi_z2s {X : Cx} {e1 e2 : Expr} {ta : TA} {p pos tpos : Pos} {elts : List Expr} {kk : Nat} {jj : Nat} {kp kp2 : Pos} {fl : List Bool} (hfl : fl.length = 2) (hg : Gl X "zip") (hm : X.mg "zip" = none) (ha : PA X [e1, e2] ta)
    (hs : starEach [e1, e2] X.env = (false, eval e1 X.env) :: starEach [e2] X.env := by rfl) (hpl : (backTo pos (starEach [e2] X.env)).any (·.1) = false := by rfl) :
    PI X (.Tuple elts kk tpos) (.Call (.Name "zip" p) [e1, e2] [⟨some "strict", .Constant (.bool true) jj kp, kp2⟩] pos) (iZ X.K fl ta) := by
  refine ⟨fun pins s σ H R I h => ?_⟩
  refine wpAny_Call_Name_kw (ld_blt I hg hm PyProof.Rows.boot_zip ?_)
  refine PySem.W.callWith_of (P := fun _ => True) ?_ (fun h _ => looks_ty "zip" True.intro) ?_
  · show ((backTo pos (starEach _ X.env)).any (·.1) || false) = false
    rw [hs, Bool.or_false]
    exact hpl
  have he : backTo pos (starEach [e1, e2] X.env) = (false, eval e1 X.env) :: backTo pos (starEach [e2] X.env) := by rw [hs]; rfl
  rw [he]
  refine PyProof.Rows.evalArgs_kwB rfl ?_
  rw [← he]
  refine thn (ha.run pos pins s σ H _ I h) fun us s0 ⟨vs, H1, I0, r1, q1⟩ => ?_
  refine PyProof.Rows.kws_cons (Constant_bool (PyProof.Rows.kws_nil ⟨True.intro, ?_⟩))
  have I1 := I0
  obtain ⟨l, ev, el, hl, q1⟩ := q1
  subst ev
  obtain ⟨b1, b2, rfl⟩ : ∃ b1 b2 : Bool, fl = [b1, b2] := match fl, hfl with | [_, _], _ => ⟨_, _, rfl⟩
  obtain ⟨c1, c2, rfl⟩ : ∃ c1 c2 : Addr, l = [c1, c2] := match l, el with | [_, _], _ => ⟨_, _, rfl⟩
  cases r1 with
  | cons r_1 rr1 =>
    cases r_1
    cases rr1 with
    | cons r_2 rr2 =>
      cases r_2
      cases rr2
      obtain ⟨xs1, hq1⟩ := hl (b1, c1) (by simp)
      obtain ⟨its1, rv1, g1, lt1⟩ := sq_seq I1 hq1
      obtain ⟨xs2, hq2⟩ := hl (b2, c2) (by simp)
      obtain ⟨its2, rv2, g2, lt2⟩ := sq_seq I1 hq2
      have frs : ∀ c, c ∈ [s0.heap.objs.size + 4, s0.heap.objs.size + 2, s0.heap.objs.size + 3, s0.heap.objs.size, s0.heap.objs.size + 1] → FpOk X pins H1 c := fun c hcm => by
        have e : c = s0.heap.objs.size + 4 ∨ c = s0.heap.objs.size + 2 ∨ c = s0.heap.objs.size + 3 ∨ c = s0.heap.objs.size ∨ c = s0.heap.objs.size + 1 := by simpa using hcm
        have hle : s0.heap.objs.size ≤ c := by
          rcases e with q | q | q | q | q
          · rw [q]; exact Nat.le_add_right _ _
          · rw [q]; exact Nat.le_add_right _ _
          · rw [q]; exact Nat.le_add_right _ _
          · rw [q]; exact Nat.le_refl _
          · rw [q]; exact Nat.le_add_right _ _
        exact I1.fpOk hle (I1.hok.fresh hle)
      refine begins_strict2 (begins_of (b1, c1) its1) (begins_of (b2, c2) its2) g1 g2 fun hA hz hTI hTO y1 y2 kk => iter_zip hz ?_
      have I2 : Inv X pins σ H1 { s0 with heap := hA } := I1.kept (t' := s0.toks) kk
      exact ⟨_, [s0.heap.objs.size + 4, s0.heap.objs.size + 2, s0.heap.objs.size + 3, s0.heap.objs.size, s0.heap.objs.size + 1], _, _, H1, rfl, I2, turn_z2 (sep_new2 lt1 lt2) (Nat.ne_of_lt lt1) (Nat.ne_of_lt (Nat.lt_of_lt_of_le lt2 (Nat.le_add_right _ 1))), ⟨hz, hTI, ⟨_, _, hTO⟩, SqIt.begin y1, SqIt.begin y2⟩, frs, q1⟩
theorem pi_z2 {X : Cx} {e1 e2 : Expr} {ta : TA} {p pos tpos : Pos} {elts : List Expr} {kk : Nat} {fl : List Bool} (hfl : fl.length = 2) (hg : Gl X "zip") (hm : X.mg "zip" = none) (ha : PA X [e1, e2] ta)
    (hs : starEach [e1, e2] X.env = (false, eval e1 X.env) :: starEach [e2] X.env := by rfl) (hpl : (backTo pos (starEach [e2] X.env)).any (·.1) = false := by rfl) :
    PI X (.Tuple elts kk tpos) (.Call (.Name "zip" p) [e1, e2] [] pos) (iZ X.K fl ta) := by
  refine ⟨fun pins s σ H R I h => ?_⟩
  refine Call_ (ld_blt I hg hm PyProof.Rows.boot_zip (PyProof.Rows.callWith_type1 (thn (ha.run pos pins s σ H _ I h) fun us s0 ⟨vs, H1, I1, r1, q1⟩ => ?_) hs hpl))
  obtain ⟨l, ev, el, hl, q1⟩ := q1
  subst ev
  obtain ⟨b1, b2, rfl⟩ : ∃ b1 b2 : Bool, fl = [b1, b2] := match fl, hfl with | [_, _], _ => ⟨_, _, rfl⟩
  obtain ⟨c1, c2, rfl⟩ : ∃ c1 c2 : Addr, l = [c1, c2] := match l, el with | [_, _], _ => ⟨_, _, rfl⟩
  cases r1 with
  | cons r_1 rr1 =>
    cases r_1
    cases rr1 with
    | cons r_2 rr2 =>
      cases r_2
      cases rr2
      obtain ⟨xs1, hq1⟩ := hl (b1, c1) (by simp)
      obtain ⟨its1, rv1, g1, lt1⟩ := sq_seq I1 hq1
      obtain ⟨xs2, hq2⟩ := hl (b2, c2) (by simp)
      obtain ⟨its2, rv2, g2, lt2⟩ := sq_seq I1 hq2
      have frs : ∀ c, c ∈ [s0.heap.objs.size + 4, s0.heap.objs.size + 2, s0.heap.objs.size + 3, s0.heap.objs.size, s0.heap.objs.size + 1] → FpOk X pins H1 c := fun c hcm => by
        have e : c = s0.heap.objs.size + 4 ∨ c = s0.heap.objs.size + 2 ∨ c = s0.heap.objs.size + 3 ∨ c = s0.heap.objs.size ∨ c = s0.heap.objs.size + 1 := by simpa using hcm
        have hle : s0.heap.objs.size ≤ c := by
          rcases e with q | q | q | q | q
          · rw [q]; exact Nat.le_add_right _ _
          · rw [q]; exact Nat.le_add_right _ _
          · rw [q]; exact Nat.le_add_right _ _
          · rw [q]; exact Nat.le_refl _
          · rw [q]; exact Nat.le_add_right _ _
        exact I1.fpOk hle (I1.hok.fresh hle)
      refine zip_begins2 (begins_of (b1, c1) its1) (begins_of (b2, c2) its2) g1 g2 fun hA hz hTI hTO y1 y2 _ kk => iter_zip (b := false) hz ?_
      have I2 : Inv X pins σ H1 { s0 with heap := hA } := I1.kept (t' := s0.toks) kk
      exact ⟨_, [s0.heap.objs.size + 4, s0.heap.objs.size + 2, s0.heap.objs.size + 3, s0.heap.objs.size, s0.heap.objs.size + 1], _, _, H1, rfl, I2, turn_z2 (sep_new2 lt1 lt2) (Nat.ne_of_lt lt1) (Nat.ne_of_lt (Nat.lt_of_lt_of_le lt2 (Nat.le_add_right _ 1))), ⟨hz, hTI, ⟨_, _, hTO⟩, SqIt.begin y1, SqIt.begin y2⟩, frs, q1⟩
theorem turn_z3 {P : Program} {w : World} {K : PySem.W.Frag} {elts : List Expr} {kk : Nat} {tpos : Pos} {z TI TO i1 i2 i3 : Addr} {p1 p2 p3 : Bool × Addr} {b : Bool} (S : Sep3 z TI TO i1 i2 i3 [i1, p1.2] [i2, p2.2] [i3, p3.2]) (ne1 : p1.2 ≠ i1) (ne2 : p2.2 ≠ i2) (ne3 : p3.2 ≠ i3) :
    Turn P w K (.Tuple elts kk tpos) (ItZ K [p1, p2, p3]) [z, TI, TO, i1, i2, i3] z (fun i h => ZipO h z TI TO .none b ∧ TupO h TI #[.ref i1, .ref i2, .ref i3] ∧ (∃ a1 a2 a3, TupO h TO #[a1, a2, a3]) ∧ SqIt h i1 p1 i ∧ SqIt h i2 p2 i ∧ SqIt h i3 p3 i) where
  mem := by simp
  obj := fun i h st c hc => by
    obtain ⟨hz, hTI, ⟨a1, a2, a3, hTO⟩, h1, h2, h3⟩ := st
    have e : c = z ∨ c = TI ∨ c = TO ∨ c = i1 ∨ c = i2 ∨ c = i3 := by simpa using hc
    rcases e with q | q | q | q | q | q
    · rw [q]; exact ⟨_, hz, fun v q => nomatch q⟩
    · rw [q]; exact ⟨_, hTI, fun v q => nomatch q⟩
    · rw [q]; exact ⟨_, hTO, fun v q => nomatch q⟩
    · rw [q]; exact h1.obj
    · rw [q]; exact h2.obj
    · rw [q]; exact h3.obj
  keep := fun i h h2 st k => by
    obtain ⟨hz, hTI, ⟨a1, a2, a3, hTO⟩, h1, h2, h3⟩ := st
    exact ⟨k z (by simp) _ hz, k TI (by simp) _ hTI, ⟨a1, a2, a3, k TO (by simp) _ hTO⟩, h1.at fun o q => k i1 (by simp) o q, h2.at fun o q => k i2 (by simp) o q, h3.at fun o q => k i3 (by simp) o q⟩
  item := by
    intro X hP hw hK hc i pins s σ H E I hf st hg
    subst hP hw hK
    obtain ⟨hz, hTI, ⟨a1, a2, a3, hTO⟩, h1, h2, h3⟩ := st
    obtain ⟨vs, hv⟩ := hg
    cases hv with
    | cons r1 hv1 =>
      rename_i v1 ws1
      obtain ⟨xs1, hq1, hx1⟩ := r1
      obtain ⟨its1, rv1, q1, _⟩ := sq_seq I hq1
      obtain ⟨u1, hu1, ru1⟩ := rv1.get hx1
      have g1 : its1.toArray[i]? = some u1 := by simpa using hu1
      have l1 : i < its1.toArray.size := by have := (List.getElem?_eq_some_iff.mp hu1).1; simpa using this
      cases hv1 with
      | cons r2 hv2 =>
        rename_i v2 ws2
        obtain ⟨xs2, hq2, hx2⟩ := r2
        obtain ⟨its2, rv2, q2, _⟩ := sq_seq I hq2
        obtain ⟨u2, hu2, ru2⟩ := rv2.get hx2
        have g2 : its2.toArray[i]? = some u2 := by simpa using hu2
        have l2 : i < its2.toArray.size := by have := (List.getElem?_eq_some_iff.mp hu2).1; simpa using this
        cases hv2 with
        | cons r3 hv3 =>
          rename_i v3 ws3
          obtain ⟨xs3, hq3, hx3⟩ := r3
          obtain ⟨its3, rv3, q3, _⟩ := sq_seq I hq3
          obtain ⟨u3, hu3, ru3⟩ := rv3.get hx3
          have g3 : its3.toArray[i]? = some u3 := by simpa using hu3
          have l3 : i < its3.toArray.size := by have := (List.getElem?_eq_some_iff.mp hu3).1; simpa using this
          cases hv3
          have hzl : z < s.heap.objs.size := Heap.lt_size hz
          refine py_item3 S (draws_of (A := X.A.in1) (I.ok.hd hc) i1 p1 ne1 its1) (draws_of (A := X.A.in1) (I.ok.hd hc) i2 p2 ne2 its2) (draws_of (A := X.A.in1) (I.ok.hd hc) i3 p3 ne3 its3) hz hTI hTO ⟨h1, q1⟩ ⟨h2, q2⟩ ⟨h3, q3⟩ l1 l2 l3 fun x1 x2 x3 hA tk y1 y2 y3 z2 TO2 n1 n2 n3 hT hk => ?_
          obtain rfl : u1 = x1 := Option.some.inj (g1.symm.trans y1)
          obtain rfl : u2 = x2 := Option.some.inj (g2.symm.trans y2)
          obtain rfl : u3 = x3 := Option.some.inj (g3.symm.trans y3)
          refine ⟨_, rfl, go_zip (s := { s with heap := hA, toks := tk }) z2 fun hB z3 sb => ?_⟩
          replace sb : Heap.SameBut z hA hB := sb
          have hT2 : hB.get? s.heap.objs.size = some { cls := .type "tuple", data := .seq #[u1, u2, u3] } := (sb.2 _ (Nat.ne_of_gt hzl)).trans hT
          have new : ObjOk X.prog X.w (upd H s.heap.objs.size (.tup [v1, v2, v3])) hB s.heap.objs.size (.tup [v1, v2, v3]) := ⟨by show 3 ≤ sizeLine; decide, [u1, u2, u3], (.cons ru1 (.cons ru2 (.cons ru3 .nil))), ⟨_, hT2, rfl, _, rfl⟩⟩
          have I1 : Inv X pins σ (upd H s.heap.objs.size (.tup [v1, v2, v3])) { s with heap := hB, toks := tk } := I.turnedNew (t' := tk) (ch := [z, TI, TO, i1, i2, i3]) (fun c o hb q => (sb.2 c (fun q => hb (by simp [q]))).trans (hk c o (fun q => hb (by simp [q])) (fun q => hb (by simp [q])) (fun q => hb (by simp [q])) (fun q => hb (by simp [q])) (fun q => hb (by simp [q])) q)) hf (Nat.le_refl _) new
          refine ⟨.ref s.heap.objs.size, _, I1, rfl, ⟨_, _, rfl, I.hok.fresh (Nat.le_refl _), rfl, (.cons (fun l hl => by rw [sq_inj I hl hq1]; exact hx1) (.cons (fun l hl => by rw [sq_inj I hl hq2]; exact hx2) (.cons (fun l hl => by rw [sq_inj I hl hq3]; exact hx3) .nil)))⟩, ⟨z3, (sb.2 _ S.zTI.symm).trans (hk _ _ S.zTI.symm S.TOTI.symm S.I1 S.I2 S.I3 hTI), ⟨u1, u2, u3, (sb.2 _ S.zTO.symm).trans TO2⟩, (n1.1.at fun o q => (sb.2 _ (fun q => S.z1 (by rw [← q]; exact S.m1))).trans q), (n2.1.at fun o q => (sb.2 _ (fun q => S.z2 (by rw [← q]; exact S.m2))).trans q), (n3.1.at fun o q => (sb.2 _ (fun q => S.z3 (by rw [← q]; exact S.m3))).trans q)⟩, fun c hcm => ?_⟩
          have hlt : c < s.heap.objs.size := by
            have e : c = z ∨ c = TI ∨ c = TO ∨ c = i1 ∨ c = i2 ∨ c = i3 := by simpa using hcm
            rcases e with q | q | q | q | q | q
            · rw [q]; exact hzl
            · rw [q]; exact Heap.lt_size hTI
            · rw [q]; exact Heap.lt_size hTO
            · rw [q]; obtain ⟨_, e1, _⟩ := h1.obj; exact Heap.lt_size e1
            · rw [q]; obtain ⟨_, e1, _⟩ := h2.obj; exact Heap.lt_size e1
            · rw [q]; obtain ⟨_, e1, _⟩ := h3.obj; exact Heap.lt_size e1
          rw [upd_ne (Nat.ne_of_lt hlt)]
          exact (hf c hcm).1
  done := by
    intro X hP hw hK hc i pins s σ H E I hf st hg
    subst hP hw hK
    obtain ⟨hz, hTI, ⟨a1, a2, a3, hTO⟩, h1, h2, h3⟩ := st
    obtain ⟨xs1, hq1, hx1⟩ := hg p1 (by simp)
    obtain ⟨its1, rv1, q1, _⟩ := sq_seq I hq1
    have l1 : its1.toArray.size = i := by have := rv1.length; simp; omega
    have D1 := draws_of (prog := X.prog) (w := X.w) (A := X.A.in1) (I.ok.hd hc) i1 p1 ne1 its1
    rw [l1] at D1
    obtain ⟨xs2, hq2, hx2⟩ := hg p2 (by simp)
    obtain ⟨its2, rv2, q2, _⟩ := sq_seq I hq2
    have l2 : its2.toArray.size = i := by have := rv2.length; simp; omega
    have D2 := draws_of (prog := X.prog) (w := X.w) (A := X.A.in1) (I.ok.hd hc) i2 p2 ne2 its2
    rw [l2] at D2
    obtain ⟨xs3, hq3, hx3⟩ := hg p3 (by simp)
    obtain ⟨its3, rv3, q3, _⟩ := sq_seq I hq3
    have l3 : its3.toArray.size = i := by have := rv3.length; simp; omega
    have D3 := draws_of (prog := X.prog) (w := X.w) (A := X.A.in1) (I.ok.hd hc) i3 p3 ne3 its3
    rw [l3] at D3
    exact py_end3 (I.ok.hd hc) S D1 D2 D3 hz hTI hTO ⟨h1, q1⟩ ⟨h2, q2⟩ ⟨h3, q3⟩ fun h2 hk => ⟨rfl, I.turnedL (t' := s.toks) (ch := [z, TI, TO, i1, i2, i3]) (fun c o hb q => hk c o (fun q => hb (by simp [q])) (fun q => hb (by simp [q])) (fun q => hb (by simp [q])) (fun q => hb (by simp [q])) (fun q => hb (by simp [q])) q) hf⟩
  self := fun A i s Q E st h => iter_zip st.1 h
theorem sep_new3 {M : Nat} {p1 p2 p3 : Bool × Addr} (h1 : p1.2 < M) (h2 : p2.2 < M) (h3 : p3.2 < M) : Sep3 (M + 5) (M + 3) (M + 4) M (M + 1) (M + 2) [M, p1.2] [M + 1, p2.2] [M + 2, p3.2] where
  zTO := by show (M + 5 : Nat) ≠ M + 4; omega
  zTI := by show (M + 5 : Nat) ≠ M + 3; omega
  TOTI := by show (M + 4 : Nat) ≠ M + 3; omega
  m1 := by simp
  z1 := nin_new (a := p1.2) 5 0 h1 (by decide)
  T1 := nin_new (a := p1.2) 4 0 h1 (by decide)
  I1 := by show (M + 3 : Nat) ≠ M; omega
  s2_1 := nin_new (a := p1.2) 1 0 h1 (by decide)
  s3_1 := nin_new (a := p1.2) 2 0 h1 (by decide)
  m2 := by simp
  z2 := nin_new (a := p2.2) 5 1 h2 (by decide)
  T2 := nin_new (a := p2.2) 4 1 h2 (by decide)
  I2 := by show (M + 3 : Nat) ≠ M + 1; omega
  s1_2 := nin_new (a := p2.2) 0 1 h2 (by decide)
  s3_2 := nin_new (a := p2.2) 2 1 h2 (by decide)
  m3 := by simp
  z3 := nin_new (a := p3.2) 5 2 h3 (by decide)
  T3 := nin_new (a := p3.2) 4 2 h3 (by decide)
  I3 := by show (M + 3 : Nat) ≠ M + 2; omega
  s1_3 := nin_new (a := p3.2) 0 2 h3 (by decide)
  s2_3 := nin_new (a := p3.2) 1 2 h3 (by decide)
theorem pi_z3s {X : Cx} {e1 e2 e3 : Expr} {ta : TA} {p pos tpos : Pos} {elts : List Expr} {kk : Nat} {jj : Nat} {kp kp2 : Pos} {fl : List Bool} (hfl : fl.length = 3) (hg : Gl X "zip") (hm : X.mg "zip" = none) (ha : PA X [e1, e2, e3] ta)
    (hs : starEach [e1, e2, e3] X.env = (false, eval e1 X.env) :: starEach [e2, e3] X.env := by rfl) (hpl : (backTo pos (starEach [e2, e3] X.env)).any (·.1) = false := by rfl) :
    PI X (.Tuple elts kk tpos) (.Call (.Name "zip" p) [e1, e2, e3] [⟨some "strict", .Constant (.bool true) jj kp, kp2⟩] pos) (iZ X.K fl ta) := by
  refine ⟨fun pins s σ H R I h => ?_⟩
  refine wpAny_Call_Name_kw (ld_blt I hg hm PyProof.Rows.boot_zip ?_)
  refine PySem.W.callWith_of (P := fun _ => True) ?_ (fun h _ => looks_ty "zip" True.intro) ?_
  · show ((backTo pos (starEach _ X.env)).any (·.1) || false) = false
    rw [hs, Bool.or_false]
    exact hpl
  have he : backTo pos (starEach [e1, e2, e3] X.env) = (false, eval e1 X.env) :: backTo pos (starEach [e2, e3] X.env) := by rw [hs]; rfl
  rw [he]
  refine PyProof.Rows.evalArgs_kwB rfl ?_
  rw [← he]
  refine thn (ha.run pos pins s σ H _ I h) fun us s0 ⟨vs, H1, I0, r1, q1⟩ => ?_
  refine PyProof.Rows.kws_cons (Constant_bool (PyProof.Rows.kws_nil ⟨True.intro, ?_⟩))
  have I1 := I0
  obtain ⟨l, ev, el, hl, q1⟩ := q1
  subst ev
  obtain ⟨b1, b2, b3, rfl⟩ : ∃ b1 b2 b3 : Bool, fl = [b1, b2, b3] := match fl, hfl with | [_, _, _], _ => ⟨_, _, _, rfl⟩
  obtain ⟨c1, c2, c3, rfl⟩ : ∃ c1 c2 c3 : Addr, l = [c1, c2, c3] := match l, el with | [_, _, _], _ => ⟨_, _, _, rfl⟩
  cases r1 with
  | cons r_1 rr1 =>
    cases r_1
    cases rr1 with
    | cons r_2 rr2 =>
      cases r_2
      cases rr2 with
      | cons r_3 rr3 =>
        cases r_3
        cases rr3
        obtain ⟨xs1, hq1⟩ := hl (b1, c1) (by simp)
        obtain ⟨its1, rv1, g1, lt1⟩ := sq_seq I1 hq1
        obtain ⟨xs2, hq2⟩ := hl (b2, c2) (by simp)
        obtain ⟨its2, rv2, g2, lt2⟩ := sq_seq I1 hq2
        obtain ⟨xs3, hq3⟩ := hl (b3, c3) (by simp)
        obtain ⟨its3, rv3, g3, lt3⟩ := sq_seq I1 hq3
        have frs : ∀ c, c ∈ [s0.heap.objs.size + 5, s0.heap.objs.size + 3, s0.heap.objs.size + 4, s0.heap.objs.size, s0.heap.objs.size + 1, s0.heap.objs.size + 2] → FpOk X pins H1 c := fun c hcm => by
          have e : c = s0.heap.objs.size + 5 ∨ c = s0.heap.objs.size + 3 ∨ c = s0.heap.objs.size + 4 ∨ c = s0.heap.objs.size ∨ c = s0.heap.objs.size + 1 ∨ c = s0.heap.objs.size + 2 := by simpa using hcm
          have hle : s0.heap.objs.size ≤ c := by
            rcases e with q | q | q | q | q | q
            · rw [q]; exact Nat.le_add_right _ _
            · rw [q]; exact Nat.le_add_right _ _
            · rw [q]; exact Nat.le_add_right _ _
            · rw [q]; exact Nat.le_refl _
            · rw [q]; exact Nat.le_add_right _ _
            · rw [q]; exact Nat.le_add_right _ _
          exact I1.fpOk hle (I1.hok.fresh hle)
        refine begins_strict3 (begins_of (b1, c1) its1) (begins_of (b2, c2) its2) (begins_of (b3, c3) its3) g1 g2 g3 fun hA hz hTI hTO y1 y2 y3 kk => iter_zip hz ?_
        have I2 : Inv X pins σ H1 { s0 with heap := hA } := I1.kept (t' := s0.toks) kk
        exact ⟨_, [s0.heap.objs.size + 5, s0.heap.objs.size + 3, s0.heap.objs.size + 4, s0.heap.objs.size, s0.heap.objs.size + 1, s0.heap.objs.size + 2], _, _, H1, rfl, I2, turn_z3 (sep_new3 lt1 lt2 lt3) (Nat.ne_of_lt lt1) (Nat.ne_of_lt (Nat.lt_of_lt_of_le lt2 (Nat.le_add_right _ 1))) (Nat.ne_of_lt (Nat.lt_of_lt_of_le lt3 (Nat.le_add_right _ 2))), ⟨hz, hTI, ⟨_, _, _, hTO⟩, SqIt.begin y1, SqIt.begin y2, SqIt.begin y3⟩, frs, q1⟩
theorem pi_z3 {X : Cx} {e1 e2 e3 : Expr} {ta : TA} {p pos tpos : Pos} {elts : List Expr} {kk : Nat} {fl : List Bool} (hfl : fl.length = 3) (hg : Gl X "zip") (hm : X.mg "zip" = none) (ha : PA X [e1, e2, e3] ta)
    (hs : starEach [e1, e2, e3] X.env = (false, eval e1 X.env) :: starEach [e2, e3] X.env := by rfl) (hpl : (backTo pos (starEach [e2, e3] X.env)).any (·.1) = false := by rfl) :
    PI X (.Tuple elts kk tpos) (.Call (.Name "zip" p) [e1, e2, e3] [] pos) (iZ X.K fl ta) := by
  refine ⟨fun pins s σ H R I h => ?_⟩
  refine Call_ (ld_blt I hg hm PyProof.Rows.boot_zip (PyProof.Rows.callWith_type1 (thn (ha.run pos pins s σ H _ I h) fun us s0 ⟨vs, H1, I1, r1, q1⟩ => ?_) hs hpl))
  obtain ⟨l, ev, el, hl, q1⟩ := q1
  subst ev
  obtain ⟨b1, b2, b3, rfl⟩ : ∃ b1 b2 b3 : Bool, fl = [b1, b2, b3] := match fl, hfl with | [_, _, _], _ => ⟨_, _, _, rfl⟩
  obtain ⟨c1, c2, c3, rfl⟩ : ∃ c1 c2 c3 : Addr, l = [c1, c2, c3] := match l, el with | [_, _, _], _ => ⟨_, _, _, rfl⟩
  cases r1 with
  | cons r_1 rr1 =>
    cases r_1
    cases rr1 with
    | cons r_2 rr2 =>
      cases r_2
      cases rr2 with
      | cons r_3 rr3 =>
        cases r_3
        cases rr3
        obtain ⟨xs1, hq1⟩ := hl (b1, c1) (by simp)
        obtain ⟨its1, rv1, g1, lt1⟩ := sq_seq I1 hq1
        obtain ⟨xs2, hq2⟩ := hl (b2, c2) (by simp)
        obtain ⟨its2, rv2, g2, lt2⟩ := sq_seq I1 hq2
        obtain ⟨xs3, hq3⟩ := hl (b3, c3) (by simp)
        obtain ⟨its3, rv3, g3, lt3⟩ := sq_seq I1 hq3
        have frs : ∀ c, c ∈ [s0.heap.objs.size + 5, s0.heap.objs.size + 3, s0.heap.objs.size + 4, s0.heap.objs.size, s0.heap.objs.size + 1, s0.heap.objs.size + 2] → FpOk X pins H1 c := fun c hcm => by
          have e : c = s0.heap.objs.size + 5 ∨ c = s0.heap.objs.size + 3 ∨ c = s0.heap.objs.size + 4 ∨ c = s0.heap.objs.size ∨ c = s0.heap.objs.size + 1 ∨ c = s0.heap.objs.size + 2 := by simpa using hcm
          have hle : s0.heap.objs.size ≤ c := by
            rcases e with q | q | q | q | q | q
            · rw [q]; exact Nat.le_add_right _ _
            · rw [q]; exact Nat.le_add_right _ _
            · rw [q]; exact Nat.le_add_right _ _
            · rw [q]; exact Nat.le_refl _
            · rw [q]; exact Nat.le_add_right _ _
            · rw [q]; exact Nat.le_add_right _ _
          exact I1.fpOk hle (I1.hok.fresh hle)
        refine zip_begins3 (begins_of (b1, c1) its1) (begins_of (b2, c2) its2) (begins_of (b3, c3) its3) g1 g2 g3 fun hA hz hTI hTO y1 y2 y3 _ kk => iter_zip (b := false) hz ?_
        have I2 : Inv X pins σ H1 { s0 with heap := hA } := I1.kept (t' := s0.toks) kk
        exact ⟨_, [s0.heap.objs.size + 5, s0.heap.objs.size + 3, s0.heap.objs.size + 4, s0.heap.objs.size, s0.heap.objs.size + 1, s0.heap.objs.size + 2], _, _, H1, rfl, I2, turn_z3 (sep_new3 lt1 lt2 lt3) (Nat.ne_of_lt lt1) (Nat.ne_of_lt (Nat.lt_of_lt_of_le lt2 (Nat.le_add_right _ 1))) (Nat.ne_of_lt (Nat.lt_of_lt_of_le lt3 (Nat.le_add_right _ 2))), ⟨hz, hTI, ⟨_, _, _, hTO⟩, SqIt.begin y1, SqIt.begin y2, SqIt.begin y3⟩, frs, q1⟩
end CZ

namespace CS
open PySem PySem.Spec PyProof.Rows L2
/-! ### rules beside the layer's -/
section
variable {X : Cx}
/-- a product, whatever the reason that it fits -/
theorem op_mulI : OpR X (binaryOp .Mult) (rI IntMulOk fun i j => .int (i * j)) := opI fun _ _ _ _ _ _ _ hc q => mul_int q hc
/-- list + list, however each is known -/
def rCatR (K : PySem.W.Frag) : R2 := fun x y H Q => ∃ l b xs zs, x = .ref l ∧ y = .ref b ∧ SqL K H l xs ∧ SqL K H b zs ∧ xs.length + zs.length ≤ sizeLine ∧ ∀ p, H p = none → Q (.ref p) (upd H p (.lst (xs ++ zs)))
theorem op_catR : OpR X (binaryOp .Add) (rCatR X.K) := by
  intro pins s σ H x y v u Q I rx ry h
  obtain ⟨l, b, xs, zs, rfl, rfl, hH, hB, hz, q⟩ := h
  cases rx
  cases ry
  obtain ⟨its, r, p1, _⟩ := I.list hH
  obtain ⟨its2, r2, p2, _⟩ := I.list hB
  obtain ⟨⟨cls, dd, data, sl⟩, ho, hc, n, hd⟩ := id p1.isList
  obtain ⟨⟨cls2, dd2, data2, sl2⟩, ho2, hc2, n2, hd2⟩ := id p2.isList
  simp only at hc hd hc2 hd2
  subst hc hd hc2 hd2
  have l1 := r.length
  have l2 := r2.length
  have ea : its.toArray ++ its2.toArray = (its ++ its2).toArray := by simp
  refine concat_meets ⟨_, ho, rfl⟩ ⟨_, ho2, rfl⟩ noFill_list_add seq_list_add PySem.F.slot_list_add PySem.F.entry_list_add (PySem.F.args_list_add_2 _ _) (list_addW l b its.toArray its2.toArray n n2 dd dd2 sl sl2 (by rw [List.size_toArray, List.size_toArray]; omega)) ⟨ho, ho2, ?_⟩
  rw [ea]
  exact ⟨.ref _, _, I.lnew (t' := s.toks) (r.append r2) (by rw [List.length_append]; omega), rfl, q _ I.fresh⟩
theorem pi_or {tg it : Expr} {w1 w2 : TI} (h1 : PI X tg it w1) (h2 : PI X tg it w2) : PI X tg it (fun σ H R => w1 σ H R ∨ w2 σ H R) :=
  ⟨fun pins s σ H R I h => h.elim (fun z => h1.run pins s σ H R I z) fun z => h2.run pins s σ H R I z⟩
end
/-! ### calls by keywords alone -/
def pick {α : Type} (js : List Nat) (l : List α) : List α := js.filterMap fun j => l[j]?
theorem vals_pick {xs : List V} {us : List Value} (r : Vals xs us) : ∀ js : List Nat, Vals (pick js xs) (pick js us)
  | [] => .nil
  | j :: js => by
    have ih := vals_pick r js
    unfold pick at ih ⊢
    cases e : xs[j]? with
    | none =>
      have e2 := r.none_of e
      rw [List.filterMap_cons_none (by rw [e]), List.filterMap_cons_none (by rw [e2])]
      exact ih
    | some x =>
      obtain ⟨u, e2, ru⟩ := r.get e
      rw [List.filterMap_cons_some (by rw [e]), List.filterMap_cons_some (by rw [e2])]
      exact .cons ru ih
theorem kbn_of {K : PySem.W.Frag} {x qual : Str} {st : Stmt} {f : Addr} {fd : FuncData} {ps : List Str} (F : Fun K x qual st f fd) (n : Nat) (ks : List Str) (js : List Nat)
    (h : ∀ (kV doc pm : Value) (an : Option Addr) (cdv ct : Value) (us ws : List Value), us.length = n → ws.length = ks.length → bindArgs (PySem.W.fnOf x qual (defArgs st) (defBody st) (defScope st) .none kV doc pm an cdv ct) ⟨us, ks.zip ws⟩ = pure (ps.zip (pick js (us ++ ws)))) :
    KBn K fd ps n ks (fun us ws => pick js (us ++ ws)) (fun vs zs => pick js (vs ++ zs)) := by
  obtain ⟨oc, od, kV, doc, pm, an, cdv, ct, osl, rfl, lk, hcd⟩ := F.ex
  exact ⟨fun s us ws _ h1 h2 => .of_eq (h kV doc pm an cdv ct us ws h1 h2), fun r1 r2 => vals_pick (r1.append r2) js⟩
section
variable {X : Cx} {CX : CXT} {k n : Nat} {f C : Addr} {fd : FuncData} {ps ks : List Str} {sp : Sp} {E : XK} {x m : Str} {p pos apos : Pos} {o : Expr} {kws : List Keyword} {ta : TE} {tk : TA} {g : List Value → List Value → List Value} {gV : List V → List V → List V}
theorem run_kw {pins : List (Addr × Obj)} {σ : L2.St} {H : Hp} {s : Shared} {Q : VK} {us ws : List Value} {vs zs : List V} (F : FnOk X.prog X.w X.K X.mg X.base CX k f fd ps sp) (hr : Room k X.A) (hb : KBn X.K fd ps n ks g gV) (hx : Passes CX X E)
    (I : Inv X pins σ H s) (r : Vals vs us) (rz : Vals zs ws) (l1 : vs.length = n) (l2 : zs.length = ks.length) (h : sp (gV vs zs) H Q E) : wpAny (model X.prog X.w) X.A (call (.ref f) us (ks.zip ws)) (EP X pins σ Q) X.xe s := by
  refine wpAny_call (codeAny_mono (F.run X.A X.stack s H ⟨us, ks.zip ws⟩ (g us ws) (gV vs zs) Q E hr I.env0 (hb.to s us ws I.kIn (r.length.symm.trans l1) (rz.length.symm.trans l2)) (hb.rel r rz) h) fun res s2 hq => ?_)
  cases res with
  | error e => exact hx pins σ H s e s2 I hq
  | ok fl =>
    cases fl with
    | ret u => exact I.after hq
    | next => exact False.elim hq
    | brk => exact False.elim hq
    | cont => exact False.elim hq
/-- f(k = v, ..) -/
def tCallKw (m : Nat) (sp : Sp) (gV : List V → List V → List V) (E : XK) (tk : TA) : TE := fun σ H Q => tk σ H fun zs H1 => zs.length = m ∧ sp (gV [] zs) H1 Q E
theorem pe_callKw (F : FnOk X.prog X.w X.K X.mg X.base CX k f fd ps sp) (hr : Room k X.A) (hg : Gl X x) (hm : X.mg x = some (.ref f)) (hk : PySem.W.keepIn X.K (.ref f) = true) (hb : KBn X.K fd ps 0 ks g gV) (hx : Passes CX X E) (hkw : PK X kws tk)
    (hall : (backToKw pos (keywordEach kws X.env)).all (·.1.isSome) = true := by rfl) (hks : (backToKw pos (keywordEach kws X.env)).filterMap (·.1) = ks := by rfl) (hdb : (x == ("__debug__" : Str)) = false := by decide)
    (hpl : ((backTo pos (starEach [] X.env)).any (·.1) || (backToKw pos (keywordEach kws X.env)).any (·.1.isNone)) = false := by rfl) :
    PE X (.Call (.Name x p) [] kws pos) (tCallKw ks.length sp gV E tk) := by
  refine ⟨fun pins s σ H Q I h => ?_⟩
  refine wpAny_Call_Name_kw (ld_glob I hg hm ?_ hdb)
  refine PySem.W.callWith_KW0 (h₀ := X.base) I.ok.mod.kin hk hall (thn (hkw.run pos pins s σ H _ I h) fun ws s2 ⟨zs, H2, I2, rz, l2, q2⟩ => ⟨I2.kIn, ?_⟩) hpl
  rw [hks]
  exact run_kw (us := []) (vs := []) F hr hb hx I2 .nil rz rfl l2 q2
/-- o.m(k = v, ..) -/
def tMethKw (C : Addr) (m : Str) (n : Nat) (sp : Sp) (gV : List V → List V → List V) (E : XK) (ta : TE) (tk : TA) : TE := fun σ H Q => ta σ H fun x H1 => ∃ a dx fs, x = .ref a ∧ H1 a = some (.ins C dx fs) ∧ fs.lookup m = none ∧
  tk σ H1 fun zs H2 => zs.length = n ∧ sp (gV [x] zs) H2 Q E
theorem pe_methKw {pl : Sem Bool} (he : PE X o ta) (c : Cls X.K C) (hm : Meth X.K C m f) (F : FnOk X.prog X.w X.K X.mg X.base CX k f fd ps sp) (hr : Room k X.A) (hb : KBn X.K fd ps 1 ks g gV) (hx : Passes CX X E) (hkw : PK X kws tk)
    (hall : (backToKw pos (keywordEach kws X.env)).all (·.1.isSome) = true := by rfl) (hks : (backToKw pos (keywordEach kws X.env)).filterMap (·.1) = ks := by rfl)
    (hpl : ((backTo pos (starEach [] X.env)).any (·.1) || (backToKw pos (keywordEach kws X.env)).any (·.1.isNone)) = false := by rfl)
    (ht : eval (.Call (.Attribute o m apos) [] kws pos) X.env = (do
      let ov ← eval o X.env
      standAt apos.atName
      let (f, first) ← holding [ov] (getMethod ov m pl)
      callWith pos f first (backTo pos (starEach [] X.env)) (backToKw pos (keywordEach kws X.env))) := by rfl) :
    PE X (.Call (.Attribute o m apos) [] kws pos) (tMethKw C m ks.length sp gV E ta tk) := by
  refine ⟨fun pins s σ H Q I h => ?_⟩
  refine PySem.W.methodCall_KW (pl := pl) (thn (he.run pins s σ H _ I h) fun u s1 ⟨x, H1, I1, rx, a, dx, fs, ex, ea, l, q⟩ => ?_) ht
  subst ex
  obtain rfl : u = Value.ref a := rx
  refine getmeth_ok I1 ea c hm l ?_
  refine PySem.W.callWith_KW0 (first := [.ref a]) (h₀ := X.base) I.ok.mod.kin hm.kp hall (thn (hkw.run pos pins s1 σ H1 _ I1 q) fun ws s2 ⟨zs, H2, I2, rz, l2, q2⟩ => ⟨I2.kIn, ?_⟩) hpl
  rw [hks]
  exact run_kw (us := [.ref a]) (vs := [.ref a]) F hr hb hx I2 (.cons rfl .nil) rz rfl l2 q2
end
/-! ### heaps that grow -/
abbrev Ex (H H2 : Hp) : Prop := Evl.Ex H H2
theorem exr {H : Hp} : Ex H H := fun _ _ h => h
theorem exn {H : Hp} {p : Addr} {o : HO} (h : H p = none) : Ex H (upd H p o) := Evl.Ex.new h
theorem SqK.mono {K : PySem.W.Frag} {H H2 : Hp} {p : Bool × Addr} {xs : List V} (e : Ex H H2) (h : CZ.SqK K H p xs) : CZ.SqK K H2 p xs := by
  obtain ⟨b, a⟩ := p
  cases b
  · exact Evl.ex_l e h
  · exact Evl.ex_t e h
/-- a comprehension whose element and tests leave all that stood: out i is what stands behind i turns -/
theorem lc_out {J : It} {n : Nat} {G : Hp → Prop} {Y : Nat → Hp → V → Hp → Prop} (w : Walk J n G Y) {g : TG} {tt : TT} {te : TE} {vs : List Nat} {σ : L2.St} {H1 : Hp} {D : Addr} {Qd : Hp → Prop} (out : Nat → List V) (h0 : out 0 = []) (hD : H1 D = none)
    (hlen : ∀ i, i < n → (out i).length < sizeLine) (hG : ∀ H, Ex H1 H → G H)
    (hs : ∀ i x H H2 (Nx : Hp → Prop), i < n → Ex H1 H → H D = some (.lst (out i)) → Y i H x H2 →
      (∀ y H5, Ex H H5 → out (i + 1) = out i ++ [y] → ∃ acc, H5 D = some (.lst acc) ∧ acc.length < sizeLine ∧ Nx (upd H5 D (.lst (acc ++ [y])))) → (∀ H4, Ex H H4 → out (i + 1) = out i → Nx H4) →
      g x (wipe σ vs) H2 fun σ2 H3 => wipe σ2 vs = wipe σ vs ∧ tt σ2 H3 fun b H4 => if b = true then te σ2 H4 fun y H5 => ∃ acc, H5 D = some (.lst acc) ∧ acc.length < sizeLine ∧ Nx (upd H5 D (.lst (acc ++ [y]))) else Nx H4)
    (hd : ∀ H, Ex H1 H → H D = some (.lst (out n)) → Qd H) :
    ∃ W : Nat → Nat → Hp → Prop, (∃ m, W 0 m (upd H1 D (.lst []))) ∧ ∀ i m H, W i m H →
      (J.stop i H ∧ Qd H) ∨ (J.go i H ∧ ∃ Nx : Hp → Prop, (∀ H2, Nx H2 → ∃ m2, m2 < m ∧ W (i + 1) m2 H2) ∧ ∀ x H2, J.yld i H x H2 → g x (wipe σ vs) H2 fun σ2 H3 => wipe σ2 vs = wipe σ vs ∧ tt σ2 H3 fun b H4 =>
        if b = true then te σ2 H4 fun y H5 => ∃ acc, H5 D = some (.lst acc) ∧ acc.length < sizeLine ∧ Nx (upd H5 D (.lst (acc ++ [y]))) else Nx H4) := by
  refine lc_it w (fun i H => Ex H1 H ∧ H D = some (.lst (out i))) ⟨exn hD, by rw [upd_same, h0]⟩ (fun i H _ p => hG H p.1) (fun i x H H2 hi p y => ?_) (fun H p => hd H p.1 p.2)
  refine hs i x H H2 _ hi p.1 p.2 y (fun y2 H5 e eo => ⟨out i, e D _ p.2, hlen i hi, fun b o q => ?_, by rw [upd_same, eo]⟩) (fun H4 e eo => ⟨fun b o q => e b o (p.1 b o q), by rw [eo]; exact e D _ p.2⟩)
  rw [upd_ne (ne_of_none q hD)]
  exact e b o (p.1 b o q)
/-- .. whose list is known: vals -/
theorem lc_vals {J : It} {n : Nat} {G : Hp → Prop} {Y : Nat → Hp → V → Hp → Prop} (w : Walk J n G Y) {g : TG} {te : TE} {vs : List Nat} {σ : L2.St} {H1 : Hp} {D : Addr} {Qd : Hp → Prop} (vals : List V) (hn : vals.length = n) (hl : n ≤ 10000000) (hD : H1 D = none)
    (hG : ∀ H, Ex H1 H → G H)
    (hs : ∀ i x H H2 (R : VK), i < n → Ex H1 H → Y i H x H2 → (∀ y H5, Ex H H5 → vals[i]? = some y → R y H5) → g x (wipe σ vs) H2 fun σ2 H3 => wipe σ2 vs = wipe σ vs ∧ te σ2 H3 R)
    (hg : ∀ x σ2 H2 (R R2 : L2.St → Hp → Prop), (∀ σ3 H3, R σ3 H3 → R2 σ3 H3) → g x σ2 H2 R → g x σ2 H2 R2)
    (hd : ∀ H, Ex H1 H → H D = some (.lst vals) → Qd H) :
    ∃ W : Nat → Nat → Hp → Prop, (∃ m, W 0 m (upd H1 D (.lst []))) ∧ ∀ i m H, W i m H →
      (J.stop i H ∧ Qd H) ∨ (J.go i H ∧ ∃ Nx : Hp → Prop, (∀ H2, Nx H2 → ∃ m2, m2 < m ∧ W (i + 1) m2 H2) ∧ ∀ x H2, J.yld i H x H2 → g x (wipe σ vs) H2 fun σ2 H3 => wipe σ2 vs = wipe σ vs ∧ tYes σ2 H3 fun b H4 =>
        if b = true then te σ2 H4 fun y H5 => ∃ acc, H5 D = some (.lst acc) ∧ acc.length < sizeLine ∧ Nx (upd H5 D (.lst (acc ++ [y]))) else Nx H4) := by
  refine lc_out w (fun i => vals.take i) rfl hD (fun i hi => ?_) hG (fun i x H H2 Nx hi e hDi y kA _ => ?_) (fun H e h => hd H e ?_)
  · rw [List.length_take]
    exact Nat.lt_of_le_of_lt (Nat.le_trans (Nat.min_le_right _ _) (by rw [hn]; exact hl)) (by decide)
  · refine hg _ _ _ _ _ (fun σ3 H3 q => ⟨q.1, ?_⟩) (hs i x H H2 (fun y H5 => ∃ acc, H5 D = some (.lst acc) ∧ acc.length < sizeLine ∧ Nx (upd H5 D (.lst (acc ++ [y])))) hi e y fun y2 H5 e5 ev => kA y2 H5 e5 ?_)
    · exact q.2
    · rw [List.take_add_one, ev]
      rfl
  · rw [h, List.take_of_length_le (by rw [hn]; exact Nat.le_refl _)]
theorem gmono_name {i : Nat} : ∀ x σ2 H2 (R R2 : L2.St → Hp → Prop), (∀ σ3 H3, R σ3 H3 → R2 σ3 H3) → gName i x σ2 H2 R → gName i x σ2 H2 R2 := fun _ _ _ _ _ h q => h _ _ q
theorem gmono_nil : ∀ vs σ2 H2 (R R2 : L2.St → Hp → Prop), (∀ σ3 H3, R σ3 H3 → R2 σ3 H3) → gNil vs σ2 H2 R → gNil vs σ2 H2 R2 := fun _ _ _ _ _ h q => ⟨q.1, h _ _ q.2⟩
theorem gmono_cons {t : TG} {u : TGs} (ht : ∀ x σ2 H2 (R R2 : L2.St → Hp → Prop), (∀ σ3 H3, R σ3 H3 → R2 σ3 H3) → t x σ2 H2 R → t x σ2 H2 R2) (hu : ∀ x σ2 H2 (R R2 : L2.St → Hp → Prop), (∀ σ3 H3, R σ3 H3 → R2 σ3 H3) → u x σ2 H2 R → u x σ2 H2 R2) :
    ∀ vs σ2 H2 (R R2 : L2.St → Hp → Prop), (∀ σ3 H3, R σ3 H3 → R2 σ3 H3) → gCons t u vs σ2 H2 R → gCons t u vs σ2 H2 R2 := fun vs σ2 H2 R R2 h q => by
  obtain ⟨v, r, e, q⟩ := q
  exact ⟨v, r, e, ht _ _ _ _ _ (fun σ3 H3 z => hu _ _ _ _ _ h z) q⟩
theorem gmono_tup {K : PySem.W.Frag} {n : Nat} {t : TGs} (ht : ∀ x σ2 H2 (R R2 : L2.St → Hp → Prop), (∀ σ3 H3, R σ3 H3 → R2 σ3 H3) → t x σ2 H2 R → t x σ2 H2 R2) :
    ∀ v σ2 H2 (R R2 : L2.St → Hp → Prop), (∀ σ3 H3, R σ3 H3 → R2 σ3 H3) → gTup K n t v σ2 H2 R → gTup K n t v σ2 H2 R2 := fun v σ2 H2 R R2 h q => by
  obtain ⟨a, xs, e, h1, h2, q⟩ := q
  exact ⟨a, xs, e, h1, h2, ht _ _ _ _ _ h q⟩
/-! ### a list or a tuple walked -/
def ItS (K : PySem.W.Frag) (p : Bool × Addr) : It := if p.1 = true then Itt K p.2 else Itl K p.2
def iSeq (K : PySem.W.Frag) (tl : TE) : TI := fun σ H R => tl σ H fun x H1 => ∃ p : Bool × Addr, x = .ref p.2 ∧ (∃ xs, CZ.SqK K H1 p xs) ∧ R (ItS K p) H1
theorem pi_seq {X : Cx} {tg l : Expr} {tl : TE} (hl : PE X l tl) : PI X tg l (iSeq X.K tl) := by
  refine ⟨fun pins s σ H R I h => ?_⟩
  refine thn (hl.run pins s σ H _ I h) fun v s1 ⟨x, H1, I1, r1, q1⟩ => ?_
  obtain ⟨⟨b, a⟩, ex, ⟨xs, hq⟩, q⟩ := q1
  subst ex
  cases r1
  obtain ⟨its, rv, g, lt⟩ := CZ.sq_seq I1 hq
  have fp : ∀ c ∈ [s1.heap.objs.size], FpOk X pins H1 c := fun c hc => by
    have e : c = s1.heap.objs.size := by simpa using hc
    rw [e]
    exact I1.fpOk (Nat.le_refl _) (I1.hok.fresh (Nat.le_refl _))
  refine (CZ.begins_of (b, a) its).iter _ _ _ _ s1 _ g ?_
  have I2 : Inv X pins σ H1 { s1 with heap := s1.heap.push (CZ.itO (b, a)) } := I1.kept (t' := s1.toks) fun c o e => Heap.get?_push_of_some _ e
  cases b
  · exact ⟨_, [s1.heap.objs.size], _, _, H1, rfl, I2, turn_list a _, ⟨_, Heap.get?_push_size _ rfl, rfl, rfl⟩, fp, q⟩
  · exact ⟨_, [s1.heap.objs.size], _, _, H1, rfl, I2, turn_tuple a _, ⟨_, Heap.get?_push_size _ rfl, rfl, rfl⟩, fp, q⟩
theorem walk_seq {K : PySem.W.Frag} {p : Bool × Addr} {xs : List V} : Walk (ItS K p) xs.length (fun H => CZ.SqK K H p xs) (YAt xs) := by
  obtain ⟨b, a⟩ := p
  cases b
  · exact walk_list
  · exact walk_tup
theorem itt {c : Bool} {A B : Prop} (h : c = true) (a : A) : if c = true then A else B := by rw [if_pos h]; exact a
theorem itf {c : Bool} {A B : Prop} (h : c = false) (b : B) : if c = true then A else B := by rw [h, if_neg Bool.false_ne_true]; exact b
theorem map_get {α : Type} {f : α → V} {l : List α} {i : Nat} {x : V} (h : (l.map f)[i]? = some x) : ∃ n, l[i]? = some n ∧ x = f n := by
  rw [List.getElem?_map] at h
  cases e : l[i]? with
  | none => rw [e] at h; cases h
  | some n => rw [e] at h; exact ⟨n, rfl, (Option.some.inj h).symm⟩
end CS

namespace CE
open PySem PySem.Spec PyProof.Rows L2 CZ
/-! ### enumerate over a list or a tuple -/
theorem enumO_new {v : Value} {oo : Obj} {Hq : Heap → Prop} (bg : Begins v oo Hq) :
    Meets (Builtin.«enumerate.__new__» ⟨[.type "enumerate", v], []⟩) (fun _ R t => Hq t.heap ∧
      R (.ok (.ret (.ref (t.heap.push oo).objs.size))) { t with heap := (t.heap.push oo).push { cls := .type "enumerate", data := .fields #[.none, .bool false, .ref t.heap.objs.size, rawInt 0, .none, .none] } }) :=
  .of_wp fun pg wo Ar R t hyp => by
    obtain ⟨hh, gg, dd, tt, oq⟩ := t
    obtain ⟨start, goal⟩ := hyp
    have es := PySem.sub_enumerate
    have go1 : ∀ {A2 : Around} {E2 : Value → Shared → Prop} {Q2 : Value → Shared → Prop}, Q2 (.ref hh.objs.size) ⟨hh.push oo, gg, dd, tt, oq⟩ → wpAny (model pg wo) A2 (pyIter v) Q2 E2 ⟨hh, gg, dd, tt, oq⟩ :=
      fun z => bg.iter pg wo _ _ ⟨hh, gg, dd, tt, oq⟩ _ start z
    wp_walk using go1
    refine wpAny_stack_any fun stk => wpAny_pure ?_
    split
    · rename_i cc _ _ _ _ _
      cases (cc == Value.type "enumerate")
      all_goals
        wp_walk using go1
        exact ⟨_, rfl, goal⟩
    · wp_walk using go1
      exact ⟨_, rfl, goal⟩
theorem enum_of {pg : Program} {wo : World} {Ar : Around} {Ex1 : Value → Shared → Prop} {t : Shared} {v : Value} {oo : Obj} {Hq : Heap → Prop} {Qe : Value → Shared → Prop} (bg : Begins v oo Hq) (start : Hq t.heap)
    (goal : ∀ hN, IsEnum hN (t.heap.objs.size + 1) t.heap.objs.size 0 .none → hN.get? t.heap.objs.size = some oo → (∀ c ob, t.heap.get? c = some ob → hN.get? c = some ob) → Qe (.ref (t.heap.objs.size + 1)) { t with heap := hN }) :
    wpAny (model pg wo) Ar (call (.type "enumerate") [v]) Qe Ex1 t := by
  refine callType_new F.called_enumerate (by decide) (F.typeCall_enumerate_1 _) (F.newCall_enumerate_1 _) (fun ob => F.args_object_init_2 ob _) F.entry_enumerate_new (enumO_new bg) ⟨start, ?_⟩
  have size1 : (t.heap.push oo).objs.size = t.heap.objs.size + 1 := Heap.size_push ..
  have isE : IsEnum ((t.heap.push oo).push { cls := .type "enumerate", data := .fields #[.none, .bool false, .ref t.heap.objs.size, rawInt 0, .none, .none] }) (t.heap.objs.size + 1) t.heap.objs.size 0 .none := by
    have at1 := Heap.get?_push_size (t.heap.push oo) (o := { cls := .type "enumerate", data := .fields #[.none, .bool false, .ref t.heap.objs.size, rawInt 0, .none, .none] }) rfl
    rw [size1] at at1
    exact at1
  show _ ∧ _
  rw [size1]
  exact ⟨⟨_, isE, rfl⟩, goal _ isE (Heap.get?_push_of_some _ (Heap.get?_push_size _ bg.free)) fun c ob z => Heap.get?_push_of_some _ (Heap.get?_push_of_some _ z)⟩
/-- what stands at p, each item in a new pair -/
def ItE (K : PySem.W.Frag) (p : Bool × Addr) : It :=
  ⟨fun i H => ∃ (xs : List V) (x : V), SqK K H p xs ∧ xs[i]? = some x, fun i H v H2 => ∃ T x, v = .ref T ∧ H T = none ∧ H2 = upd H T (.tup [.int (i : Nat), x]) ∧ ∀ xs, SqK K H p xs → xs[i]? = some x, fun i H => ∃ xs : List V, SqK K H p xs ∧ xs.length = i⟩
theorem turn_e {P : Program} {w : World} {K : PySem.W.Frag} {elts : List Expr} {kk : Nat} {tpos : Pos} {en it : Addr} {p : Bool × Addr} (n1 : p.2 ≠ it) (n2 : en ≠ it) (n3 : en ≠ p.2) :
    Turn P w K (.Tuple elts kk tpos) (ItE K p) [en, it] en (fun i h => (∃ old, IsEnum h en it ((i : Nat) : Int) old) ∧ SqIt h it p i) where
  mem := by simp
  obj := fun i h st c hc => by
    obtain ⟨⟨old, ie⟩, si⟩ := st
    have e : c = en ∨ c = it := by simpa using hc
    rcases e with q | q
    · rw [q]; exact ⟨_, ie, fun v q => nomatch q⟩
    · rw [q]; exact si.obj
  keep := fun i h h2 st k => by
    obtain ⟨⟨old, ie⟩, si⟩ := st
    exact ⟨⟨old, k en (by simp) _ ie⟩, si.at fun o q => k it (by simp) o q⟩
  item := by
    intro X hP hw hK hc i pins s σ H E I hf st hg
    subst hP hw hK
    obtain ⟨⟨old, ie⟩, si⟩ := st
    obtain ⟨xs, x, hq, hx⟩ := hg
    obtain ⟨its, rv, sq, _⟩ := sq_seq I hq
    obtain ⟨u, hu, ru⟩ := rv.get hx
    have gu : its.toArray[i]? = some u := by simpa using hu
    have lu : i < its.toArray.size := by
      have := (List.getElem?_eq_some_iff.mp hu).1
      simpa using this
    have enl : en < s.heap.objs.size := Heap.lt_size ie
    have itl : it < s.heap.objs.size := by
      obtain ⟨_, q, _⟩ := si.obj
      exact Heap.lt_size q
    refine PySem.wpAny_pyNext_enum_itemD (draws_of (A := X.A.in1) (I.ok.hd hc) it p n1 its) ie ⟨si, sq⟩ lu n2 (by simp [n2, n3]) fun x1 hA tk hx1 out ⟨si2, _⟩ hT hsz hk => ?_
    obtain rfl : u = x1 := Option.some.inj (gu.symm.trans hx1)
    refine ⟨_, rfl, wpAny_letOwnedTupleGo_enum (s := { s with heap := hA, toks := tk + 1 }) out fun hB isB sb => ?_⟩
    replace sb : Heap.SameBut en hA hB := sb
    have hT2 : hB.get? s.heap.objs.size = some { cls := .type "tuple", data := .seq #[.int i tk, u] } := (sb.2 _ (Nat.ne_of_gt enl)).trans hT
    have made : ObjOk X.prog X.w (upd H s.heap.objs.size (.tup [.int (i : Nat), x])) hB s.heap.objs.size (.tup [.int (i : Nat), x]) := ⟨by show 2 ≤ sizeLine; decide, [.int i tk, u], .cons ⟨_, rfl⟩ (.cons ru .nil), ⟨_, hT2, rfl, _, rfl⟩⟩
    have I1 : Inv X pins σ (upd H s.heap.objs.size (.tup [.int (i : Nat), x])) { s with heap := hB, toks := tk + 1 } :=
      I.turnedNew (t' := tk + 1) (ch := [en, it]) (fun c ob hb q => (sb.2 c (fun z => hb (by simp [z]))).trans (hk c ob (fun z => hb (by simp [z])) (fun z => hb (by simp [z])) q)) hf (Nat.le_refl _) made
    refine ⟨.ref s.heap.objs.size, _, I1, rfl, ⟨_, x, rfl, I.hok.fresh (Nat.le_refl _), rfl, fun ys hy => by rw [sq_inj I hy hq]; exact hx⟩, ⟨⟨u, ?_⟩, si2.at fun o q => (sb.2 it n2.symm).trans q⟩, fun c hcm => ?_⟩
    · have next : ((i + 1 : Nat) : Int) = (i : Int) + 1 := by omega
      rw [next]
      exact isB
    · have small : c < s.heap.objs.size := by
        have e : c = en ∨ c = it := by simpa using hcm
        rcases e with q | q
        · rw [q]; exact enl
        · rw [q]; exact itl
      rw [upd_ne (Nat.ne_of_lt small)]
      exact (hf c hcm).1
  done := by
    intro X hP hw hK hc i pins s σ H E I hf st hg
    subst hP hw hK
    obtain ⟨⟨old, ie⟩, si⟩ := st
    obtain ⟨xs, hq, hx⟩ := hg
    obtain ⟨its, rv, sq, _⟩ := sq_seq I hq
    have li : its.toArray.size = i := by
      have := rv.length
      simp
      omega
    have dr := draws_of (prog := X.prog) (w := X.w) (A := X.A.in1) (I.ok.hd hc) it p n1 its
    rw [li] at dr
    exact PySem.wpAny_pyNext_enum_endD dr ie ⟨si, sq⟩ fun hA eb => ⟨rfl, I.turnedL (t' := s.toks) (ch := [en, it]) (fun c ob hb q => eb c ob (fun z => hb (by simp [z])) q) hf⟩
  self := fun A i s Q E st h => let ⟨⟨_, ie⟩, _⟩ := st; wpAny_pyIter_enum ie h
theorem walk_e {K : PySem.W.Frag} {p : Bool × Addr} {xs : List V} : Walk (ItE K p) xs.length (fun H => SqK K H p xs) (YPair (fun i => some (.int (i : Nat))) (fun i => xs[i]?)) :=
  ⟨fun i _ hi q => ⟨xs, xs[i], q, by simp [hi]⟩, fun _ q => ⟨xs, q, rfl⟩, fun i H v H2 _ q y => by
    obtain ⟨T, x, h1, h2, h3, h4⟩ := y
    exact ⟨T, _, x, h1, h2, h3, rfl, h4 xs q⟩⟩
/-- enumerate(e), e a list or a tuple -/
def iE (K : PySem.W.Frag) (ta : TA) : TI := fun σ H R => ta σ H fun vs H1 => ∃ p : Bool × Addr, vs = [.ref p.2] ∧ (∃ xs, SqK K H1 p xs) ∧ R (ItE K p) H1
theorem pi_e {X : Cx} {e : Expr} {ta : TA} {po pos tpos : Pos} {elts : List Expr} {kk : Nat} (hg : Gl X "enumerate") (hm : X.mg "enumerate" = none) (ha : PA X [e] ta) (hs : starEach [e] X.env = [(false, eval e X.env)] := by rfl) :
    PI X (.Tuple elts kk tpos) (.Call (.Name "enumerate" po) [e] [] pos) (iE X.K ta) := by
  refine ⟨fun pins s σ H R I h => ?_⟩
  refine Call_ (ld_blt I hg hm boot_enumerate (PyProof.Rows.callWith_type1 (thn (ha.run pos pins s σ H _ I h) fun us s0 ⟨vs, H1, I1, r1, q1⟩ => ?_) hs rfl))
  obtain ⟨p, ev, ⟨xs, hq⟩, q1⟩ := q1
  subst ev
  cases r1 with
  | cons r rr =>
    cases rr
    cases r
    obtain ⟨its, rv, sq, lt⟩ := sq_seq I1 hq
    refine enum_of (begins_of p its) sq fun hN ie io kk2 => wpAny_pyIter_enum ie ?_
    have I2 : Inv X pins σ H1 { s0 with heap := hN } := I1.kept (t' := s0.toks) kk2
    refine ⟨s0.heap.objs.size + 1, [s0.heap.objs.size + 1, s0.heap.objs.size], _, _, H1, rfl, I2, turn_e (Nat.ne_of_lt lt) (Nat.succ_ne_self _) (Nat.ne_of_gt (Nat.lt_succ_of_lt lt)), ⟨⟨.none, ie⟩, SqIt.begin io⟩, fun c hc => ?_, q1⟩
    have le : s0.heap.objs.size ≤ c := by
      have e : c = s0.heap.objs.size + 1 ∨ c = s0.heap.objs.size := by simpa using hc
      rcases e with z | z
      · rw [z]; exact Nat.le_add_right _ _
      · rw [z]; exact Nat.le_refl _
    exact I1.fpOk le (I1.hok.fresh le)
end CE

namespace CL
open PySem PySem.Spec PyProof.Rows L2
/-! ### set(l) of a list of ints -/
section
variable {pg : Program} {wo : World} {Ar : Around} {Ee : Value → Shared → Prop} {t : Shared}
set_option maxRecDepth 100000 in
set_option maxHeartbeats 3200000 in
theorem set_of_list {l : Addr} {its : Array Value} (ns : List Int) {Qe : Value → Shared → Prop} (calm : Ar.handled = none) (isl : t.heap.IsList l its) (intsA : IntsAre its.toList ns) (few : ns.length + 1 < scanBound)
    (goal : ∀ (hN : Heap) (k c : Nat), SetR wo hN t.heap.objs.size (fun j => decide (j ∈ ns)) c → c ≤ ns.length → (∀ b ob, t.heap.get? b = some ob → hN.get? b = some ob) → Qe (.ref t.heap.objs.size) { t with heap := hN, toks := k }) :
    wpAny (model pg wo) Ar (call (.type "set") [.ref l]) Qe Ee t := by
  have len : its.size = ns.length := by
    have z := IntsAre.length intsA
    rw [Array.length_toList] at z
    exact z
  obtain ⟨cc, tail, mro⟩ := PySem.F.called_set.mro
  have made := PySem.F.called_set.made
  have sub := PySem.F.called_set.sub
  refine wpAny_call (codeAny_of_tree ?_)
  show wpAny _ _ (callAny (.type "set") _) _ _ _
  refine wpAny_pure ⟨Code.quiet_builtin _ (by decide +kernel), codeAny_builtin PySem.F.entry_type_call ?_⟩
  rw [Around.under_plain (weight_type_call_type "set" [.ref l] []) rfl]
  have noType := PySem.F.called_set.notType
  have creates := PySem.F.called_set.canCreate
  have checked := PySem.F.typeCall_set_1 (.ref l)
  repeat (any_goals (first | assumption | wp_step))
  refine codeAny_mono (code_set_led1 (.ref l) (E := Ee) (Q₁ := fun ob t1 => ob = .ref t.heap.objs.size ∧ t1 = { t with heap := t.heap.push { cls := .type "set", dict := none, data := .set #[] 0 (.fresh 0 0 (!wo.params.followText "set-order")) } }) ⟨rfl, rfl⟩) fun r t1 hr => ?_
  cases r with
  | error e => exact hr
  | ok fl =>
    cases fl with
    | ret ob =>
      obtain ⟨rfl, rfl⟩ := hr
      have hS : (t.heap.push { cls := .type "set", dict := none, data := .set #[] 0 (.fresh 0 0 (!wo.params.followText "set-order")) }).get? t.heap.objs.size = some { cls := .type "set", dict := none, data := .set #[] 0 (.fresh 0 0 (!wo.params.followText "set-order")) } := Heap.get?_push_size _ rfl
      have tS : Shared.TypeIs { t with heap := t.heap.push { cls := .type "set", dict := none, data := .set #[] 0 (.fresh 0 0 (!wo.params.followText "set-order")) } } (.ref t.heap.objs.size) "set" := ⟨_, hS, rfl⟩
      have ini := PySem.F.called_set.init.lookup
      have bnd := PySem.F.called_set.init.bind (.ref t.heap.objs.size)
      repeat (any_goals (first | assumption | wp_step))
      refine codeAny_mono (codeAny_call_builtin (R := wants (fun r t2 => r = .none ∧ ∃ hN k c, t2 = { t with heap := hN, toks := k } ∧ SetR wo hN t.heap.objs.size (fun j => decide (j ∈ ns)) c ∧ c ≤ ns.length ∧
          (∀ b ob, t.heap.get? b = some ob → hN.get? b = some ob)) Ee) PySem.F.called_set.init.plain PySem.F.entry_set_init (check_set_init_1 tS ?_)) fun r2 t2 hr2 => ?_
      · obtain ⟨ol, hol, hcl, nl, hdl⟩ := id isl
        obtain ⟨ocls, odict, odata, oslots⟩ := ol
        simp only at hcl hdl
        subst hcl
        subst hdl
        have hol2 : (t.heap.push { cls := .type "set", dict := none, data := .set #[] 0 (.fresh 0 0 (!wo.params.followText "set-order")) }).get? l = some { cls := .type "list", dict := odict, data := .seq its nl, slots := oslots } := Heap.get?_push_of_some _ hol
        have s1 := PySem.F.sub_list_set
        have s2 := PySem.F.sub_list_frozenset
        have nd : (Value.type "list" == Value.type "dict") = false := by decide
        have isl2 : (t.heap.push { cls := .type "set", dict := none, data := .set #[] 0 (.fresh 0 0 (!wo.params.followText "set-order")) }).IsList l its := ⟨_, hol2, rfl, nl, rfl⟩
        unfold Builtin.«set.__init__» noKeywords Builtin.Frozenset.updateFrom
        generalize hPI : pyIter = PIt
        wp_walk
        subst hPI
        refine wpAny_pyIter_list isl2 ?_
        refine wpAny_bind (wpAny_runValue ?_)
        have lS : l < t.heap.objs.size := Heap.lt_size hol
        have calm3 : Ar.in1.in1.in1.handled = none := by simp [calm]
        have neI : l ≠ (t.heap.push { cls := .type "set", dict := none, data := .set #[] 0 (.fresh 0 0 (!wo.params.followText "set-order")) }).objs.size := by
          rw [Heap.size_push]
          exact Nat.ne_of_lt (Nat.lt_succ_of_lt lS)
        have notF : t.heap.objs.size ∉ [(t.heap.push { cls := .type "set", dict := none, data := .set #[] 0 (.fresh 0 0 (!wo.params.followText "set-order")) }).objs.size, l] := by
          rw [Heap.size_push]
          simp only [List.mem_cons, List.not_mem_nil, or_false, not_or]
          exact ⟨Nat.ne_of_lt (Nat.lt_succ_self _), Nat.ne_of_gt lS⟩
        have vals : ∀ (i : Nat) (v : Value), its[i]? = some v → ∃ k u, ns[i]? = some k ∧ v = .int k u := fun i v hv => by
          have hi : i < ns.length := by
            rw [← len]
            exact (Array.getElem?_eq_some_iff.mp hv).1
          obtain ⟨u, e⟩ := PyProof.Rows.IntsAre.int_at intsA i v (by rw [Array.getElem?_toList]; exact hv)
          refine ⟨ns[i], u, List.getElem?_eq_getElem hi, ?_⟩
          rw [e, List.getD_eq_getElem?_getD, List.getElem?_eq_getElem hi] <;> rfl
        refine set_update_ints ((Walks.list calm3 _ l neI its).toS) t.heap.objs.size notF ns len few vals (its.size - 0) 0 _ (by omega) (Nat.zero_le _) ⟨⟨_, Heap.get?_push_size _ rfl, rfl, rfl⟩, (isl2.push _)⟩ ?first ?last
        case first =>
          exact ⟨0, Nat.le_refl 0, setR_new_at (Heap.get?_push_of_some _ hS)⟩
        case last =>
          intro t3 c3 mv hc3 hS3
          obtain ⟨hN, g3, d3, k3, os3⟩ := t3
          obtain rfl : g3 = t.gens := mv.gens
          obtain rfl : d3 = t.drawn := mv.drawn
          obtain rfl : os3 = t.os := mv.os
          show wpAny _ _ _ _ _ _
          refine wpAny_pure ?_
          show wpAny _ _ (ret Value.none) _ _ _
          rw [len] at hc3
          refine wpAny_pure ⟨rfl, hN, k3, c3, rfl, hS3, hc3, fun b ob e => ?_⟩
          have b0 : b < t.heap.objs.size := Heap.lt_size e
          have b2 : b ≠ (t.heap.push { cls := .type "set", dict := none, data := .set #[] 0 (.fresh 0 0 (!wo.params.followText "set-order")) }).objs.size := by
            rw [Heap.size_push]
            exact Nat.ne_of_lt (Nat.lt_succ_of_lt b0)
          exact mv.heap b ob (by simp only [List.mem_cons, List.not_mem_nil, or_false, not_or]; exact ⟨Nat.ne_of_lt b0, b2⟩) (Heap.get?_push_of_some _ (Heap.get?_push_of_some _ e))
      · cases r2 with
        | error e => exact hr2
        | ok fl2 =>
          cases fl2 with
          | ret r =>
            obtain ⟨rfl, hN, k, c2, rfl, hS2, hc2, hk2⟩ := hr2
            repeat (any_goals (first | assumption | wp_step))
            exact goal _ _ _ hS2 hc2 hk2
          | _ => exact hr2.elim
    | _ => exact hr.elim
end
/-- set(l), l a list of ints -/
def rSetI (K : PySem.W.Frag) (w : World) : List V → Hp → VK → Prop := fun vs H Q => ∃ (a : Addr) (ns : List Int), vs = [V.ref a] ∧ SqL K H a (ns.map V.int) ∧ ns.length + 1 < scanBound ∧ ∀ p c, H p = none → c ≤ ns.length → Q (.ref p) (upd H p (SetO w p (fun j => decide (j ∈ ns)) c))
theorem call_setI {X : Cx} (hc : X.calm = true) : CallR X (.type "set") (rSetI X.K X.w) := by
  intro pins s σ H vs us Q I r h
  obtain ⟨a, ns, rfl, hl, few, q⟩ := h
  rw [Vals.ref1 r]
  obtain ⟨its, rv, pl, _⟩ := I.list hl
  refine set_of_list ns (I.ok.hd hc) pl.isList (by rw [List.toList_toArray]; exact intsAre_of rv) few fun hN k c new hcl keep => ?_
  exact ⟨.ref _, upd H s.heap.objs.size (SetO X.w s.heap.objs.size (fun j => decide (j ∈ ns)) c), I.laid (t' := k) keep (Nat.le_refl _) (setO_new new), rfl, q _ c (I.hok.fresh (Nat.le_refl _)) hcl⟩
end CL

namespace CS
open PySem PySem.Spec PyProof.Rows L2
/-! ### more rules beside the layer's -/
section
variable {X : Cx}
/-- o.f as a target -/
def gFld (K : PySem.W.Frag) (to : TE) (f : Str) : TG := fun v σ H Q => to σ H fun x H1 => ∃ a C dx fs, x = .ref a ∧ H1 a = some (.ins C dx fs) ∧ Cls K C ∧ NoAttr K C f ∧ fs.length < 1000 ∧ Q σ (upd H1 a (.ins C dx (putF f v fs)))
theorem pg_fld {o : Expr} {f : Str} {pos : Pos} {to : TE} (ho : PE X o to) : PG X (.Attribute o f pos) (gFld X.K to f) := by
  refine ⟨fun pins s σ H v u Q I r h => ?_⟩
  rw [assign_Attribute]
  refine wpAny_bind (wpAny_holding (thn (ho.run pins s σ H _ I h) fun ov s1 ⟨x, H1, I1, r1, a, C, dx, fs, ex, ea, c, n, l, q⟩ => ?_))
  subst ex
  obtain rfl : ov = Value.ref a := r1
  refine wpAny_bind (wpAny_standAt (wpAny_bind (wpAny_holding (setattr_ok I1 ea c n l r fun s3 I3 => ?_))))
  exact wpAny_release ⟨σ, _, I3, q⟩
theorem pe_fldK {e : Expr} {f : Str} {pos : Pos} {ta : TE} (K : PySem.W.Frag) (hk : X.K = K) (he : PE X e ta) (hb : attributeBase e f X.env (eval e X.env) = eval e X.env) : PE X (.Attribute e f pos) (tFld K ta f) := by
  subst hk
  exact pe_fld he hb
def rLenQ (K : PySem.W.Frag) : List V → Hp → VK → Prop := fun xs H Q => ∃ p ys, xs = [.ref p] ∧ (SqL K H p ys ∨ SqT K H p ys) ∧ Q (.int ys.length) H
def rListQ (K : PySem.W.Frag) : List V → Hp → VK → Prop := fun xs H Q => ∃ p ys, xs = [.ref p] ∧ (SqL K H p ys ∨ SqT K H p ys) ∧ ∀ l, H l = none → Q (.ref l) (upd H l (.lst ys))
def rTupleQ (K : PySem.W.Frag) : List V → Hp → VK → Prop := fun xs H Q => ∃ p ys, xs = [.ref p] ∧ ((SqL K H p ys ∧ ∀ l, H l = none → Q (.ref l) (upd H l (.tup ys))) ∨ (SqT K H p ys ∧ Q (.ref p) H))
/-- // by a divisor of either sign -/
def CDivNW (_ j : Int) : Prop := j ≠ 0 ∧ j.natAbs.log2 < 9000
theorem op_fdivNW : OpR X (binaryOp .FloorDiv) (rI CDivNW fun i j => .int (i.fdiv j)) := opI fun _ _ _ _ _ _ _ hc q => floordiv_int hc.1 q (.inl (PyProof.noPylong_of_log2 hc.2))
theorem wide_divN {i j : Int} {b : Nat} (h : j ≠ 0) (hb : j.natAbs < 2 ^ b) (h0 : 0 < b) (h9 : b ≤ 9000) : CDivNW i j := ⟨h, Nat.lt_of_lt_of_le (PySem.Flt.log2_lt_of h0 hb) h9⟩
theorem kit_self {K : PySem.W.Frag} {C : Addr} : PySem.W.kitOne K (.ref C) (.ref C) = some true := by
  unfold PySem.W.kitOne
  rw [if_pos (by simp)]
theorem pe_revLK {e : Expr} {te : TE} {k : Nat} {p1 p2 p3 pos : Pos} (K : PySem.W.Frag) (hk : X.K = K) (he : PE X e te) : PE X (.Subscript e (.Slice none none (some (.UnaryOp .USub (.Constant (.int 1) k p1) p2)) p3) pos) (tRevL K te) := by
  subst hk
  exact pe_revL he
/-- x in s, a list or a tuple of data -/
def rInQ (K : PySem.W.Frag) : R2 := fun x y H Q => ∃ d ds, Dp K H x d ∧ (Dp K H y (.list ds) ∨ Dp K H y (.tuple ds)) ∧ SeqAt.shaped d = true ∧ SeqAt.shaped (.list ds) = true ∧ Q (.bl (ds.any fun z => PyData.eqv z d)) H
def rNotInQ (K : PySem.W.Frag) : R2 := fun x y H Q => ∃ d ds, Dp K H x d ∧ (Dp K H y (.list ds) ∨ Dp K H y (.tuple ds)) ∧ SeqAt.shaped d = true ∧ SeqAt.shaped (.list ds) = true ∧ Q (.bl (!ds.any fun z => PyData.eqv z d)) H
theorem op_inQ (hu : X.A.units + 65 < cLine) : OpR X (compareOp .In) (rInQ X.K) := by
  intro pins s σ H x y v u Q I rx ry h
  obtain ⟨d, ds, hd, he, sd, se, q⟩ := h
  obtain ⟨as, r1⟩ := Dp.reads I d x v hd rx
  rcases he with he | he
  · obtain ⟨bs, r2⟩ := Dp.reads I (.list ds) y u he ry
    exact SeqAt.in_list_reads r2 r1 (SeqAt.canLay_of_shaped se) (SeqAt.canLay_of_shaped sd) (room_in_shaped sd hu) ⟨.bl _, H, I, rfl, q⟩
  · obtain ⟨bs, r2⟩ := Dp.reads I (.tuple ds) y u he ry
    exact SeqAt.in_tuple_reads r2 r1 (SeqAt.canLay_of_shaped se) (SeqAt.canLay_of_shaped sd) (room_in_shaped sd hu) ⟨.bl _, H, I, rfl, q⟩
theorem op_notInQ (hu : X.A.units + 65 < cLine) : OpR X (compareOp .NotIn) (rNotInQ X.K) := by
  intro pins s σ H x y v u Q I rx ry h
  obtain ⟨d, ds, hd, he, sd, se, q⟩ := h
  obtain ⟨as, r1⟩ := Dp.reads I d x v hd rx
  rcases he with he | he
  · obtain ⟨bs, r2⟩ := Dp.reads I (.list ds) y u he ry
    exact SeqAt.notIn_list_reads r2 r1 (SeqAt.canLay_of_shaped se) (SeqAt.canLay_of_shaped sd) (room_in_shaped sd hu) ⟨.bl _, H, I, rfl, q⟩
  · obtain ⟨bs, r2⟩ := Dp.reads I (.tuple ds) y u he ry
    exact SeqAt.notIn_tuple_reads r2 r1 (SeqAt.canLay_of_shaped se) (SeqAt.canLay_of_shaped sd) (room_in_shaped sd hu) ⟨.bl _, H, I, rfl, q⟩
end
end CS

-- dictcomps
namespace CD
open PySem PySem.Spec PyProof.Rows L2
/-! ### d.update(xs), xs a list of pairs whose keys are ints or texts -/
section
variable {X : Cx}
def rUpdP : V → List V → Hp → VK → Prop := fun x xs H Q => ∃ (d a : Addr) (ps : List Addr) (kvs more : List (Key × V)), x = .ref d ∧ xs = [.ref a] ∧ H d = some (.dK kvs) ∧ H a = some (.lst (ps.map V.ref)) ∧ Paired (fun p kv => H p = some (.tup [kV kv.1, kv.2])) ps more ∧ kvs.length + more.length ≤ sizeLine ∧ Q .non (upd H d (.dK (mergeK kvs more)))
theorem paired_at {α β : Type} {R : α → β → Prop} : ∀ {l : List α} {m : List β} {i : Nat} {x : α}, Paired R l m → l[i]? = some x → ∃ y, m[i]? = some y ∧ R x y
  | _, _, _, _, .nil, h => by simp at h
  | _, _, 0, _, .cons (b := b) h _, e => ⟨b, rfl, (Option.some.inj e) ▸ h⟩
  | _, _, i + 1, _, .cons _ t, e => by
    obtain ⟨y, h1, h2⟩ := paired_at t (by simpa using e)
    exact ⟨y, by simpa using h1, h2⟩
theorem pairs_ofK {pins : List (Addr × Obj)} {σ : L2.St} {H : Hp} {s : Shared} (I : Inv X pins σ H s) : ∀ {ps : List Addr} {kvs : List (Key × V)}, Paired (fun p kv => H p = some (.tup [kV kv.1, kv.2])) ps kvs →
    ∃ ys : List (Key × Value × Value), KV kvs (ys.map fun y => (y.1, y.2.2)) ∧ ys.length = ps.length ∧ ∀ (j : Nat) (y : Key × Value × Value), ys[j]? = some y → ∃ b, ps[j]? = some b ∧ s.heap.IsTuple b #[y.2.1, y.2.2] ∧ keyIs y.1 y.2.1 = true
  | _, _, .nil => ⟨[], .nil, rfl, fun j q e => by simp at e⟩
  | _, _, .cons (a := p) (b := kv) h t => by
    obtain ⟨ys, r, hl, hp⟩ := pairs_ofK I t
    obtain ⟨its, rv, ht, _⟩ := I.tuple (SqT.of h)
    obtain ⟨u, y, ei, ru, ry⟩ := vals2 rv
    subst ei
    refine ⟨(kv.1, u, y) :: ys, .cons ⟨rfl, ry⟩ r, by rw [List.length_cons, List.length_cons, hl], fun j q e => ?_⟩
    cases j with
    | zero =>
      obtain rfl := Option.some.inj e
      obtain ⟨o, ho, hc, n, hd⟩ := ht
      exact ⟨p, rfl, ⟨o, ho, hc, n, hd⟩, kV_is (P := X.prog) (w := X.w) ru⟩
    | succ j =>
      obtain ⟨b, e1, e2, e3⟩ := hp j q (by simpa using e)
      exact ⟨b, by simpa using e1, e2, e3⟩
theorem mt_updP (hcalm : X.calm = true) : MtR X "dict.update" rUpdP := by
  intro pins s σ H x xs v us Q I rx rxs h
  obtain ⟨d, a, ps, kvs, more, rfl, rfl, hD, hA, hp, le, q⟩ := h
  cases rx
  cases rxs with
  | cons r1 r2 =>
    cases r1
    cases r2
    obtain ⟨_, hsys, vs, rel, dd⟩ := dk_of I.hok hD
    obtain ⟨its, rv, pl, hz⟩ := I.list (SqL.of hA)
    have ei := refs_at rv
    subst ei
    obtain ⟨ys, rk, hl, hpr⟩ := pairs_ofK I hp
    obtain ⟨o, n, ho, hc, hdd, hdat⟩ := pl
    let Ts : Nat → Addr := fun j => (ps[j]?).getD 0
    let prs : List (Value × Value) := ys.map fun y => (y.2.1, y.2.2)
    have lp : prs.length = ps.length := by simp [prs, hl]
    have hTs : ∀ {j : Nat} {p : Addr}, ps[j]? = some p → Ts j = p := fun {j p} e => by
      show (ps[j]?).getD 0 = p
      rw [e]
      rfl
    have P := PairArg.list (prog := X.prog) (w := X.w) a (ps.map Value.ref).toArray Ts prs
    have ok : PlainSeq "list" s.heap a (ps.map Value.ref).toArray ∧ PairItems s.heap (ps.map Value.ref).toArray Ts prs := by
      refine ⟨⟨o, n, ho, hc, hdd, hdat⟩, by rw [List.size_toArray, lp, List.length_map], fun j k v e => ?_⟩
      have e2 : (ys.map fun y => (y.2.1, y.2.2))[j]? = some (k, v) := e
      rw [List.getElem?_map] at e2
      obtain ⟨y, hy, ey⟩ := Option.map_eq_some_iff.mp e2
      obtain ⟨p, h1, h2, h3⟩ := hpr j y hy
      obtain ⟨rfl, rfl⟩ := Prod.mk.inj ey
      rw [hTs h1]
      exact ⟨by simp [h1], .inl h2⟩
    have far : d ∉ a :: (List.range prs.length).map Ts := fun z => by
      rcases List.mem_cons.mp z with z | z
      · rw [z, hA] at hD
        cases hD
      · obtain ⟨j, hj, e⟩ := List.mem_map.mp z
        have hj2 : j < ps.length := by
          have := List.mem_range.mp hj
          omega
        obtain ⟨kv, _, h1⟩ := paired_at hp (List.getElem?_eq_getElem hj2)
        rw [hTs (List.getElem?_eq_getElem hj2)] at e
        rw [← e, h1] at hD
        cases hD
    have lm : more.length = ys.length := by
      have := rk.length
      rw [List.length_map] at this
      exact this
    have lv : vs.length = kvs.length := rel.length.symm
    refine call_update_pairs (knd := mixKind X.prog X.w) (acc := vs) (kvs := ys.map fun y => (y.1, y.2.2)) P (I.ok.hd hcalm) ok far ⟨by simp [prs], fun i key v e => ?_⟩ dd (by rw [lp]; omega) fun h' tk dd' k => ?_
    · have e2 : (ys.map fun y => (y.2.1, y.2.2))[i]? = some (key, v) := e
      rw [List.getElem?_map] at e2
      obtain ⟨⟨y1, y2, y3⟩, hy, ey⟩ := Option.map_eq_some_iff.mp e2
      obtain ⟨rfl, rfl⟩ := Prod.mk.inj ey
      obtain ⟨_, _, _, h3⟩ := hpr i _ hy
      exact ⟨y1, by rw [List.getElem?_map, hy]; rfl, h3⟩
    · have ln : (mergeK kvs more).length ≤ sizeLine := Nat.le_trans (length_mergeK more kvs) le
      have new : ∀ H' : Hp, ObjOk X.prog X.w H' h' d (.dK (mergeK kvs more)) := fun H' => dk_new ln hsys (KV.merge rk rel) dd'
      obtain ⟨o2, es, ep, hq, _⟩ := id dd'
      exact ⟨.non, _, I.write (x := d) (e := d) (t' := tk) (by rw [hD]; exact True.intro) (.inl rfl) (fun b ob hb z => k b ob hb (by simp) z) ⟨o2, hq⟩ (new _), rfl, q⟩
end
end CD

/-! ### promises for callers that print nothing yet, and repr -/
namespace CG
open PySem PySem.Spec PyProof.Rows L2
/-- a promise that is kept where nothing is being printed -/
structure FnOkG (P : Program) (w : World) (K : PySem.W.Frag) (mg : Str → Option Value) (base : Heap) (k : Nat) (f : Addr) (fd : FuncData) (ps : List Str) (sp : Sp) : Prop where
  size : ∀ vs H Q E, sp vs H Q E → vs.length = ps.length
  go : ∀ (A : Around) (fr : List Env) (s : Shared) (H : Hp) (as : Args) (us : List Value) (vs : List V) (Q : VK) (E : XK), A.guards = some [] → Room k A → Env0 P w K mg base A fr s H → BindsTo s fd as (ps.zip us) → Vals vs us → sp vs H Q E →
    codeAny (model P w) A (.call (.ref f) as) (CR CX0 fr P w H s Q E) s
theorem FnOkG.of {P : Program} {w : World} {K : PySem.W.Frag} {mg : Str → Option Value} {base : Heap} {k : Nat} {f : Addr} {fd : FuncData} {ps : List Str} {sp : Sp} (F : FnOk P w K mg base CX0 k f fd ps sp) : FnOkG P w K mg base k f fd ps sp :=
  ⟨F.len, fun A fr s H as us vs Q E _ => F.run A fr s H as us vs Q E⟩
section
variable {P : Program} {w : World} {K : PySem.W.Frag} {mg : Str → Option Value} {base : Heap}
/-- a def by its body, where nothing is being printed -/
theorem okG {x qual : Str} {st : Stmt} {f : Addr} {fd : FuncData} {N ps : List Str} {k : Nat} {sp : Sp} (F : Fun K x qual st f fd) (S : FnScope N ps (defScope st)) (len : ∀ vs H Q E, sp vs H Q E → vs.length = ps.length)
    (body : ∀ (cdv : Value) (A : Around) (fr : List Env) (s : Shared) (H : Hp) (vs : List V) (Q : VK) (E : XK), A.guards = some [] → Room k (A.deeper (envOfC qual (defScope st) s.heap.objs.size f cdv)) → sp vs H Q E →
      ∃ t, PSs (cxOf CX0 P w K mg base N qual (defScope st) f cdv A fr s H E).nox (defBody st) t ∧ t { nx := fun _ H' => Q .non H', rt := Q } (start N vs) H) : FnOkG P w K mg base (k + 1) f fd ps sp := by
  obtain ⟨o1, o2, d1, d2, d3, o3, cd, ct, o4, rfl, look, code⟩ := F.ex
  refine ⟨len, fun A fr s H as us vs Q E gd room en bind rel want => ?_⟩
  have kin : K.In s.heap := en.mod.kin.keeps fun b o e => (en.bs b o e).1
  have nolim : s.heap.NoLimit := en.mod.nolimit.keeps fun b o e => (en.bs b o e).1
  have kinds : ∀ y ∈ ps.zip us, (defScope st).names.lookup y.1 = some .local ∨ ((defScope st).names.lookup y.1 = some .cell ∧ ((cellsFrom (s.heap.objs.size + 1) (defScope st).names []).lookup y.1).isSome = true) := fun ⟨n, v⟩ hy =>
    (S.par n (List.of_mem_zip hy).1).imp id fun q => ⟨q, PySem.W.cellsFrom_some _ _ _ (.inl q)⟩
  refine codeAny_call_function room.depth (kin _ _ look) rfl S.co S.gen rfl (PySem.W.codeRec_of kin code) (bind _ _ _ _ ?_)
  refine wpAny_newFunctionEnv_cells S.kind kinds fun env isEnv s1 entry => ?_
  subst isEnv
  refine ⟨nolim.keeps entry.toInCall.keep, codeAny_func ?_⟩
  obtain ⟨t, rule, reading⟩ := body cd A fr s H vs Q E gd (room.deeper _) want
  have start1 : Inv (cxOf CX0 P w K mg base N qual (defScope st) f cd A fr s H E) [] (start N vs) H s1 := inv_start S room.hd en (len _ _ _ _ want) rel entry
  refine wpAny_mono (rule.nox.run [] s1 (start N vs) H _ start1 reading) (fun fl s' out => ?_) fun e s' out => out
  have close : ∀ {τ : L2.St} {H' : Hp} {v : V} {u : Value}, Inv (cxOf CX0 P w K mg base N qual (defScope st) f cd A fr s H E) [] τ H' s' → RelV v u → Q v H' → CE fr P w H s Q u s' :=
    fun {τ H' v u} J rv q => ⟨v, H', J.os, J.bare, J.base, J.hok, rv, q⟩
  match fl, out with
  | .ret u, ⟨_, _, _, J, rv, q⟩ => exact close J rv q
  | .next, ⟨_, _, J, q⟩ => exact close (v := V.non) (u := Value.none) J rfl q
  | .brk, ⟨_, _, _, q⟩ => exact q.elim
  | .cont, ⟨_, _, _, q⟩ => exact q.elim
end
section
variable {X : Cx} {k : Nat} {f : Addr} {fd : FuncData} {ps : List Str} {sp : Sp} {dvs : List V} {ds : List Value} {E : XK} {x : Str} {p pos : Pos} {e : Expr} {es : List Expr} {t : TA}
theorem goG {pins : List (Addr × Obj)} {σ : L2.St} {H : Hp} {s : Shared} {Q : VK} {us : List Value} {vs : List V} (F : FnOkG X.prog X.w X.K X.mg X.base k f fd ps sp) (gd : X.A.guards = some []) (room : Room k X.A) (bind : Binds X.K fd ps ds) (hd : Vals dvs ds) (pass : Passes CX0 X E)
    (I : Inv X pins σ H s) (rel : Vals vs us) (want : sp (vs ++ dvs) H Q E) : wpAny (model X.prog X.w) X.A (call (.ref f) us) (EP X pins σ Q) X.xe s := by
  have both : Vals (vs ++ dvs) (us ++ ds) := rel.append hd
  have size : (us ++ ds).length = ps.length := both.length.symm.trans (F.size _ _ _ _ want)
  refine wpAny_call (codeAny_mono (F.go X.A X.stack s H ⟨us, []⟩ (us ++ ds) (vs ++ dvs) Q E gd room I.env0 (bind s us I.kIn size) both want) fun out s' q => ?_)
  match out, q with
  | .error err, q => exact pass pins σ H s err s' I q
  | .ok (.ret u), q => exact I.after q
/-- the call of a def that wants nothing to be printed -/
theorem pe_callG (F : FnOkG X.prog X.w X.K X.mg X.base k f fd ps sp) (gd : X.A.guards = some []) (room : Room k X.A) (hg : Gl X x) (hm : X.mg x = some (.ref f)) (hk : PySem.W.keepIn X.K (.ref f) = true) (bind : Binds X.K fd ps ds) (hd : Vals dvs ds) (pass : Passes CX0 X E)
    (args : PA X (e :: es) t) (hdb : (x == ("__debug__" : Str)) = false := by decide) (he : starEach (e :: es) X.env = (false, eval e X.env) :: starEach es X.env := by rfl) (hpl : (backTo pos (starEach es X.env)).any (·.1) = false := by rfl) :
    PE X (.Call (.Name x p) (e :: es) [] pos) (tCall sp dvs E t) :=
  ⟨fun pins s σ H Q I h => wpAny_Call_Name_kw (ld_glob I hg hm (PySem.W.callWith_K (h₀ := X.base) I.ok.mod.kin hk (thn (args.run pos pins s σ H _ I h) fun us s1 ⟨vs, H1, I1, r, q⟩ => ⟨I1.kIn, goG F gd room bind hd pass I1 r q⟩) he hpl) hdb)⟩
/-- repr(x) of data that are known -/
def rRepr (K : PySem.W.Frag) : List V → Hp → VK → Prop := fun vs H Q => ∃ (a : Addr) (d : PyData), vs = [V.ref a] ∧ Dp K H (.ref a) d ∧ d.showable = true ∧ d.hasDict = false ∧ d.shown.length ≤ sizeLine ∧ d.depth ≤ 60 ∧ Q (.str d.shown) H
theorem cr_repr (gd : X.A.guards = some []) (hu : X.A.units + 65 < cLine) : CallR X (.builtin "repr") (rRepr X.K) := by
  intro pins s σ H vs us Q I r h
  obtain ⟨a, d, rfl, hd, sh, nd, lz, dp, q⟩ := h
  rw [Vals.ref1 r]
  obtain ⟨as, rd⟩ := Dp.reads I _ (.ref a) _ hd rfl
  refine repr_of_reads' rd sh (fun z => absurd (nd.symm.trans z) (by decide)) gd (by omega) (fun _ _ e => e) (fun h' u tk hk => ?_) lz
  exact ⟨.str d.shown, H, I.kept (t' := tk) hk, ⟨_, rfl⟩, q⟩
end
/-- the law at its script, from a promise of that kind -/
theorem law_callG {P : Program} {w : World} {K : PySem.W.Frag} {mg mb : Str → Option Value} {k : Nat} {fa a : Addr} {fd : FuncData} {x : Str} {sp : Sp} {s₁ : Shared} {us : List Value} {ms : List Int}
    (inK : K.In s₁.heap) (g1 : s₁.heap.Ns mainGlobals mg) (g2 : s₁.heap.Ns builtinsNs mb) (g3 : ∀ x : Str, x ≠ "__name__" → mb x = bootBuiltins x) (g4 : s₁.heap.NoLimit) (g5 : s₁.gens = #[])
    (at_a : s₁.heap.get? a = some { cls := .type "list", data := .seq us.toArray }) (are : IntsAre us ms) (short : ms.length ≤ sizeLine) (room : Room k callerA)
    (F : ∀ base : Heap, K.In base → base.Ns mainGlobals mg → FnOkG P w K mg base k fa fd [x] sp) (bind : ∀ (s : Shared) (u : Value), BindsTo s fd ⟨[u], []⟩ [(x, u)])
    (want : ∀ H : Hp, Only H → SqL K H a (ms.map V.int) → sp [.ref a] H (fun v _ => v = .bl true) fun _ _ _ => False) :
    codeAny (model P w) callerA (.call (.ref fa) ⟨[.ref a], []⟩) (fun r s' => r = .ok (.ret (.bool true)) ∧ OldK s₁.heap s'.heap ∧ s'.os = s₁.os ∧ AllBare s'.gens) s₁ := by
  have vals := vals_ints are
  have many := are.length
  have main : ∀ H : Hp, Only H → SqL K H a (ms.map V.int) → HOk P w H s₁.heap → (∀ b, H b ≠ none → b = a) → (H a ≠ none → K.lookup a = none) →
      codeAny (model P w) callerA (.call (.ref fa) ⟨[.ref a], []⟩) (fun r s' => r = .ok (.ret (.bool true)) ∧ OldK s₁.heap s'.heap ∧ s'.os = s₁.os ∧ AllBare s'.gens) s₁ := by
    intro H only seq hok just out
    have hid : ∀ {b : Addr} {o : Obj} {es : Array DictEntry} {n : Nat}, s₁.heap.get? b = some o → o.data = .dict es n → H b = none := fun {b o es n} e d => Classical.byContradiction fun z => by
      rw [just b z, at_a] at e
      obtain rfl := Option.some.inj e
      exact absurd (show Data.seq us.toArray _ = Data.dict es n from d) (fun z => nomatch z)
    have names : ∀ {b : Addr} {m : Str → Option Value}, s₁.heap.Ns b m → (hidT s₁.heap H).Ns b m := fun {b m} ⟨o, es, n, e, d, r⟩ => ⟨o, es, n, hidT_get e (hid e d), d, r⟩
    have inB : K.In (hidT s₁.heap H) := fun b o e => hidT_get (inK b o e) (Classical.byContradiction fun z => by
      have ba := just b z
      rw [ba] at z e
      rw [out z] at e
      exact absurd e (fun z => nomatch z))
    have known : Mod K mg (hidT s₁.heap H) := ⟨inB, names g1, ⟨mb, names g2, g3⟩, g4.elim fun mc z => ⟨mc, names z.1, z.2⟩⟩
    have entry : Env0 P w K mg (hidT s₁.heap H) callerA [] s₁ H := ⟨rfl, known, fun b o e => of_hidT e, Nat.le_of_eq (hidT_size _ _), trivial, fun b z => (List.not_mem_nil z).elim, hok, .of_eq g5⟩
    refine codeAny_mono ((F _ inB (names g1)).go callerA [] s₁ H ⟨[.ref a], []⟩ [.ref a] [.ref a] _ _ rfl room entry (bind s₁ (.ref a)) (.cons rfl .nil) (want H only seq)) fun r s' h => ?_
    match r, h with
    | .ok (.ret u), ⟨v, H', os, bare, un, hok', rel, (q : v = .bl true)⟩ =>
      subst q
      obtain rfl : u = Value.bool true := rel
      refine ⟨rfl, OldK.of_keep fun b o e => ?_, os, bare⟩
      rcases only b with z | ⟨ob, xs, z⟩
      · exact un.keep b o e z (fun m => (List.not_mem_nil m).elim) (by simp)
      · have e1 := (hok b _ z).1
        have e2 := (hok' b _ (un.frzs b ob _ z)).1
        rw [e] at e1
        rw [Option.some.inj e1]
        exact e2
  cases look : K.lookup a with
  | some o =>
    obtain rfl := Option.some.inj (at_a.symm.trans (inK a o look))
    exact main (fun _ => none) (fun _ => .inl rfl) (.inr ⟨_, us.toArray, _, look, rfl, rfl, rfl, by simpa [many] using short, by simpa using vals⟩) (fun b u z => (nomatch (show (none : Option HO) = some u from z))) (fun b z => (z rfl).elim) fun z => (z rfl).elim
  | none =>
    let O : Obj := { cls := .type "list", data := .seq us.toArray }
    let G : Hp := fun b => if b = a then some (.frz O (.lst (ms.map V.int))) else none
    have gA : G a = some (.frz O (.lst (ms.map V.int))) := if_pos rfl
    have gN : ∀ b, b ≠ a → G b = none := fun b n => if_neg n
    refine main G (fun b => ?_) (.inl (.inr ⟨O, gA⟩)) (fun b u z => ?_) (fun b z => Classical.byContradiction fun n => z (gN b n)) fun _ => look
    · rcases Decidable.em (b = a) with rfl | n
      · exact .inr ⟨_, _, gA⟩
      · exact .inl (gN b n)
    · rcases Decidable.em (b = a) with rfl | n
      · obtain rfl := Option.some.inj (gA.symm.trans z)
        exact ⟨at_a, by rw [List.length_map]; exact short, us, _, vals, at_a⟩
      · exact absurd (gN b n) (by rw [z]; exact fun e => nomatch e)
/-- a law's end, from a promise of that kind -/
theorem walk_ofG {l : PySem.W.OpenLaw} {n k : Nat} {q : Program} {loose : List Str} {XP : (Str → Option Value) → Heap → Prop} {YP : World → Heap → Prop} {d : DefRec} {x : Str}
    (most : l.most = some n) (small : n ≤ sizeLine) (plain : d.params.defaults = []) (room : Room k callerA)
    (F : ∀ (w : World) (mg : Str → Option Value) (fa : Addr) (h : Heap), YP w h → h.Ns mainGlobals mg → mg d.name = some (.ref fa) →
      ∃ (K : PySem.W.Frag) (fd : FuncData) (sp : Sp), K.In h ∧ (∀ (s : Shared) (u : Value), BindsTo s fd ⟨[u], []⟩ [(x, u)]) ∧
        (∀ (H : Hp) (a : Addr) (ms : List Int), ms.length ≤ n → Only H → SqL K H a (ms.map V.int) → sp [.ref a] H (fun v _ => v = .bl true) fun _ _ _ => False) ∧
        ∀ base : Heap, K.In base → base.Ns mainGlobals mg → FnOkG l.prog w K mg base k fa fd [x] sp) :
    PySem.W.WalkO q loose XP YP l.row.toRowW d [] (fun f vs => PySem.call f vs) :=
  Att.attach_call most plain fun w s₀ s₁ mg mb fa o pm cd doc a us ms G Y ho hd hcd named at_a are len gens => by
    obtain ⟨K, fd, sp, inK, bind, want, prom⟩ := F w mg fa _ Y G.T.g named
    exact law_callG inK G.T.g G.T.b G.T.builtins G.T.nolimit gens at_a are (Nat.le_trans len small) room prom bind fun H only seq => want H a ms len only seq
end CG

namespace CS
open PySem PySem.Spec PyProof.Rows L2
def top (i : Nat) : Stmt := PySem.Challenge.pw_calledseats_k53_sums_on_small_rings.main.body.getD i (.Pass ⟨0, 0, 0, 0⟩)
abbrev s_is_integer : Stmt := top 6
abbrev N_is_integer : List Str := ["value"]
theorem sc_is_integer : FnScope N_is_integer ["value"] (defScope s_is_integer) := ⟨rfl, rfl, rfl, by decide +kernel, rfl, by decide +kernel, by decide +kernel⟩
abbrev s_is_at_least : Stmt := top 7
abbrev N_is_at_least : List Str := ["value", "low"]
theorem sc_is_at_least : FnScope N_is_at_least ["value", "low"] (defScope s_is_at_least) := ⟨rfl, rfl, rfl, by decide +kernel, rfl, by decide +kernel, by decide +kernel⟩
abbrev s_is_between : Stmt := top 8
abbrev N_is_between : List Str := ["value", "low", "high"]
theorem sc_is_between : FnScope N_is_between ["value", "low", "high"] (defScope s_is_between) := ⟨rfl, rfl, rfl, by decide +kernel, rfl, by decide +kernel, by decide +kernel⟩
abbrev s_require_at_least : Stmt := top 9
abbrev N_require_at_least : List Str := ["value", "low", "name"]
theorem sc_require_at_least : FnScope N_require_at_least ["value", "low", "name"] (defScope s_require_at_least) := ⟨rfl, rfl, rfl, by decide +kernel, rfl, by decide +kernel, by decide +kernel⟩
abbrev s_require_places : Stmt := top 13
abbrev N_require_places : List Str := ["size", "targets", "seen", "index", "target"]
theorem sc_require_places : FnScope N_require_places ["size", "targets"] (defScope s_require_places) := ⟨rfl, rfl, rfl, by decide +kernel, rfl, by decide +kernel, by decide +kernel⟩
abbrev s_require_place : Stmt := top 14
abbrev N_require_place : List Str := ["size", "place", "name"]
theorem sc_require_place : FnScope N_require_place ["size", "place", "name"] (defScope s_require_place) := ⟨rfl, rfl, rfl, by decide +kernel, rfl, by decide +kernel, by decide +kernel⟩
abbrev s_require_limit : Stmt := top 15
abbrev N_require_limit : List Str := ["number", "limit"]
theorem sc_require_limit : FnScope N_require_limit ["number", "limit"] (defScope s_require_limit) := ⟨rfl, rfl, rfl, by decide +kernel, rfl, by decide +kernel, by decide +kernel⟩
abbrev s_rotated : Stmt := top 16
abbrev N_rotated : List Str := ["size", "bits", "shift", "moved"]
theorem sc_rotated : FnScope N_rotated ["size", "bits", "shift"] (defScope s_rotated) := ⟨rfl, rfl, rfl, by decide +kernel, rfl, by decide +kernel, by decide +kernel⟩
abbrev s_doubled : Stmt := top 17
abbrev N_doubled : List Str := ["size", "bits", "found", "place"]
theorem sc_doubled : FnScope N_doubled ["size", "bits"] (defScope s_doubled) := ⟨rfl, rfl, rfl, by decide +kernel, rfl, by decide +kernel, by decide +kernel⟩
abbrev s_bits_of : Stmt := top 18
abbrev N_bits_of : List Str := ["places", "found", "place"]
theorem sc_bits_of : FnScope N_bits_of ["places"] (defScope s_bits_of) := ⟨rfl, rfl, rfl, by decide +kernel, rfl, by decide +kernel, by decide +kernel⟩
abbrev s_sum_layers : Stmt := top 19
abbrev N_sum_layers : List Str := ["size", "targets", "calls", "found", "number"]
theorem sc_sum_layers : FnScope N_sum_layers ["size", "targets", "calls"] (defScope s_sum_layers) := ⟨rfl, rfl, rfl, by decide +kernel, rfl, by decide +kernel, by decide +kernel⟩
abbrev s_min_calls_on_ring : Stmt := top 20
abbrev N_min_calls_on_ring : List Str := ["size", "targets", "place", "bits", "calls"]
theorem sc_min_calls_on_ring : FnScope N_min_calls_on_ring ["size", "targets", "place"] (defScope s_min_calls_on_ring) := ⟨rfl, rfl, rfl, by decide +kernel, rfl, by decide +kernel, by decide +kernel⟩
abbrev s_halved : Stmt := top 21
abbrev N_halved : List Str := ["size", "bits", "amounts", "mirrored", "found", "total", "amount", "both", "first", "place"]
theorem sc_halved : FnScope N_halved ["size", "bits", "amounts"] (defScope s_halved) := ⟨rfl, rfl, rfl, by decide +kernel, rfl, by decide +kernel, by decide +kernel⟩
abbrev s_sum_counts : Stmt := top 22
abbrev N_sum_counts : List Str := ["size", "targets", "place", "calls", "layers", "total", "amounts", "bits", "target"]
theorem sc_sum_counts : FnScope N_sum_counts ["size", "targets", "place", "calls"] (defScope s_sum_counts) := ⟨rfl, rfl, rfl, by decide +kernel, rfl, by decide +kernel, by decide +kernel⟩
abbrev s_law_cell_at : Stmt := top 24
abbrev N_law_cell_at : List Str := ["_law_script", "_law_k"]
theorem sc_law_cell_at : FnScope N_law_cell_at ["_law_script", "_law_k"] (defScope s_law_cell_at) := ⟨rfl, rfl, rfl, by decide +kernel, rfl, by decide +kernel, by decide +kernel⟩
abbrev s_law_source : Stmt := top 25
abbrev N_law_source : List Str := ["_law_cell"]
theorem sc_law_source : FnScope N_law_source ["_law_cell"] (defScope s_law_source) := ⟨rfl, rfl, rfl, by decide +kernel, rfl, by decide +kernel, by decide +kernel⟩
abbrev s_law_take : Stmt := top 26
abbrev N_law_take : List Str := ["_law_source_here", "_law_bound", "_law_digit", "_law_prime", "_law_mixed"]
theorem sc_law_take : FnScope N_law_take ["_law_source_here", "_law_bound"] (defScope s_law_take) := ⟨rfl, rfl, rfl, by decide +kernel, rfl, by decide +kernel, by decide +kernel⟩
abbrev s_law_large : Stmt := top 27
abbrev N_law_large : List Str := ["_law_source_here", "_law_bound", "_law_total", "_law_part"]
theorem sc_law_large : FnScope N_law_large ["_law_source_here", "_law_bound"] (defScope s_law_large) := ⟨rfl, rfl, rfl, by decide +kernel, rfl, by decide +kernel, by decide +kernel⟩
abbrev s_law_targets : Stmt := top 28
abbrev N_law_targets : List Str := ["_law_source_here", "_law_ring", "_law_bound", "_law_found", "_law_turn", "_law_spot"]
theorem sc_law_targets : FnScope N_law_targets ["_law_source_here", "_law_ring", "_law_bound"] (defScope s_law_targets) := ⟨rfl, rfl, rfl, by decide +kernel, rfl, by decide +kernel, by decide +kernel⟩
abbrev s_law_is_sum : Stmt := top 29
abbrev N_law_is_sum : List Str := ["_law_ring", "_law_goals", "_law_spot", "_law_depth", "_law_amounts", "_law_total", "_law_one", "_law_amount", "_law_goal"]
theorem sc_law_is_sum : FnScope N_law_is_sum ["_law_ring", "_law_goals", "_law_spot", "_law_depth", "_law_amounts"] (defScope s_law_is_sum) := ⟨rfl, rfl, rfl, by decide +kernel, rfl, by decide +kernel, by decide +kernel⟩
abbrev s_law_doubled : Stmt := top 30
abbrev N_law_doubled : List Str := ["_law_ring", "_law_present", "_law_found", "_law_spots", "_law_one", "_law_other", "_law_spot"]
theorem sc_law_doubled : FnScope N_law_doubled ["_law_ring", "_law_present"] (defScope s_law_doubled) := ⟨rfl, rfl, rfl, by decide +kernel, rfl, by decide +kernel, by decide +kernel⟩
abbrev s_law_reached : Stmt := top 31
abbrev N_law_reached : List Str := ["_law_ring", "_law_goals", "_law_depth", "_law_found", "_law_turn", "_law_spot"]
theorem sc_law_reached : FnScope N_law_reached ["_law_ring", "_law_goals", "_law_depth"] (defScope s_law_reached) := ⟨rfl, rfl, rfl, by decide +kernel, rfl, by decide +kernel, by decide +kernel⟩
abbrev s_law_least : Stmt := top 32
abbrev N_law_least : List Str := ["_law_ring", "_law_goals", "_law_spot", "_law_gap", "_law_depth", "_law_start", "_law_span", "_law_totals", "_law_j"]
theorem sc_law_least : FnScope N_law_least ["_law_ring", "_law_goals", "_law_spot"] (defScope s_law_least) := ⟨rfl, rfl, rfl, by decide +kernel, rfl, by decide +kernel, by decide +kernel⟩
abbrev s_law_long_scene : Stmt := top 33
abbrev N_law_long_scene : List Str := ["_law_source_here", "_law_ring", "_law_start", "_law_goals", "_law_spots"]
theorem sc_law_long_scene : FnScope N_law_long_scene ["_law_source_here"] (defScope s_law_long_scene) := ⟨rfl, rfl, rfl, by decide +kernel, rfl, by decide +kernel, by decide +kernel⟩
abbrev s_law_long_right : Stmt := top 34
abbrev N_law_long_right : List Str := ["_law_source_here", "_law_ring", "_law_goals", "_law_spot", "_law_least_here"]
theorem sc_law_long_right : FnScope N_law_long_right ["_law_source_here"] (defScope s_law_long_right) := ⟨rfl, rfl, rfl, by decide +kernel, rfl, by decide +kernel, by decide +kernel⟩
abbrev s_law_right : Stmt := top 35
abbrev N_law_right : List Str := ["_law_ring", "_law_goals", "_law_spot", "_law_depth", "_law_due", "_law_before", "_law_found", "_law_as_was"]
theorem sc_law_right : FnScope N_law_right ["_law_ring", "_law_goals", "_law_spot", "_law_depth", "_law_due"] (defScope s_law_right) := ⟨rfl, rfl, rfl, by decide +kernel, rfl, by decide +kernel, by decide +kernel⟩
abbrev s_law : Stmt := top 36
abbrev N_law : List Str := ["_law_script", "_law_cell", "_law_source_here", "_law_ring", "_law_goals", "_law_depth", "_law_reached_here", "_law_turn", "_law_spot", "_law_dues", "_law_number", "_law_due", "_law_least_here"]
theorem sc_law : FnScope N_law ["_law_script"] (defScope s_law) := ⟨rfl, rfl, rfl, by decide +kernel, rfl, by decide +kernel, by decide +kernel⟩
/-- what the top has written -/
structure TX (K : PySem.W.Frag) (mg : Str → Option Value) where
  f_is_integer : Addr
  fd_is_integer : FuncData
  F_is_integer : Fun K "is_integer" "is_integer" s_is_integer f_is_integer fd_is_integer
  b_is_integer : Binds K fd_is_integer ["value"] []
  m_is_integer : mg "is_integer" = some (.ref f_is_integer)
  f_is_at_least : Addr
  fd_is_at_least : FuncData
  F_is_at_least : Fun K "is_at_least" "is_at_least" s_is_at_least f_is_at_least fd_is_at_least
  b_is_at_least : Binds K fd_is_at_least ["value", "low"] []
  m_is_at_least : mg "is_at_least" = some (.ref f_is_at_least)
  f_is_between : Addr
  fd_is_between : FuncData
  F_is_between : Fun K "is_between" "is_between" s_is_between f_is_between fd_is_between
  b_is_between : Binds K fd_is_between ["value", "low", "high"] []
  m_is_between : mg "is_between" = some (.ref f_is_between)
  f_require_at_least : Addr
  fd_require_at_least : FuncData
  F_require_at_least : Fun K "require_at_least" "require_at_least" s_require_at_least f_require_at_least fd_require_at_least
  b_require_at_least : Binds K fd_require_at_least ["value", "low", "name"] []
  m_require_at_least : mg "require_at_least" = some (.ref f_require_at_least)
  f_require_places : Addr
  fd_require_places : FuncData
  F_require_places : Fun K "require_places" "require_places" s_require_places f_require_places fd_require_places
  b_require_places : Binds K fd_require_places ["size", "targets"] []
  m_require_places : mg "require_places" = some (.ref f_require_places)
  f_require_place : Addr
  fd_require_place : FuncData
  F_require_place : Fun K "require_place" "require_place" s_require_place f_require_place fd_require_place
  b_require_place : Binds K fd_require_place ["size", "place", "name"] []
  m_require_place : mg "require_place" = some (.ref f_require_place)
  f_require_limit : Addr
  fd_require_limit : FuncData
  F_require_limit : Fun K "require_limit" "require_limit" s_require_limit f_require_limit fd_require_limit
  b_require_limit : Binds K fd_require_limit ["number", "limit"] []
  m_require_limit : mg "require_limit" = some (.ref f_require_limit)
  f_rotated : Addr
  fd_rotated : FuncData
  F_rotated : Fun K "rotated" "rotated" s_rotated f_rotated fd_rotated
  b_rotated : Binds K fd_rotated ["size", "bits", "shift"] []
  m_rotated : mg "rotated" = some (.ref f_rotated)
  f_doubled : Addr
  fd_doubled : FuncData
  F_doubled : Fun K "doubled" "doubled" s_doubled f_doubled fd_doubled
  b_doubled : Binds K fd_doubled ["size", "bits"] []
  m_doubled : mg "doubled" = some (.ref f_doubled)
  f_bits_of : Addr
  fd_bits_of : FuncData
  F_bits_of : Fun K "bits_of" "bits_of" s_bits_of f_bits_of fd_bits_of
  b_bits_of : Binds K fd_bits_of ["places"] []
  m_bits_of : mg "bits_of" = some (.ref f_bits_of)
  f_sum_layers : Addr
  fd_sum_layers : FuncData
  F_sum_layers : Fun K "sum_layers" "sum_layers" s_sum_layers f_sum_layers fd_sum_layers
  b_sum_layers : Binds K fd_sum_layers ["size", "targets", "calls"] []
  m_sum_layers : mg "sum_layers" = some (.ref f_sum_layers)
  f_min_calls_on_ring : Addr
  fd_min_calls_on_ring : FuncData
  F_min_calls_on_ring : Fun K "min_calls_on_ring" "min_calls_on_ring" s_min_calls_on_ring f_min_calls_on_ring fd_min_calls_on_ring
  b_min_calls_on_ring : Binds K fd_min_calls_on_ring ["size", "targets", "place"] []
  m_min_calls_on_ring : mg "min_calls_on_ring" = some (.ref f_min_calls_on_ring)
  f_halved : Addr
  fd_halved : FuncData
  F_halved : Fun K "halved" "halved" s_halved f_halved fd_halved
  b_halved : Binds K fd_halved ["size", "bits", "amounts"] []
  m_halved : mg "halved" = some (.ref f_halved)
  f_sum_counts : Addr
  fd_sum_counts : FuncData
  F_sum_counts : Fun K "sum_counts" "sum_counts" s_sum_counts f_sum_counts fd_sum_counts
  b_sum_counts : Binds K fd_sum_counts ["size", "targets", "place", "calls"] []
  m_sum_counts : mg "sum_counts" = some (.ref f_sum_counts)
  f_law_cell_at : Addr
  fd_law_cell_at : FuncData
  F_law_cell_at : Fun K "_law_cell_at" "_law_cell_at" s_law_cell_at f_law_cell_at fd_law_cell_at
  b_law_cell_at : Binds K fd_law_cell_at ["_law_script", "_law_k"] []
  m_law_cell_at : mg "_law_cell_at" = some (.ref f_law_cell_at)
  f_law_source : Addr
  fd_law_source : FuncData
  F_law_source : Fun K "_law_source" "_law_source" s_law_source f_law_source fd_law_source
  b_law_source : Binds K fd_law_source ["_law_cell"] []
  m_law_source : mg "_law_source" = some (.ref f_law_source)
  f_law_take : Addr
  fd_law_take : FuncData
  F_law_take : Fun K "_law_take" "_law_take" s_law_take f_law_take fd_law_take
  b_law_take : Binds K fd_law_take ["_law_source_here", "_law_bound"] []
  m_law_take : mg "_law_take" = some (.ref f_law_take)
  f_law_large : Addr
  fd_law_large : FuncData
  F_law_large : Fun K "_law_large" "_law_large" s_law_large f_law_large fd_law_large
  b_law_large : Binds K fd_law_large ["_law_source_here", "_law_bound"] []
  m_law_large : mg "_law_large" = some (.ref f_law_large)
  f_law_targets : Addr
  fd_law_targets : FuncData
  F_law_targets : Fun K "_law_targets" "_law_targets" s_law_targets f_law_targets fd_law_targets
  b_law_targets : Binds K fd_law_targets ["_law_source_here", "_law_ring", "_law_bound"] []
  m_law_targets : mg "_law_targets" = some (.ref f_law_targets)
  f_law_is_sum : Addr
  fd_law_is_sum : FuncData
  F_law_is_sum : Fun K "_law_is_sum" "_law_is_sum" s_law_is_sum f_law_is_sum fd_law_is_sum
  b_law_is_sum : Binds K fd_law_is_sum ["_law_ring", "_law_goals", "_law_spot", "_law_depth", "_law_amounts"] []
  m_law_is_sum : mg "_law_is_sum" = some (.ref f_law_is_sum)
  f_law_doubled : Addr
  fd_law_doubled : FuncData
  F_law_doubled : Fun K "_law_doubled" "_law_doubled" s_law_doubled f_law_doubled fd_law_doubled
  b_law_doubled : Binds K fd_law_doubled ["_law_ring", "_law_present"] []
  m_law_doubled : mg "_law_doubled" = some (.ref f_law_doubled)
  f_law_reached : Addr
  fd_law_reached : FuncData
  F_law_reached : Fun K "_law_reached" "_law_reached" s_law_reached f_law_reached fd_law_reached
  b_law_reached : Binds K fd_law_reached ["_law_ring", "_law_goals", "_law_depth"] []
  m_law_reached : mg "_law_reached" = some (.ref f_law_reached)
  f_law_least : Addr
  fd_law_least : FuncData
  F_law_least : Fun K "_law_least" "_law_least" s_law_least f_law_least fd_law_least
  b_law_least : Binds K fd_law_least ["_law_ring", "_law_goals", "_law_spot"] []
  m_law_least : mg "_law_least" = some (.ref f_law_least)
  f_law_long_scene : Addr
  fd_law_long_scene : FuncData
  F_law_long_scene : Fun K "_law_long_scene" "_law_long_scene" s_law_long_scene f_law_long_scene fd_law_long_scene
  b_law_long_scene : Binds K fd_law_long_scene ["_law_source_here"] []
  m_law_long_scene : mg "_law_long_scene" = some (.ref f_law_long_scene)
  f_law_long_right : Addr
  fd_law_long_right : FuncData
  F_law_long_right : Fun K "_law_long_right" "_law_long_right" s_law_long_right f_law_long_right fd_law_long_right
  b_law_long_right : Binds K fd_law_long_right ["_law_source_here"] []
  m_law_long_right : mg "_law_long_right" = some (.ref f_law_long_right)
  f_law_right : Addr
  fd_law_right : FuncData
  F_law_right : Fun K "_law_right" "_law_right" s_law_right f_law_right fd_law_right
  b_law_right : Binds K fd_law_right ["_law_ring", "_law_goals", "_law_spot", "_law_depth", "_law_due"] []
  m_law_right : mg "_law_right" = some (.ref f_law_right)
  f_law : Addr
  fd_law : FuncData
  F_law : Fun K "law" "law" s_law f_law fd_law
  b_law : Binds K fd_law ["_law_script"] []
  m_law : mg "law" = some (.ref f_law)
  t_MAX_SIZE : Tok
  c_MAX_SIZE : mg "MAX_SIZE" = some (.int 2000 t_MAX_SIZE)
  t_MAX_CALLS : Tok
  c_MAX_CALLS : mg "MAX_CALLS" = some (.int 40 t_MAX_CALLS)
  z_bool : mg "bool" = none
  z_enumerate : mg "enumerate" = none
  z_int : mg "int" = none
  z_isinstance : mg "isinstance" = none
  z_len : mg "len" = none
  z_list : mg "list" = none
  z_range : mg "range" = none
  z_repr : mg "repr" = none
  z_reversed : mg "reversed" = none
  z_sum : mg "sum" = none
  z_tuple : mg "tuple" = none
  z_zip : mg "zip" = none
/-- not an int (a bool is none) -/
def NotI (K : PySem.W.Frag) (H : Hp) (x : V) : Prop := ∃ t b1 b2, TyX K H x t ∧ PySem.W.kitOne K t (.type "int") = some b1 ∧ PySem.W.kitOne K t (.type "bool") = some b2 ∧ (b1 && !b2) = false
/-- what x is, if an int -/
def IsI (K : PySem.W.Frag) (H : Hp) (x : V) : Option Int → Prop
  | some i => x = .int i
  | none => NotI K H x
def atLeast : Option Int → Int → Bool
  | some i, low => decide (low ≤ i)
  | none, _ => false
def between : Option Int → Int → Int → Bool
  | some i, low, high => decide (low ≤ i) && decide (i ≤ high)
  | none, _, _ => false

section
variable {P : Program} {w : World} {K : PySem.W.Frag} {mg : Str → Option Value} {base : Heap}
def sp_is_integer (K : PySem.W.Frag) : Sp := fun vs H Q _ => ∃ x o, vs = [x] ∧ IsI K H x o ∧ Q (.bl o.isSome) H
theorem ok_is_integer (T : TX K mg) : FnOk P w K mg base CX0 1 T.f_is_integer T.fd_is_integer ["value"] (sp_is_integer K) := by
  refine T.F_is_integer.ok sc_is_integer (fun vs H Q E h => ?_) (fun cdv A outer s H vs Q E hr h => ?_)
  · obtain ⟨x, o, rfl, _⟩ := h
    rfl
  · obtain ⟨x, o, rfl, hx, k⟩ := h
    refine ⟨_, (pss_one (ps_ret (pe_and (pe_callB call_isi (by rfl) T.z_isinstance (by decide +kernel) (pa_cons (pv 0) (pa_cons (pe_bltn (v := .ty "int") rfl T.z_int (by decide +kernel) rfl) pa_nil))) (pe_one (pe_not (pe_callB call_isi (by rfl) T.z_isinstance (by decide +kernel) (pa_cons (pv 0) (pa_cons (pe_bltn (v := .ty "bool") rfl T.z_bool (by decide +kernel) rfl) pa_nil)))))))), ?_⟩
    cases o with
    | some i =>
      cases hx
      exact ⟨_, rfl, _, _, _, _, true, rfl, .ty _, .base (.int i), kit_ty (by decide +kernel), _, rfl, _, rfl, _, _, _, _, false, rfl, .ty _, .base (.int i), kit_ty (by decide +kernel), _, rfl, k⟩
    | none =>
      obtain ⟨t, b1, b2, ht, h1, h2, hb⟩ := hx
      refine ⟨_, rfl, _, _, _, _, b1, rfl, .ty _, ht, h1, _, rfl, ?_⟩
      cases b1 with
      | false => exact k
      | true =>
        refine ⟨_, rfl, _, _, _, _, b2, rfl, .ty _, ht, h2, _, rfl, ?_⟩
        have e : (!b2) = false := hb
        rw [e]
        exact k
def sp_is_at_least (K : PySem.W.Frag) : Sp := fun vs H Q _ => ∃ x o low, vs = [x, .int low] ∧ IsI K H x o ∧ Q (.bl (atLeast o low)) H
theorem ok_is_at_least (T : TX K mg) : FnOk P w K mg base CX0 2 T.f_is_at_least T.fd_is_at_least ["value", "low"] (sp_is_at_least K) := by
  refine T.F_is_at_least.ok sc_is_at_least (fun vs H Q E h => ?_) (fun cdv A outer s H vs Q E hr h => ?_)
  · obtain ⟨x, o, low, rfl, _⟩ := h
    rfl
  · obtain ⟨x, o, low, rfl, hx, k⟩ := h
    refine ⟨_, (pss_one (ps_ret (pe_and (pe_call (ok_is_integer T) hr rfl T.m_is_integer T.F_is_integer.kp T.b_is_integer .nil pass0 (pa_cons (pv 0) pa_nil)) (pe_one (pe_cmpR op_ge (pv 0) (pv 1) (nomark _)))))), ?_⟩
    refine ⟨_, rfl, x, o, rfl, hx, _, rfl, ?_⟩
    cases o with
    | none => exact k
    | some i =>
      cases hx
      exact ⟨_, rfl, _, rfl, _, _, rfl, rfl, k⟩
def sp_is_between (K : PySem.W.Frag) : Sp := fun vs H Q _ => ∃ x o low high, vs = [x, .int low, .int high] ∧ IsI K H x o ∧ Q (.bl (between o low high)) H
theorem ok_is_between (T : TX K mg) : FnOk P w K mg base CX0 2 T.f_is_between T.fd_is_between ["value", "low", "high"] (sp_is_between K) := by
  refine T.F_is_between.ok sc_is_between (fun vs H Q E h => ?_) (fun cdv A outer s H vs Q E hr h => ?_)
  · obtain ⟨x, o, low, high, rfl, _⟩ := h
    rfl
  · obtain ⟨x, o, low, high, rfl, hx, k⟩ := h
    refine ⟨_, (pss_one (ps_ret (pe_and (pe_call (ok_is_integer T) hr rfl T.m_is_integer T.F_is_integer.kp T.b_is_integer .nil pass0 (pa_cons (pv 0) pa_nil)) (pe_one (pe_chain op_le op_le (pv 1) (pv 0) (pv 2)))))), ?_⟩
    refine ⟨_, rfl, x, o, rfl, hx, _, rfl, ?_⟩
    cases o with
    | none => exact k
    | some i =>
      cases hx
      refine ⟨_, rfl, _, rfl, _, _, rfl, rfl, _, rfl, ?_⟩
      refine ite2 (fun c => ?_) (fun c => ?_)
      · have c1 : low ≤ i := of_decide_eq_true c
        refine ⟨_, rfl, _, _, rfl, rfl, ?_⟩
        have e : between (some i) low high = decide (i ≤ high) := by show (decide (low ≤ i) && decide (i ≤ high)) = _; rw [c]; rfl
        rw [e] at k
        exact k
      · have e : between (some i) low high = false := by show (decide (low ≤ i) && decide (i ≤ high)) = _; rw [Bool.eq_false_iff.mpr c]; rfl
        rw [e] at k
        exact k
end

/-- a table of these sizes stands at a -/
def TabAt (C : Addr) (H : Hp) (a : Addr) (ns : List Int) : Prop := ∃ dx t, H a = some (.ins C dx [("rings", .ref t)]) ∧ H t = some (.tup (ns.map V.int))
theorem TabAt.mono {C : Addr} {H H2 : Hp} {a : Addr} {ns : List Int} (e : Ex H H2) (h : TabAt C H a ns) : TabAt C H2 a ns := by
  obtain ⟨dx, t, h1, h2⟩ := h
  exact ⟨dx, t, e _ _ h1, e _ _ h2⟩
/-- a tracked list (false) or tuple (true) -/
def SqH (H : Hp) (p : Bool × Addr) (xs : List V) : Prop := if p.1 = true then H p.2 = some (.tup xs) else H p.2 = some (.lst xs)
theorem SqH.sq {K : PySem.W.Frag} {H : Hp} {p : Bool × Addr} {xs : List V} (h : SqH H p xs) : CZ.SqK K H p xs := by
  obtain ⟨b, a⟩ := p
  cases b
  · exact SqL.of (show H a = some (.lst xs) from h)
  · exact SqT.of (show H a = some (.tup xs) from h)
theorem SqH.mono {H H2 : Hp} {p : Bool × Addr} {xs : List V} (e : Ex H H2) (h : SqH H p xs) : SqH H2 p xs := by
  obtain ⟨b, a⟩ := p
  cases b
  · exact e _ _ (show H a = some (.lst xs) from h)
  · exact e _ _ (show H a = some (.tup xs) from h)
theorem SqH.ty {K : PySem.W.Frag} {H : Hp} {p : Bool × Addr} {xs : List V} (h : SqH H p xs) : TyX K H (.ref p.2) (.type (if p.1 = true then "tuple" else "list")) := by
  obtain ⟨b, a⟩ := p
  cases b
  · exact .base (.lst (show H a = some (.lst xs) from h))
  · exact .base (.tup (show H a = some (.tup xs) from h))
/-- sizes of a table -/
structure SzOk (ns : List Int) : Prop where
  pos : ns ≠ []
  le : ns.length ≤ 4
  one : ∀ n ∈ ns, 1 ≤ n
theorem len_line {α : Type} {l : List α} (h : l.length ≤ 4) : l.length ≤ sizeLine := Nat.le_trans h (by decide)
theorem take_lt {α : Type} {l : List α} (h : l.length ≤ 1000) (i : Nat) : (l.take i).length < sizeLine := by
  rw [List.length_take]
  exact Nat.lt_of_le_of_lt (Nat.le_trans (Nat.min_le_right _ _) h) (by decide)
theorem take_more {α : Type} {l : List α} {i : Nat} {x : α} (h : l[i]? = some x) : l.take (i + 1) = l.take i ++ [x] := by
  rw [List.take_add_one, h]
  rfl
theorem kit_seq {K : PySem.W.Frag} (b : Bool) : PySem.W.kitAny K (.type (if b = true then "tuple" else "list")) [.type "list", .type "tuple"] = some true := by
  cases b
  · exact kitAny_cons (b := true) (kit_ty (by decide +kernel)) (fun h => nomatch h) (fun _ => rfl)
  · exact kitAny_cons (b := false) (kit_ty (by decide +kernel)) (fun _ => kitAny_cons (b := true) (kit_ty (by decide +kernel)) (fun h => nomatch h) (fun _ => rfl)) (fun h => nomatch h)
theorem sq_or {K : PySem.W.Frag} {H : Hp} {b : Bool} {a : Addr} {xs : List V} (h : SqH H (b, a) xs) : SqL K H a xs ∨ SqT K H a xs := by
  cases b
  · exact .inl (SqL.of (show H a = some (.lst xs) from h))
  · exact .inr (SqT.of (show H a = some (.tup xs) from h))
section
variable {P : Program} {w : World} {K : PySem.W.Frag} {mg : Str → Option Value} {base : Heap}
end

theorem TyX.mono {K : PySem.W.Frag} {H H2 : Hp} {x : V} {t : Value} (e : Ex H H2) (h : TyX K H x t) : TyX K H2 x t := by
  cases h with
  | base h =>
    cases h with
    | non => exact .base .non
    | bl x => exact .base (.bl x)
    | int x => exact .base (.int x)
    | str x => exact .base (.str x)
    | flt x => exact .base (.flt x)
    | lst h => exact .base (.lst (e _ _ h))
    | frz h => exact .base (.frz (e _ _ h))
    | tup h => exact .base (.tup (e _ _ h))
    | dK h => exact .base (.dK (e _ _ h))
    | dT h => exact .base (.dT (e _ _ h))
    | ins h a b c d f => exact .base (.ins (e _ _ h) a b c d f)
  | byt b => exact .byt b
  | set h => exact .set (e _ _ h)
  | kList a b => exact .kList a b
  | kTuple a b => exact .kTuple a b
  | kDict a b => exact .kDict a b
  | fTuple h => exact .fTuple (e _ _ h)
  | fDict h => exact .fDict (e _ _ h)
theorem IsI.mono {K : PySem.W.Frag} {H H2 : Hp} {x : V} {o : Option Int} (e : Ex H H2) (h : IsI K H x o) : IsI K H2 x o := by
  cases o with
  | some i => exact h
  | none =>
    obtain ⟨t, b1, b2, ht, r⟩ := h
    exact ⟨t, b1, b2, TyX.mono e ht, r⟩
theorem paired_get {α β : Type} {R : α → β → Prop} : ∀ {l : List α} {m : List β} {i : Nat} {x : α}, Paired R l m → l[i]? = some x → ∃ y, m[i]? = some y ∧ R x y
  | _, _, _, _, .nil, h => by simp at h
  | _, _, 0, _, .cons r _, h => by simp at h; subst h; exact ⟨_, rfl, r⟩
  | _, _, i + 1, x, .cons _ t, h => by
    obtain ⟨y, h1, h2⟩ := paired_get (i := i) (x := x) t (by simpa using h)
    exact ⟨y, by simpa using h1, h2⟩
/-- what an argument is as a tuple: its items, as ints or not -/
def TupA (K : PySem.W.Frag) (H : Hp) (x : V) : Option (List (Option Int)) → Prop
  | some os => ∃ a xs, x = .ref a ∧ H a = some (.tup xs) ∧ xs.length ≤ 1000 ∧ Paired (IsI K H) xs os
  | none => ∃ t, TyX K H x t ∧ PySem.W.kitOne K t (.type "tuple") = some false
theorem paired_ints {K : PySem.W.Frag} {H : Hp} : ∀ ps : List Int, Paired (IsI K H) (ps.map V.int) (ps.map some)
  | [] => .nil
  | p :: ps => .cons rfl (paired_ints ps)
theorem TupA.ints {K : PySem.W.Frag} {H : Hp} {a : Addr} {ps : List Int} (h : H a = some (.tup (ps.map V.int))) (hl : ps.length ≤ 1000) : TupA K H (.ref a) (some (ps.map some)) :=
  ⟨a, _, rfl, h, by rw [List.length_map]; exact hl, paired_ints ps⟩
def isSeatO (ns : List Int) : Option (List (Option Int)) → Bool
  | some os => decide (os.length = ns.length) && (List.zipWith (fun o n => between o 0 (n - 1)) os ns).all id
  | none => false
def isCallO (ns : List Int) : Option (List (Option Int)) → Bool
  | some os => decide (os.length = ns.length) && (os.map Option.isSome).all id
  | none => false
/-- a seat: one place a ring -/
def SeatOk : List Int → List Int → Prop
  | n :: ns, p :: ps => (0 ≤ p ∧ p < n) ∧ SeatOk ns ps
  | [], [] => True
  | _, _ => False
theorem SeatOk.len : ∀ {ns ps : List Int}, SeatOk ns ps → ps.length = ns.length
  | [], [], _ => rfl
  | _ :: _, _ :: _, h => by
    show _ + 1 = _ + 1
    rw [SeatOk.len h.2]
theorem seat_is : ∀ {ns ps : List Int}, SeatOk ns ps → (List.zipWith (fun o n => between o 0 (n - 1)) (ps.map some) ns).all id = true
  | [], [], _ => rfl
  | n :: ns, p :: ps, h => by
    have ih := seat_is h.2
    show (between (some p) 0 (n - 1) && _) = true
    rw [Bool.and_eq_true]
    refine ⟨?_, ih⟩
    show (decide (0 ≤ p) && decide (p ≤ n - 1)) = true
    rw [decide_eq_true h.1.1, decide_eq_true (by have := h.1.2; omega)]
    rfl
theorem isSeat_ok {ns ps : List Int} (h : SeatOk ns ps) : isSeatO ns (some (ps.map some)) = true := by
  show (decide ((ps.map some).length = ns.length) && _) = true
  rw [Bool.and_eq_true]
  exact ⟨decide_eq_true (by rw [List.length_map]; exact h.len), seat_is h⟩
theorem isCall_ok {ns cs : List Int} (h : cs.length = ns.length) : isCallO ns (some (cs.map some)) = true := by
  show (decide ((cs.map some).length = ns.length) && _) = true
  rw [Bool.and_eq_true]
  refine ⟨decide_eq_true (by rw [List.length_map]; exact h), ?_⟩
  rw [List.map_map, List.all_map, List.all_eq_true]
  exact fun _ _ => rfl
/-- a step by a multiple of a call -/
def shiftL : List Int → List Int → List Int → Int → List Int
  | n :: ns, p :: ps, c :: cs, f => (p + f * c) % n :: shiftL ns ps cs f
  | _, _, _, _ => []
theorem shift_len : ∀ {ns ps cs : List Int} {f : Int}, ps.length = ns.length → cs.length = ns.length → (shiftL ns ps cs f).length = ns.length
  | [], _, _, _, _, _ => by simp [shiftL]
  | _ :: ns, p :: ps, c :: cs, f, h1, h2 => by
    have ih := @shift_len ns ps cs f (by simpa using h1) (by simpa using h2)
    show (shiftL ns ps cs f).length + 1 = _ + 1
    rw [ih]
theorem shift_get : ∀ {ns ps cs : List Int} {f : Int} {i : Nat} {n p c : Int}, ns[i]? = some n → ps[i]? = some p → cs[i]? = some c → (shiftL ns ps cs f)[i]? = some ((p + f * c) % n)
  | n :: ns, p :: ps, c :: cs, f, 0, _, _, _, h1, h2, h3 => by
    simp at h1 h2 h3
    subst h1 h2 h3
    rfl
  | n :: ns, p :: ps, c :: cs, f, i + 1, a, b, d, h1, h2, h3 => by
    have ih := @shift_get ns ps cs f i a b d (by simpa using h1) (by simpa using h2) (by simpa using h3)
    show (shiftL ns ps cs f)[i]? = _
    exact ih
  | [], _, _, _, i, _, _, _, h1, _, _ => by simp at h1
  | _ :: _, [], _, _, i, _, _, _, _, h2, _ => by simp at h2
  | _ :: _, _ :: _, [], _, i, _, _, _, _, _, h3 => by simp at h3
theorem mul_ok {i j : Int} (h : (-(2 ^ 64) < i ∧ i < 2 ^ 64) ∨ (-(2 ^ 64) < j ∧ j < 2 ^ 64)) : IntMulOk i j := CMul.ok h
theorem zip_get {α β γ : Type} {f : α → β → γ} {l : List α} {m : List β} {i : Nat} {x : α} {y : β} (h1 : l[i]? = some x) (h2 : m[i]? = some y) : (List.zipWith f l m)[i]? = some (f x y) := by
  rw [List.getElem?_zipWith, h1, h2]
section
variable {P : Program} {w : World} {K : PySem.W.Frag} {mg : Str → Option Value} {base : Heap}
end

/-- all but what is at s stays -/
def XB (s : Addr) (H H2 : Hp) : Prop := ∀ c o, c ≠ s → H c = some o → H2 c = some o
theorem XB.refl {s : Addr} {H : Hp} : XB s H H := fun _ _ _ h => h
theorem XB.trans {s : Addr} {H H1 H2 : Hp} (a : XB s H H1) (b : XB s H1 H2) : XB s H H2 := fun c o n h => b c o n (a c o n h)
theorem XB.upd {s : Addr} {H : Hp} {o : HO} : XB s H (upd H s o) := fun c u n h => by rw [upd_ne n]; exact h
theorem XB.of {s : Addr} {H H2 : Hp} (e : Ex H H2) : XB s H H2 := fun c o _ h => e c o h
theorem XB.back {s : Addr} {H H2 : Hp} (e : XB s H H2) {p : Addr} (hn : p ≠ s) (h : H2 p = none) : H p = none := by
  cases q : H p with
  | none => rfl
  | some o => rw [e p o hn q] at h; cases h
theorem mod_lo {i n : Int} (h : 0 < n) : 0 ≤ i % n := Int.emod_nonneg i (by omega)
theorem mod_hi {i n : Int} (h : 0 < n) : i % n < n := Int.emod_lt_of_pos i h

theorem at_ex {xs : List Int} {r : Int} (h0 : 0 ≤ r) (h1 : r < xs.length) : ∃ v, v ∈ xs ∧ atI (xs.map V.int) r = some (.int v) := by
  obtain ⟨j, rfl⟩ : ∃ j : Nat, r = (j : Int) := ⟨r.toNat, by omega⟩
  have hj : j < xs.length := by omega
  refine ⟨xs[j], List.getElem_mem hj, atI_nat ?_⟩
  rw [List.getElem?_map, List.getElem?_eq_getElem hj]
  rfl
theorem pow2_pos (k : Nat) : (1 : Int) ≤ 2 ^ k := by
  have h : 0 < 2 ^ k := Nat.pow_pos (by decide)
  have e : ((2 ^ k : Nat) : Int) = (2 : Int) ^ k := by simp
  omega
theorem pow2_le {j k : Nat} (h : j ≤ k) : (2 : Int) ^ j ≤ 2 ^ k := by
  have h1 : 2 ^ j ≤ 2 ^ k := Nat.pow_le_pow_right (by decide) h
  have e1 : ((2 ^ j : Nat) : Int) = (2 : Int) ^ j := by simp
  have e2 : ((2 ^ k : Nat) : Int) = (2 : Int) ^ k := by simp
  omega
theorem shl_one {r : Int} (h0 : 0 ≤ r) (h1 : r ≤ 1000) : CShl 1 r := by
  obtain ⟨j, rfl⟩ : ∃ j : Nat, r = (j : Int) := ⟨r.toNat, by omega⟩
  exact shl_ok (n := 1) (by decide) (by omega)

/-! ### data -/
mutual
theorem eqv_refl : ∀ d : PyData, d.canLay0 = true → PyData.eqv d d = true
  | .none, _ => by simp only [PyData.eqv]
  | .bool b, _ => by simp only [PyData.eqv, beq_self_eq_true]
  | .int i, _ => by simp only [PyData.eqv, beq_self_eq_true]
  | .str x, _ => by simp only [PyData.eqv, beq_self_eq_true]
  | .list xs, h => by
    simp only [PyData.canLay0] at h
    simp only [PyData.eqv]
    exact eqvAll_refl xs h
  | .tuple xs, h => by
    simp only [PyData.canLay0] at h
    simp only [PyData.eqv]
    exact eqvAll_refl xs h
  | .dict _, h => by simp [PyData.canLay0] at h
theorem eqvAll_refl : ∀ ds : List PyData, PyData.canLayAll0 ds = true → PyData.eqvAll ds ds = true
  | [], _ => by simp only [PyData.eqvAll]
  | d :: ds, h => by
    simp only [PyData.canLayAll0, Bool.and_eq_true] at h
    simp only [PyData.eqvAll, Bool.and_eq_true]
    exact ⟨eqv_refl d h.1, eqvAll_refl ds h.2⟩
end
/-- data of a depth below n, in a form that may be laid -/
def Sh (n : Nat) (d : PyData) : Prop := d.canLay0 = true ∧ d.depth ≤ n
theorem Sh.ok {d : PyData} (h : Sh 60 d) : SeqAt.shaped d = true := by
  unfold SeqAt.shaped
  rw [h.1, decide_eq_true (Nat.le_trans h.2 (by decide))]
  rfl
theorem sh_int {n : Nat} (i : Int) : Sh n (.int i) := ⟨by simp only [PyData.canLay0], by simp only [PyData.depth]; omega⟩
theorem sh_bool {n : Nat} (i : Bool) : Sh n (.bool i) := ⟨by simp only [PyData.canLay0], by simp only [PyData.depth]; omega⟩
theorem sh_none {n : Nat} : Sh n .none := ⟨by simp only [PyData.canLay0], by simp only [PyData.depth]; omega⟩
theorem sh_all {n : Nat} : ∀ {ds : List PyData}, (∀ d ∈ ds, Sh n d) → PyData.canLayAll0 ds = true ∧ PyData.depthAll ds ≤ n
  | [], _ => ⟨by simp only [PyData.canLayAll0], by simp only [PyData.depthAll]; omega⟩
  | d :: ds, h => by
    obtain ⟨h1, h2⟩ := h d List.mem_cons_self
    obtain ⟨g1, g2⟩ := sh_all fun x hx => h x (List.mem_cons_of_mem _ hx)
    refine ⟨by simp only [PyData.canLayAll0, h1, g1, Bool.and_self], ?_⟩
    simp only [PyData.depthAll]
    omega
theorem sh_tuple {n : Nat} {ds : List PyData} (h : ∀ d ∈ ds, Sh n d) : Sh (n + 1) (.tuple ds) := by
  obtain ⟨h1, h2⟩ := sh_all h
  exact ⟨by simp only [PyData.canLay0, h1], by simp only [PyData.depth]; omega⟩
theorem sh_list {n : Nat} {ds : List PyData} (h : ∀ d ∈ ds, Sh n d) : Sh (n + 1) (.list ds) := by
  obtain ⟨h1, h2⟩ := sh_all h
  exact ⟨by simp only [PyData.canLay0, h1], by simp only [PyData.depth]; omega⟩
theorem Sh.up {n m : Nat} {d : PyData} (h : Sh n d) (e : n ≤ m) : Sh m d := ⟨h.1, Nat.le_trans h.2 e⟩
/-- a tuple of ints -/
abbrev iT (ns : List Int) : PyData := .tuple (ns.map PyData.int)
theorem sh_ints {n : Nat} (ns : List Int) : Sh (n + 1) (iT ns) := sh_tuple fun d hd => by
  obtain ⟨i, _, rfl⟩ := List.mem_map.mp hd
  exact sh_int i
theorem dpall_ints {K : PySem.W.Frag} {H : Hp} : ∀ ns : List Int, DpAll K H (ns.map V.int) (ns.map PyData.int)
  | [] => .nil
  | n :: ns => .cons (.int n) (dpall_ints ns)
theorem dp_ints {K : PySem.W.Frag} {H : Hp} {a : Addr} {ns : List Int} (h : H a = some (.tup (ns.map V.int))) : Dp K H (.ref a) (iT ns) := .tup (SqT.of h) (dpall_ints ns)
theorem eqvAll_ints : ∀ ns ms : List Int, PyData.eqvAll (ns.map PyData.int) (ms.map PyData.int) = decide (ns = ms)
  | [], [] => by simp [PyData.eqvAll]
  | [], _ :: _ => by simp [PyData.eqvAll]
  | _ :: _, [] => by simp [PyData.eqvAll]
  | n :: ns, m :: ms => by
    have ih := eqvAll_ints ns ms
    simp only [List.map_cons, PyData.eqvAll, PyData.eqv, ih]
    by_cases h : n = m
    · subst h
      simp
    · have : (n == m) = false := by simpa using h
      rw [this]
      simp [h]
theorem eqv_ints (ns ms : List Int) : PyData.eqv (iT ns) (iT ms) = decide (ns = ms) := by
  simp only [PyData.eqv]
  exact eqvAll_ints ns ms
theorem sh_pair {n : Nat} {a b : PyData} (ha : Sh n a) (hb : Sh n b) : Sh (n + 1) (.tuple [a, b]) := sh_tuple fun d hd => by
  rcases List.mem_cons.mp hd with e | e
  · rw [e]; exact ha
  · rw [List.mem_singleton.mp e]; exact hb
theorem eqv_same {d : PyData} (h : Sh 60 d) : (!PyData.eqv d d) = false := by rw [eqv_refl d h.1]; rfl

/-- the greatest common divisor -/
abbrev gcdI (a b : Int) : Int := ((Int.gcd a b : Nat) : Int)
theorem gcd_pos2 {p n : Int} (h : 1 ≤ n) : 0 < Int.gcd p n := Int.gcd_pos_of_ne_zero_right _ (by omega)
theorem gcd_turn {a b : Int} (hb : b ≠ 0) : Int.gcd b (a % b) = Int.gcd a b := by
  rw [Int.gcd_comm b, Int.emod_def, Int.sub_eq_add_neg, ← Int.mul_neg, Int.gcd_add_mul_left_left]
theorem abs45 {n : Int} (h1 : 0 ≤ n) (h2 : n ≤ 10 ^ 45) : n.natAbs < 2 ^ 150 := by
  have h5 : (10 : Int) ^ 45 < 2 ^ 150 := by decide
  have h8 : ((2 ^ 150 : Nat) : Int) = (2 : Int) ^ 150 := by simp
  omega
section
variable {P : Program} {w : World} {K : PySem.W.Frag} {mg : Str → Option Value} {base : Heap}
end

/-! ### zip's rows, nested comprehensions, lists of tuples of ints -/
theorem yrow2 {xs ys : List V} {i : Nat} {H H2 : Hp} {x : V} (h : CZ.YRow [xs, ys] i H x H2) : ∃ (Ta : Addr) (a b : V), x = .ref Ta ∧ H Ta = none ∧ H2 = upd H Ta (.tup [a, b]) ∧ xs[i]? = some a ∧ ys[i]? = some b := by
  obtain ⟨Ta, vs, rfl, hT, rfl, r⟩ := h
  cases r with
  | cons r1 r =>
    cases r with
    | cons r2 r =>
      cases r
      exact ⟨Ta, _, _, rfl, hT, rfl, r1, r2⟩
theorem yrow3 {xs ys zs : List V} {i : Nat} {H H2 : Hp} {x : V} (h : CZ.YRow [xs, ys, zs] i H x H2) : ∃ (Ta : Addr) (a b c : V), x = .ref Ta ∧ H Ta = none ∧ H2 = upd H Ta (.tup [a, b, c]) ∧ xs[i]? = some a ∧ ys[i]? = some b ∧ zs[i]? = some c := by
  obtain ⟨Ta, vs, rfl, hT, rfl, r⟩ := h
  cases r with
  | cons r1 r =>
    cases r with
    | cons r2 r =>
      cases r with
      | cons r3 r =>
        cases r
        exact ⟨Ta, _, _, _, rfl, hT, rfl, r1, r2, r3⟩
theorem yints2 {xs ys : List Int} {i : Nat} {H H2 : Hp} {x : V} (h : CZ.YRow [xs.map V.int, ys.map V.int] i H x H2) : ∃ (Ta : Addr) (a b : Int), x = .ref Ta ∧ H Ta = none ∧ H2 = upd H Ta (.tup [.int a, .int b]) ∧ xs[i]? = some a ∧ ys[i]? = some b := by
  obtain ⟨Ta, a, b, rfl, hT, rfl, r1, r2⟩ := yrow2 h
  obtain ⟨p, hp, rfl⟩ := map_get r1
  obtain ⟨q, hq, rfl⟩ := map_get r2
  exact ⟨Ta, p, q, rfl, hT, rfl, hp, hq⟩
theorem yints3 {xs ys zs : List Int} {i : Nat} {H H2 : Hp} {x : V} (h : CZ.YRow [xs.map V.int, ys.map V.int, zs.map V.int] i H x H2) : ∃ (Ta : Addr) (a b c : Int), x = .ref Ta ∧ H Ta = none ∧ H2 = upd H Ta (.tup [.int a, .int b, .int c]) ∧ xs[i]? = some a ∧ ys[i]? = some b ∧ zs[i]? = some c := by
  obtain ⟨Ta, a, b, c, rfl, hT, rfl, r1, r2, r3⟩ := yrow3 h
  obtain ⟨p, hp, rfl⟩ := map_get r1
  obtain ⟨q, hq, rfl⟩ := map_get r2
  obtain ⟨r, hr, rfl⟩ := map_get r3
  exact ⟨Ta, p, q, r, rfl, hT, rfl, hp, hq, hr⟩
theorem all2 {K : PySem.W.Frag} {H : Hp} {p q : Bool × Addr} {xs ys : List V} (hp : CZ.SqK K H p xs) (hq : CZ.SqK K H q ys) : ∀ r ∈ [p, q], ∃ zs, CZ.SqK K H r zs := fun r hr => by
  rcases List.mem_cons.mp hr with e | hr
  · rw [e]; exact ⟨_, hp⟩
  · rw [List.mem_singleton.mp hr]; exact ⟨_, hq⟩
theorem all3 {K : PySem.W.Frag} {H : Hp} {p q t : Bool × Addr} {xs ys us : List V} (hp : CZ.SqK K H p xs) (hq : CZ.SqK K H q ys) (ht : CZ.SqK K H t us) : ∀ r ∈ [p, q, t], ∃ zs, CZ.SqK K H r zs := fun r hr => by
  rcases List.mem_cons.mp hr with e | hr
  · rw [e]; exact ⟨_, hp⟩
  · exact all2 hq ht r hr
theorem lens2 {xs ys : List V} {n : Nat} (h1 : xs.length = n) (h2 : ys.length = n) : ∀ zs ∈ [xs, ys], zs.length = n := fun zs hz => by
  rcases List.mem_cons.mp hz with e | hz
  · rw [e]; exact h1
  · rw [List.mem_singleton.mp hz]; exact h2
theorem lens3 {xs ys us : List V} {n : Nat} (h1 : xs.length = n) (h2 : ys.length = n) (h3 : us.length = n) : ∀ zs ∈ [xs, ys, us], zs.length = n := fun zs hz => by
  rcases List.mem_cons.mp hz with e | hz
  · rw [e]; exact h1
  · exact lens2 h2 h3 zs hz
theorem sqT {K : PySem.W.Frag} {H : Hp} {a : Addr} {xs : List V} (h : H a = some (.tup xs)) : CZ.SqK K H (true, a) xs := SqT.of h
theorem sqL {K : PySem.W.Frag} {H : Hp} {a : Addr} {xs : List V} (h : H a = some (.lst xs)) : CZ.SqK K H (false, a) xs := SqL.of h
section
variable {J : It} {n : Nat} {G : Hp → Prop} {Y : Nat → Hp → V → Hp → Prop}
/-- a comprehension of two loops: the outer -/
theorem lc2_it (w : Walk J n G Y) {g g1 : TG} {tt tt1 : TT} {te : TE} {wi1 : TI} {vs vs1 : List Nat} {σ : L2.St} {H1 : Hp} {D : Addr} {Qd : Hp → Prop} (Pv : Nat → Hp → Prop) (h0 : Pv 0 (upd H1 D (.lst []))) (hG : ∀ i H, i ≤ n → Pv i H → G H)
    (hs : ∀ i x H H2, i < n → Pv i H → Y i H x H2 → g x (wipe σ vs) H2 fun σ2 H2 => wipe σ2 vs = wipe σ vs ∧ tt σ2 H2 fun b H3 =>
      if b = true then wi1 σ2 H3 fun J1 H4 => ∃ W1 : Nat → Nat → Hp → Prop, (∃ m, W1 0 m H4) ∧ ∀ j k H, W1 j k H →
        (J1.stop j H ∧ Pv (i + 1) H) ∨ (J1.go j H ∧ ∃ Nx1 : Hp → Prop, (∀ H2, Nx1 H2 → ∃ k2, k2 < k ∧ W1 (j + 1) k2 H2) ∧ ∀ x H2, J1.yld j H x H2 → g1 x (wipe σ2 vs1) H2 fun σ3 H5 => wipe σ3 vs1 = wipe σ2 vs1 ∧ tt1 σ3 H5 fun b H6 =>
          if b = true then te σ3 H6 fun y H7 => ∃ acc, H7 D = some (.lst acc) ∧ acc.length < sizeLine ∧ Nx1 (upd H7 D (.lst (acc ++ [y]))) else Nx1 H6)
      else Pv (i + 1) H3) (hd : ∀ H, Pv n H → Qd H) :
    ∃ W : Nat → Nat → Hp → Prop, (∃ m, W 0 m (upd H1 D (.lst []))) ∧ ∀ i m H, W i m H →
      (J.stop i H ∧ Qd H) ∨ (J.go i H ∧ ∃ Nx : Hp → Prop, (∀ H2, Nx H2 → ∃ m2, m2 < m ∧ W (i + 1) m2 H2) ∧ ∀ x H2, J.yld i H x H2 → g x (wipe σ vs) H2 fun σ2 H2 => wipe σ2 vs = wipe σ vs ∧ tt σ2 H2 fun b H3 =>
        if b = true then wi1 σ2 H3 fun J1 H4 => ∃ W1 : Nat → Nat → Hp → Prop, (∃ m, W1 0 m H4) ∧ ∀ j k H, W1 j k H →
          (J1.stop j H ∧ Nx H) ∨ (J1.go j H ∧ ∃ Nx1 : Hp → Prop, (∀ H2, Nx1 H2 → ∃ k2, k2 < k ∧ W1 (j + 1) k2 H2) ∧ ∀ x H2, J1.yld j H x H2 → g1 x (wipe σ2 vs1) H2 fun σ3 H5 => wipe σ3 vs1 = wipe σ2 vs1 ∧ tt1 σ3 H5 fun b H6 =>
            if b = true then te σ3 H6 fun y H7 => ∃ acc, H7 D = some (.lst acc) ∧ acc.length < sizeLine ∧ Nx1 (upd H7 D (.lst (acc ++ [y]))) else Nx1 H6)
        else Nx H3) := by
  refine ⟨fun i m H => m = n - i ∧ i ≤ n ∧ Pv i H, ⟨n, by simp, Nat.zero_le _, h0⟩, ?_⟩
  rintro i m H ⟨rfl, hi, p⟩
  have q := hG i H hi p
  by_cases hlt : i < n
  · refine .inr ⟨w.goes i H hlt q, Pv (i + 1), fun H2 p2 => ⟨n - (i + 1), by omega, rfl, hlt, p2⟩, fun x H2 y => hs i x H H2 hlt p (w.yields i H x H2 hlt q y)⟩
  · have e : i = n := by omega
    subst e
    exact .inl ⟨w.stops H q, hd H p⟩
/-- .. the inner -/
theorem in_it (w : Walk J n G Y) {g1 : TG} {tt1 : TT} {te : TE} {vs1 : List Nat} {σ2 : L2.St} {H4 : Hp} {D : Addr} {Nx : Hp → Prop} (Pw : Nat → Hp → Prop) (h0 : Pw 0 H4) (hG : ∀ i H, i ≤ n → Pw i H → G H)
    (hs : ∀ j x H H2, j < n → Pw j H → Y j H x H2 → g1 x (wipe σ2 vs1) H2 fun σ3 H5 => wipe σ3 vs1 = wipe σ2 vs1 ∧ tt1 σ3 H5 fun b H6 =>
      if b = true then te σ3 H6 fun y H7 => ∃ acc, H7 D = some (.lst acc) ∧ acc.length < sizeLine ∧ Pw (j + 1) (upd H7 D (.lst (acc ++ [y]))) else Pw (j + 1) H6) (hd : ∀ H, Pw n H → Nx H) :
    ∃ W1 : Nat → Nat → Hp → Prop, (∃ m, W1 0 m H4) ∧ ∀ j k H, W1 j k H →
      (J.stop j H ∧ Nx H) ∨ (J.go j H ∧ ∃ Nx1 : Hp → Prop, (∀ H2, Nx1 H2 → ∃ k2, k2 < k ∧ W1 (j + 1) k2 H2) ∧ ∀ x H2, J.yld j H x H2 → g1 x (wipe σ2 vs1) H2 fun σ3 H5 => wipe σ3 vs1 = wipe σ2 vs1 ∧ tt1 σ3 H5 fun b H6 =>
        if b = true then te σ3 H6 fun y H7 => ∃ acc, H7 D = some (.lst acc) ∧ acc.length < sizeLine ∧ Nx1 (upd H7 D (.lst (acc ++ [y]))) else Nx1 H6) := by
  refine ⟨fun i m H => m = n - i ∧ i ≤ n ∧ Pw i H, ⟨n, by simp, Nat.zero_le _, h0⟩, ?_⟩
  rintro i m H ⟨rfl, hi, p⟩
  have q := hG i H hi p
  by_cases hlt : i < n
  · refine .inr ⟨w.goes i H hlt q, Pw (i + 1), fun H2 p2 => ⟨n - (i + 1), by omega, rfl, hlt, p2⟩, fun x H2 y => hs i x H H2 hlt p (w.yields i H x H2 hlt q y)⟩
  · have e : i = n := by omega
    subst e
    exact .inl ⟨w.stops H q, hd H p⟩
end
/-- refs of tuples of ints -/
def RowsR (H : Hp) (xs : List V) (hss : List (List Int)) : Prop := Paired (fun x hs => ∃ r, x = V.ref r ∧ H r = some (.tup (hs.map V.int))) xs hss
theorem RowsR.mono {H H2 : Hp} (e : Ex H H2) : ∀ {xs : List V} {hss : List (List Int)}, RowsR H xs hss → RowsR H2 xs hss
  | _, _, .nil => .nil
  | _, _, .cons ⟨r, h1, h2⟩ t => .cons ⟨r, h1, e _ _ h2⟩ (RowsR.mono e t)
theorem RowsR.snoc {H : Hp} {r : Addr} {hs : List Int} (h : H r = some (.tup (hs.map V.int))) : ∀ {xs : List V} {hss : List (List Int)}, RowsR H xs hss → RowsR H (xs ++ [.ref r]) (hss ++ [hs])
  | _, _, .nil => .cons ⟨r, rfl, h⟩ .nil
  | _, _, .cons q t => .cons q (RowsR.snoc h t)
theorem RowsR.app {H : Hp} {ys : List V} {kss : List (List Int)} (h : RowsR H ys kss) : ∀ {xs : List V} {hss : List (List Int)}, RowsR H xs hss → RowsR H (xs ++ ys) (hss ++ kss)
  | _, _, .nil => h
  | _, _, .cons q t => .cons q (RowsR.app h t)
theorem RowsR.len {H : Hp} : ∀ {xs : List V} {hss : List (List Int)}, RowsR H xs hss → xs.length = hss.length
  | _, _, .nil => rfl
  | _, _, .cons _ t => by rw [List.length_cons, List.length_cons, RowsR.len t]
theorem RowsR.get {H : Hp} : ∀ {xs : List V} {hss : List (List Int)} {i : Nat} {x : V}, RowsR H xs hss → xs[i]? = some x → ∃ hs r, hss[i]? = some hs ∧ x = V.ref r ∧ H r = some (.tup (hs.map V.int))
  | _, _, _, _, .nil, h => by simp at h
  | _, _, 0, _, .cons ⟨r, e, q⟩ _, h => by
    simp only [List.length_cons, Nat.zero_lt_succ, List.getElem?_eq_getElem, List.getElem_cons_zero, Option.some.injEq] at h
    subst h
    exact ⟨_, r, rfl, e, q⟩
  | _, _, i + 1, _, .cons _ t, h => by
    rw [List.getElem?_cons_succ] at h ⊢
    exact RowsR.get t h
theorem RowsR.dp {K : PySem.W.Frag} {H : Hp} : ∀ {xs : List V} {hss : List (List Int)}, RowsR H xs hss → DpAll K H xs (hss.map iT)
  | _, _, .nil => .nil
  | _, _, .cons ⟨r, e, q⟩ t => by
    subst e
    exact .cons (dp_ints q) (RowsR.dp t)
/-- a list of tuples of ints -/
def RowsAt (H : Hp) (D : Addr) (hss : List (List Int)) : Prop := ∃ xs, H D = some (.lst xs) ∧ RowsR H xs hss
theorem RowsAt.mono {H H2 : Hp} {D : Addr} {hss : List (List Int)} (e : Ex H H2) (h : RowsAt H D hss) : RowsAt H2 D hss := by
  obtain ⟨xs, h1, h2⟩ := h
  exact ⟨xs, e _ _ h1, h2.mono e⟩
theorem RowsAt.dp {K : PySem.W.Frag} {H : Hp} {D : Addr} {hss : List (List Int)} (h : RowsAt H D hss) : Dp K H (.ref D) (.list (hss.map iT)) := by
  obtain ⟨xs, h1, h2⟩ := h
  exact .lst (SqL.of h1) h2.dp
theorem sh_rows {n : Nat} (hss : List (List Int)) : Sh (n + 2) (.list (hss.map iT)) := sh_list fun d hd => by
  obtain ⟨hs, _, rfl⟩ := List.mem_map.mp hd
  exact sh_ints hs
theorem eqvAll_rows : ∀ ns ms : List (List Int), PyData.eqvAll (ns.map iT) (ms.map iT) = decide (ns = ms)
  | [], [] => by simp [PyData.eqvAll]
  | [], _ :: _ => by simp [PyData.eqvAll]
  | _ :: _, [] => by simp [PyData.eqvAll]
  | n :: ns, m :: ms => by
    have ih := eqvAll_rows ns ms
    simp only [List.map_cons, PyData.eqvAll, eqv_ints, ih]
    by_cases h : n = m
    · subst h
      simp
    · simp [h]
theorem eqv_rows (ns ms : List (List Int)) : PyData.eqv (.list (ns.map iT)) (.list (ms.map iT)) = decide (ns = ms) := by
  simp only [PyData.eqv]
  exact eqvAll_rows ns ms
theorem RowsR.upd {H : Hp} {D : Addr} {acc : List V} {o : HO} (hD : H D = some (.lst acc)) : ∀ {xs : List V} {hss : List (List Int)}, RowsR H xs hss → RowsR (upd H D o) xs hss
  | _, _, .nil => .nil
  | _, _, .cons ⟨r, h1, h2⟩ t => .cons ⟨r, h1, by rw [upd_ne (ne_of h2 hD (by intro z; cases z))]; exact h2⟩ (RowsR.upd hD t)
theorem rows_push {H : Hp} {D u : Addr} {hss : List (List Int)} {ks : List Int} (h : RowsAt H D hss) (hu : H u = some (.tup (ks.map V.int))) : ∃ acc, H D = some (.lst acc) ∧ acc.length = hss.length ∧ RowsAt (upd H D (.lst (acc ++ [.ref u]))) D (hss ++ [ks]) := by
  obtain ⟨xs, h1, h2⟩ := h
  refine ⟨xs, h1, h2.len, _, upd_same, ?_⟩
  exact RowsR.snoc (by rw [upd_ne (ne_of hu h1 (by intro z; cases z))]; exact hu) (h2.upd h1)
theorem ex_upd {H H2 : Hp} {D : Addr} {o : HO} (e : Ex H H2) (hD : H D = none) : Ex H (upd H2 D o) := fun c u z => by
  rw [upd_ne (ne_of_none z hD)]
  exact e c u z
theorem ext {H H1 H2 : Hp} (a : Ex H H1) (b : Ex H1 H2) : Ex H H2 := fun c o z => b c o (a c o z)

/-! ### tuple * int, from 1 on -/
theorem u65 {k : Nat} {A : Around} (r : Room k A) : A.units + 65 < cLine := by have := r.un; omega
theorem tuple_mul1 (l : Addr) (items : Array Value) (n : Nat) (dd : Option Addr) (sl : Array (Option Value)) (x : Int) (u : Tok) (c0 : (decide (x < -(2 ^ 63)) || decide (x ≥ 2 ^ 63)) = false) (c1 : (items.isEmpty || x == 1) = true) :
    Meets (Builtin.«tuple.__mul__» ⟨[.ref l, .int x u], []⟩) (fun _ R s => s.heap.get? l = some { cls := .type "tuple", dict := dd, data := .seq items n, slots := sl } ∧ R (.ok (.ret (Value.ref l))) s) :=
  .of_wp fun prog w A R s h => by
    obtain ⟨hp, g, d, tk, os⟩ := s
    obtain ⟨hl, h⟩ := h
    have f1 := AutoSeq1.idx_int
    wp_walk using wpAny_loadPart' hl
    repeat (first
      | (refine wpAny_ite_false (decide_eq_false (by rw [c0]; exact Bool.false_ne_true)) ?_; wp_walk using wpAny_loadPart' hl)
      | (refine wpAny_ite_true (decide_eq_true c1) ?_; wp_walk using wpAny_loadPart' hl))
    exact ⟨_, rfl, h⟩
def rRepA (K : PySem.W.Frag) : R2 := fun x y H Q => ∃ l k xs, x = .ref l ∧ y = .int k ∧ SqT K H l xs ∧ xs ≠ [] ∧ 1 ≤ k ∧ k ≤ 1000 ∧ xs.length ≤ 1000 ∧ (k = 1 → Q (.ref l) H) ∧ ∀ p, H p = none → Q (.ref p) (upd H p (.tup (List.replicate k.toNat xs).flatten))
theorem op_repA {X : Cx} : OpR X (binaryOp .Mult) (rRepA X.K) := by
  intro pins s σ H x y v u Q I rx ry h
  obtain ⟨l, k, xs, ex, ey, hT, hne, h1, h2, hz, q1, q⟩ := h
  by_cases hk : k = 1
  · subst ex ey hk
    cases rx
    obtain ⟨t, rfl⟩ := ry
    obtain ⟨its, r, ⟨⟨cls, dd, data, sl⟩, ho, hc, n, hd⟩, hs⟩ := I.tuple hT
    simp only at hc hd
    subst hc hd
    refine wpAny_binaryOp_repeat_ref (T := "tuple") (U := "int") (by decide) ⟨_, ho, rfl⟩ (fun s2 => typeIs_int s2 1 t) noFill_tuple_mul PySem.F.fills_int_mul PySem.F.slot_int_rmul repeat_tuple PySem.F.slot_int_index.lookup
      (call_meets PySem.F.slot_int_rmul (typeIs_int s 1 t) PySem.F.entry_int_rmul (PySem.F.args_int_rmul_2 _ _) (int_rmul_tuple 1 t l its.toArray n dd sl)
        ⟨ho, rfl, ⟨_, ho, rfl⟩, call_meets PySem.F.slot_tuple_mul ⟨_, ho, rfl⟩ PySem.F.entry_tuple_mul (PySem.F.args_tuple_mul_2 _ _) (tuple_mul1 l its.toArray n dd sl 1 t (by decide) (by simp)) ⟨ho, ?_⟩⟩)
    exact ⟨.ref l, H, I, rfl, q1 rfl⟩
  · exact op_repT pins s σ H x y v u Q I rx ry ⟨l, k, xs, ex, ey, hT, hne, by omega, h2, hz, q⟩
/-- (x,) * k -/
theorem rep_one (x : V) (k : Nat) : (List.replicate k [x]).flatten = List.replicate k x := by
  induction k with
  | zero => rfl
  | succ k ih => rw [List.replicate_succ, List.flatten_cons, ih, List.replicate_succ]; rfl
theorem rep_ints {K : PySem.W.Frag} {H : Hp} {Q : VK} {u : Addr} {x k : Int} (hu : H u = some (.tup [.int x])) (h1 : 1 ≤ k) (h2 : k ≤ 1000) (h : ∀ q H2, Ex H H2 → H2 q = some (.tup ((List.replicate k.toNat x).map V.int)) → Q (.ref q) H2) : rRepA K (.ref u) (.int k) H Q := by
  refine ⟨u, k, [.int x], rfl, rfl, SqT.of hu, (fun z => nomatch z), h1, h2, (by show 1 ≤ 1000; decide), fun e => ?_, fun p hp => ?_⟩
  · subst e
    exact h u H exr hu
  · refine h p _ (exn hp) ?_
    rw [upd_same, rep_one, List.map_replicate]
theorem ne_same {a b : List Int} (h : a = b) : (!PyData.eqv (iT a) (iT b)) = false := by rw [h]; exact eqv_same (sh_ints b)
/-- a comprehension over a tuple of ints, by a value each -/
theorem row_in {hss : List (List Int)} {ps : List Int} (h : ps ∈ hss) : ((hss.map iT).any fun z => PyData.eqv z (iT ps)) = true := by
  rw [List.any_eq_true]
  exact ⟨iT ps, List.mem_map.mpr ⟨ps, h, rfl⟩, by rw [eqv_ints]; simp⟩
/-- a list of ints -/
abbrev iL (ns : List Int) : PyData := .list (ns.map PyData.int)
theorem sh_ilist {n : Nat} (ns : List Int) : Sh (n + 1) (iL ns) := sh_list fun d hd => by
  obtain ⟨i, _, rfl⟩ := List.mem_map.mp hd
  exact sh_int i
theorem dp_ilist {K : PySem.W.Frag} {H : Hp} {a : Addr} {ns : List Int} (h : H a = some (.lst (ns.map V.int))) : Dp K H (.ref a) (iL ns) := .lst (SqL.of h) (dpall_ints ns)
theorem eqv_ilist (ns ms : List Int) : PyData.eqv (iL ns) (iL ms) = decide (ns = ms) := by
  simp only [PyData.eqv]
  exact eqvAll_ints ns ms
theorem dec_bl {a b : Bool} (h : a = b) : (!decide (V.bl a = V.bl b)) = false := by rw [h]; simp
theorem emod_eq_iff {a b n : Int} : a % n = b % n ↔ n ∣ a - b := by
  rw [Int.emod_eq_emod_iff_emod_sub_eq_zero, Int.dvd_iff_emod_eq_zero]
/-- behind an if that changes names alone -/
theorem ifs_cutS {c : TT} {t u : TS} {D : Ends} {σ : L2.St} {H : Hp} (R : L2.St → Prop) (hR : ∀ σ2, R σ2 → D.nx σ2 H) (h : ∀ N : L2.St → Hp → Prop, (∀ σ2, R σ2 → N σ2 H) → tIfS c t u { D with nx := N } σ H) : tIfS c t u D σ H :=
  h D.nx hR

/-- a comprehension that lengthens a row by each of ks -/
theorem lc_rows {J : It} {n : Nat} {G : Hp → Prop} {Y : Nat → Hp → V → Hp → Prop} (w : Walk J n G Y) {g : TG} {te : TE} {vs : List Nat} {σ : L2.St} {H1 : Hp} {D : Addr} {Qd : Hp → Prop} (row ks : List Int) (hn : ks.length = n) (hl : n ≤ 10000000) (hD : H1 D = none)
    (hG : ∀ H, Ex H1 H → G H)
    (hs : ∀ i x H H2 (R : VK), i < n → Ex H1 H → Y i H x H2 → (∀ k v H5, Ex H H5 → ks[i]? = some k → H5 v = some (.tup ((row ++ [k]).map V.int)) → R (.ref v) H5) → g x (wipe σ vs) H2 fun σ2 H3 => wipe σ2 vs = wipe σ vs ∧ te σ2 H3 R)
    (hg : ∀ x σ2 H2 (R R2 : L2.St → Hp → Prop), (∀ σ3 H3, R σ3 H3 → R2 σ3 H3) → g x σ2 H2 R → g x σ2 H2 R2)
    (hd : ∀ H, Ex H1 H → RowsAt H D (ks.map fun k => row ++ [k]) → Qd H) :
    ∃ W : Nat → Nat → Hp → Prop, (∃ m, W 0 m (upd H1 D (.lst []))) ∧ ∀ i m H, W i m H →
      (J.stop i H ∧ Qd H) ∨ (J.go i H ∧ ∃ Nx : Hp → Prop, (∀ H2, Nx H2 → ∃ m2, m2 < m ∧ W (i + 1) m2 H2) ∧ ∀ x H2, J.yld i H x H2 → g x (wipe σ vs) H2 fun σ2 H3 => wipe σ2 vs = wipe σ vs ∧ tYes σ2 H3 fun b H4 =>
        if b = true then te σ2 H4 fun y H5 => ∃ acc, H5 D = some (.lst acc) ∧ acc.length < sizeLine ∧ Nx (upd H5 D (.lst (acc ++ [y]))) else Nx H4) := by
  refine lc_it w (fun i H => Ex H1 H ∧ RowsAt H D ((ks.take i).map fun k => row ++ [k])) ⟨exn hD, _, upd_same, .nil⟩ (fun i H _ p => hG H p.1) (fun i x H H2 hi p y => ?_) (fun H p => hd H p.1 (by have := p.2; rwa [List.take_of_length_le (by rw [hn]; exact Nat.le_refl _)] at this))
  refine hg _ _ _ _ _ (fun σ3 H3 q => ⟨q.1, q.2⟩) (hs i x H H2 (fun y H5 => ∃ acc, H5 D = some (.lst acc) ∧ acc.length < sizeLine ∧ Ex H1 (upd H5 D (.lst (acc ++ [y]))) ∧ RowsAt (upd H5 D (.lst (acc ++ [y]))) D ((ks.take (i + 1)).map fun k => row ++ [k])) hi p.1 y fun k v H5 e hk hv => ?_)
  obtain ⟨acc, h1, h2, h3⟩ := rows_push (p.2.mono e) hv
  refine ⟨acc, h1, ?_, ex_upd (ext p.1 e) hD, ?_⟩
  · rw [h2, List.length_map, List.length_take]
    exact Nat.lt_of_le_of_lt (Nat.le_trans (Nat.min_le_right _ _) (by rw [hn]; exact hl)) (by decide)
  · rw [take_more hk, List.map_append]
    exact h3
/-- row + (k,) -/
theorem cat_row {K : PySem.W.Frag} {H : Hp} {Q : VK} {r u : Addr} {row : List Int} {k : Int} (hr : H r = some (.tup (row.map V.int))) (hu : H u = some (.tup [.int k])) (hl : row.length ≤ 1000) (h : ∀ v H5, Ex H H5 → H5 v = some (.tup ((row ++ [k]).map V.int)) → Q (.ref v) H5) : rCatA K (.ref r) (.ref u) H Q := by
  refine ⟨r, u, row.map V.int, [.int k], rfl, rfl, SqT.of hr, SqT.of hu, ?_, fun z => ?_, fun _ z => (nomatch z), fun _ _ v hv => ?_⟩
  · rw [List.length_map]
    exact Nat.le_trans (show _ + 1 ≤ 1001 by omega) (by decide)
  · have : row = [] := List.map_eq_nil_iff.mp z
    subst this
    exact h u H exr hu
  · refine h v _ (exn hv) ?_
    rw [upd_same, List.map_append]
    rfl
theorem rows_ext {H : Hp} {D E : Addr} {hss kss : List (List Int)} (h1 : RowsAt H D hss) (h2 : RowsAt H E kss) (ne : D ≠ E) : ∃ xs zs, H D = some (.lst xs) ∧ H E = some (.lst zs) ∧ xs.length = hss.length ∧ zs.length = kss.length ∧ RowsAt (upd H D (.lst (xs ++ zs))) D (hss ++ kss) := by
  obtain ⟨xs, a1, a2⟩ := h1
  obtain ⟨zs, b1, b2⟩ := h2
  exact ⟨xs, zs, a1, b1, a2.len, b2.len, _, upd_same, RowsR.app (b2.upd a1) (a2.upd a1)⟩

theorem eqT {i j : Int} (h : decide (V.int i = V.int j) = true) : i = j := V.int.inj (of_decide_eq_true h)
theorem eqF {i j : Int} (h : ¬decide (V.int i = V.int j) = true) : i ≠ j := fun z => h (decide_eq_true (by rw [z]))
/-- behind an if -/
theorem ifs_cutG {c : TT} {t u : TS} {D : Ends} {σ : L2.St} {H : Hp} (R : L2.St → Hp → Prop) (hR : ∀ σ2 H2, R σ2 H2 → D.nx σ2 H2) (h : ∀ N : L2.St → Hp → Prop, (∀ σ2 H2, R σ2 H2 → N σ2 H2) → tIfS c t u { D with nx := N } σ H) : tIfS c t u D σ H :=
  h D.nx hR
theorem exG {H H4 : Hp} {p : Addr} {o : HO} (h : upd H p o = H4) (n : H p = none) : Ex H H4 := h ▸ exn n
theorem atG {H H4 : Hp} {p : Addr} {o : HO} (h : upd H p o = H4) : H4 p = some o := h ▸ upd_same
theorem slen {n : Nat} (h : Nat.ble n 1000 = true) : n ≤ sizeLine := Nat.le_trans (Nat.le_of_ble_eq_true h) (by decide)
/-- a comprehension with a test: what passes, by f -/
theorem lc_filt {α : Type} {J : It} {n : Nat} {G : Hp → Prop} {Y : Nat → Hp → V → Hp → Prop} (w : Walk J n G Y) {g : TG} {tt : TT} {te : TE} {vs : List Nat} {σ : L2.St} {H1 : Hp} {D : Addr} {Qd : Hp → Prop} (xs : List α) (c : α → Bool) (f : α → V) (hn : xs.length = n) (hl : n ≤ 10000000) (hD : H1 D = none)
    (hG : ∀ H, Ex H1 H → G H)
    (hs : ∀ i x a H H2 (R : VK) (S : Hp → Prop), xs[i]? = some a → Ex H1 H → Y i H x H2 → (∀ y H5, Ex H H5 → c a = true → y = f a → R y H5) → (∀ H4, Ex H H4 → c a = false → S H4) → g x (wipe σ vs) H2 fun σ2 H3 => wipe σ2 vs = wipe σ vs ∧ tt σ2 H3 fun b H4 => if b = true then te σ2 H4 R else S H4)
    (hd : ∀ H, Ex H1 H → H D = some (.lst ((xs.filter c).map f)) → Qd H) :
    ∃ W : Nat → Nat → Hp → Prop, (∃ m, W 0 m (upd H1 D (.lst []))) ∧ ∀ i m H, W i m H →
      (J.stop i H ∧ Qd H) ∨ (J.go i H ∧ ∃ Nx : Hp → Prop, (∀ H2, Nx H2 → ∃ m2, m2 < m ∧ W (i + 1) m2 H2) ∧ ∀ x H2, J.yld i H x H2 → g x (wipe σ vs) H2 fun σ2 H3 => wipe σ2 vs = wipe σ vs ∧ tt σ2 H3 fun b H4 =>
        if b = true then te σ2 H4 fun y H5 => ∃ acc, H5 D = some (.lst acc) ∧ acc.length < sizeLine ∧ Nx (upd H5 D (.lst (acc ++ [y]))) else Nx H4) := by
  refine lc_out w (fun i => ((xs.take i).filter c).map f) (by simp) hD (fun i hi => ?_) hG (fun i x H H2 Nx hi e hDi y kA kN => ?_) (fun H e h => hd H e ?_)
  · rw [List.length_map]
    refine Nat.lt_of_le_of_lt (Nat.le_trans (List.length_filter_le _ _) (Nat.le_trans (by rw [List.length_take]; exact Nat.min_le_right _ _) (by rw [hn]; exact hl))) (by decide)
  · obtain ⟨a, ha⟩ : ∃ a, xs[i]? = some a := ⟨xs[i]'(by omega), List.getElem?_eq_getElem (by omega)⟩
    refine hs i x a H H2 _ _ ha e y (fun y2 H5 e5 hc hy => kA y2 H5 e5 ?_) (fun H4 e4 hc => kN H4 e4 ?_)
    · rw [take_more ha, List.filter_append, List.map_append, hy]
      simp [hc]
    · rw [take_more ha, List.filter_append, List.map_append]
      simp [hc]
  · rw [h, List.take_of_length_le (by rw [hn]; exact Nat.le_refl _)]
/-- rows that pass a test -/
theorem RowsR.filt {H : Hp} (c : List Int → Bool) : ∀ {xs : List V} {hss : List (List Int)}, RowsR H xs hss → RowsR H (((xs.zip hss).filter fun z => c z.2).map fun z => z.1) (hss.filter c)
  | _, _, .nil => .nil
  | _, _, .cons (a := x) (b := hs) q t => by
    have ih := RowsR.filt c t
    rw [List.zip_cons_cons]
    cases e : c hs with
    | false =>
      rw [List.filter_cons_of_neg (by simp [e]), List.filter_cons_of_neg (by simp [e])]
      exact ih
    | true =>
      rw [List.filter_cons_of_pos (by simp [e]), List.filter_cons_of_pos (by simp [e])]
      exact .cons q ih
theorem zip_at2 {α β : Type} {l : List α} {m : List β} {i : Nat} {z : α × β} (h : (l.zip m)[i]? = some z) : l[i]? = some z.1 ∧ m[i]? = some z.2 := by
  rw [List.getElem?_zip_eq_some] at h
  exact h
/-- tuple(s), s a list or a tuple -/
theorem tup_of {K : PySem.W.Frag} {H : Hp} {q : Bool × Addr} {xs : List V} {Q : VK} (h : SqH H q xs) (k : ∀ t H2, Ex H H2 → H2 t = some (.tup xs) → Q (.ref t) H2) : (SqL K H q.2 xs ∧ ∀ p, H p = none → Q (.ref p) (upd H p (.tup xs))) ∨ SqT K H q.2 xs ∧ Q (.ref q.2) H := by
  obtain ⟨b, a⟩ := q
  cases b
  · exact .inl ⟨SqL.of (show H a = some (.lst xs) from h), fun p hp => k p _ (exn hp) upd_same⟩
  · exact .inr ⟨SqT.of (show H a = some (.tup xs) from h), k a H exr h⟩
def rTupQ : List V → Hp → VK → Prop := fun vs H Q => ∃ (q : Bool × Addr) (xs : List V), vs = [.ref q.2] ∧ SqH H q xs ∧ ∀ t H2, Ex H H2 → H2 t = some (.tup xs) → Q (.ref t) H2
theorem call_tuple_q {X : Cx} : CallR X (.type "tuple") rTupQ := by
  intro pins s σ H vs us Q I r h
  obtain ⟨q, xs, rfl, hq, k⟩ := h
  exact call_tuple_of pins s σ H _ us Q I r ⟨q.2, xs, rfl, tup_of hq k⟩
theorem SqH.uniq {H : Hp} {q : Bool × Addr} {xs ys : List V} (h1 : SqH H q xs) (h2 : SqH H q ys) : xs = ys := by
  obtain ⟨b, a⟩ := q
  cases b
  · have e : some (HO.lst xs) = some (HO.lst ys) := (show H a = some (.lst xs) from h1).symm.trans (show H a = some (.lst ys) from h2)
    injection e with e
    injection e
  · have e : some (HO.tup xs) = some (HO.tup ys) := (show H a = some (.tup xs) from h1).symm.trans (show H a = some (.tup ys) from h2)
    injection e with e
    injection e
theorem RowsR.monoT {H H2 : Hp} (e : ∀ c xs, H c = some (.tup xs) → H2 c = some (.tup xs)) : ∀ {xs : List V} {hss : List (List Int)}, RowsR H xs hss → RowsR H2 xs hss
  | _, _, .nil => .nil
  | _, _, .cons ⟨r, h1, h2⟩ t => .cons ⟨r, h1, e _ _ h2⟩ (RowsR.monoT e t)

/-- a source of draws stands at s; n draws more may be taken -/
def Sr5 (H : Hp) (s : Addr) (n : Nat) : Prop := ∃ a b c : Int, H s = some (.lst [.int a, .int b, .int c]) ∧ 0 ≤ b ∧ b < 2147483647 ∧ 0 ≤ c ∧ c + n ≤ 1000000000000
theorem Sr5.mono {s : Addr} {H H2 : Hp} {n : Nat} (e : Ex H H2) (h : Sr5 H s n) : Sr5 H2 s n := by
  obtain ⟨a, b, c, h, q⟩ := h
  exact ⟨a, b, c, e _ _ h, q⟩
theorem Sr5.less {s : Addr} {H : Hp} {n m : Nat} (h : Sr5 H s n) (l : m ≤ n) : Sr5 H s m := by
  obtain ⟨a, b, c, h, q1, q2, q3, q4⟩ := h
  exact ⟨a, b, c, h, q1, q2, q3, by omega⟩
theorem Sr5.ne {s p : Addr} {H : Hp} {n : Nat} (h : Sr5 H s n) (hp : H p = none) : p ≠ s := by
  obtain ⟨a, b, c, h, _⟩ := h
  exact (ne_of_none h hp).symm
theorem Sr5.new {s p : Addr} {H : Hp} {o : HO} {n : Nat} (h : Sr5 H s n) (hp : H p = none) : Sr5 (upd H p o) s n := Sr5.mono (exn hp) h
theorem Sr5.tup {s q : Addr} {H H2 : Hp} {xs : List V} {n : Nat} (src : Sr5 H s n) (h : H q = some (.tup xs)) (xb : XB s H H2) : H2 q = some (.tup xs) := by
  obtain ⟨a, b, c, e, _⟩ := src
  exact xb _ _ (ne_of h e (by intro z; cases z)) h
section
variable {P : Program} {w : World} {K : PySem.W.Frag} {mg : Str → Option Value} {base : Heap}
def sp_law_cell_at (K : PySem.W.Frag) : Sp := fun vs H Q _ => ∃ (a : Addr) (ns : List Int) (k : Int), vs = [.ref a, .int k] ∧ SqL K H a (ns.map V.int) ∧ 0 ≤ k ∧ ∀ i : Int, Q (.int i) H
theorem ok_law_cell_at (T : TX K mg) : FnOk P w K mg base CX0 1 T.f_law_cell_at T.fd_law_cell_at ["_law_script", "_law_k"] (sp_law_cell_at K) := by
  refine T.F_law_cell_at.ok sc_law_cell_at (fun vs H Q E h => ?_) (fun cdv A outer s H vs Q E hr h => ?_)
  · obtain ⟨a, ns, k, rfl, _⟩ := h
    rfl
  · obtain ⟨a, ns, j, rfl, hl, h0, k⟩ := h
    refine ⟨_, (pss_one (ps_ret (pe_ifExp (pt_cmpR op_lt (pv 1) (pe_callB call_len_seq (by rfl) T.z_len (by decide +kernel) (pa_cons (pv 0) pa_nil)) (nomark _)) (pe_ix ix_list (pv 0) (pv 1) (fun _ _ => rfl)) pe_int))), ?_⟩
    refine ⟨_, rfl, _, rfl, a, _, rfl, .inl hl, _, _, rfl, rfl, _, rfl, ?_⟩
    refine ite2 (fun h => ?_) (fun _ => k 0)
    rw [List.length_map] at h
    have hj : j < ns.length := of_decide_eq_true h
    obtain ⟨v, _, gv⟩ := at_ex (xs := ns) h0 hj
    exact ⟨_, rfl, _, rfl, a, _, _, _, rfl, rfl, hl, gv, k v⟩
def sp_law_source : Sp := fun vs H Q _ => ∃ c : Int, vs = [.int c] ∧ ∀ H2 s, Ex H H2 → H s = none → Sr5 H2 s 1000000000 → Q (.ref s) H2
theorem ok_law_source (T : TX K mg) : FnOk P w K mg base CX0 1 T.f_law_source T.fd_law_source ["_law_cell"] sp_law_source := by
  refine T.F_law_source.ok sc_law_source (fun vs H Q E h => ?_) (fun cdv A outer s H vs Q E hr h => ?_)
  · obtain ⟨c, rfl, _⟩ := h
    rfl
  · obtain ⟨c, rfl, k⟩ := h
    refine ⟨_, (pss_one (ps_ret (pe_lst (pa_cons (pe_op op_mulI (pv 0) (pe_callTy call_int1 (by rfl) T.z_int (by decide +kernel) (pa_cons (pe_cmpR op_ge (pv 0) (pe_op op_pow pe_int pe_int) (nomark _)) pa_nil))) (pa_cons (pe_op op_mod (pv 0) pe_int) (pa_cons pe_int pa_nil)))))), ?_⟩
    refine ⟨_, rfl, _, rfl, _, _, rfl, rfl, ⟨by decide, by decide, by decide⟩, _, _, rfl, rfl, .inr ⟨_, rfl, _, _, rfl, rfl, mul_ok (.inr ?_), ?_⟩⟩
    · split <;> decide
    refine ⟨_, rfl, _, _, rfl, rfl, (by show (0 : Int) < _; decide), by show 3 ≤ sizeLine; decide, fun s hs => k _ s (exn hs) hs ⟨_, _, 0, upd_same, mod_lo (by decide), mod_hi (by decide), by decide, by decide⟩⟩
def sp_law_take : Sp := fun vs H Q _ => ∃ (s : Addr) (n : Int) (m : Nat), vs = [.ref s, .int n] ∧ Sr5 H s (m + 1) ∧ 0 < n ∧ n.natAbs < 2 ^ 8000 ∧ ∀ r H2, 0 ≤ r → r < n → XB s H H2 → Sr5 H2 s m → Q (.int r) H2
theorem ok_law_take (T : TX K mg) : FnOk P w K mg base CX0 1 T.f_law_take T.fd_law_take ["_law_source_here", "_law_bound"] sp_law_take := by
  refine T.F_law_take.ok sc_law_take (fun vs H Q E h => ?_) (fun cdv A outer s H vs Q E hr h => ?_)
  · obtain ⟨s, n, m, rfl, _⟩ := h
    rfl
  · obtain ⟨s, n, m, rfl, ⟨a, b, c, hs, b0, b1, c0, c1⟩, n0, n8, k⟩ := h
    refine ⟨_, (pss_cons (ps_if (pt_cmpR op_gt (pe_ix ix_list (pv 0) pe_int (fun _ _ => rfl)) pe_int (nomark _)) (pss_cons (ps_set (i := 2) sc_law_take.nd rfl (Or.inl rfl) (pe_op op_mod (pe_ix ix_list (pv 0) pe_int (fun _ _ => rfl)) (pv 1))) (pss_cons (ps_asg (pe_op op_fdivW (pe_ix ix_list (pv 0) pe_int (fun _ _ => rfl)) (pv 1)) (pg_sub (pv 0) pe_int set_list)) (pss_one (ps_ret (pv 2))))) pss_nil) (pss_cons (ps_asg (pe_op op_add (pe_ix ix_list (pv 0) pe_int (fun _ _ => rfl)) pe_int) (pg_sub (pv 0) pe_int set_list)) (pss_cons (ps_set (i := 3) sc_law_take.nd rfl (Or.inl rfl) (pe_ix ix_list (pe_lst (pa_cons pe_int (pa_cons pe_int (pa_cons pe_int (pa_cons pe_int pa_nil))))) (pe_op op_mod (pe_ix ix_list (pv 0) pe_int (fun _ _ => rfl)) pe_int) (fun _ _ => rfl))) (pss_cons (ps_set (i := 4) sc_law_take.nd rfl (Or.inl rfl) (pe_op op_mod (pe_op op_pow (pe_op op_add (pe_op op_add (pe_ix ix_list (pv 0) pe_int (fun _ _ => rfl)) (pe_op op_mulI pe_int (pe_ix ix_list (pv 0) pe_int (fun _ _ => rfl)))) pe_int) pe_int) (pv 3))) (pss_cons (ps_set (i := 4) sc_law_take.nd rfl (Or.inl rfl) (pe_op op_mod (pe_op op_mulI (pe_op op_add (pv 4) (pe_ix ix_list (pv 0) pe_int (fun _ _ => rfl))) (pe_op op_add (pe_op op_fdivW (pv 4) pe_int) pe_int)) (pv 3))) (pss_cons (ps_set (i := 4) sc_law_take.nd rfl (Or.inl rfl) (pe_op op_mod (pe_op op_mulI (pv 4) (pe_op op_add (pe_op op_add (pe_op op_fdivW (pv 4) pe_int) (pe_op op_mulI pe_int (pe_ix ix_list (pv 0) pe_int (fun _ _ => rfl)))) pe_int)) (pv 3))) (pss_one (ps_ret (pe_op op_mod (pe_op op_fdivW (pv 4) pe_int) (pv 1)))))))))), ?_⟩
    refine ⟨_, rfl, s, _, _, _, rfl, rfl, SqL.of hs, rfl, _, _, rfl, rfl, _, rfl, ?_⟩
    refine ite2 (fun _ => ?_) (fun _ => ?_)
    · refine ⟨_, rfl, s, _, _, _, rfl, rfl, SqL.of hs, rfl, _, rfl, _, _, rfl, rfl, n0, ?_⟩
      refine ⟨_, rfl, s, _, _, _, rfl, rfl, SqL.of hs, rfl, _, rfl, _, _, rfl, rfl, wide_div n0 n8 (by decide) (by decide), _, rfl, s, _, _, 0, rfl, rfl, hs, rfl, ?_⟩
      exact ⟨_, rfl, k _ _ (mod_lo n0) (mod_hi n0) XB.upd ⟨_, _, _, upd_same, b0, b1, c0, by omega⟩⟩
    · refine ⟨_, rfl, s, _, _, _, rfl, rfl, SqL.of hs, rfl, _, _, rfl, rfl, _, rfl, s, _, _, 2, rfl, rfl, hs, rfl, ?_⟩
      have xb0 : XB s H (upd H s (.lst [.int a, .int b, .int (c + 1)])) := XB.upd
      have hs1 : upd H s (.lst [.int a, .int b, .int (c + 1)]) s = some (.lst [.int a, .int b, .int (c + 1)]) := upd_same
      show tSeq _ _ _ _ (upd H s (.lst [.int a, .int b, .int (c + 1)]))
      generalize upd H s (.lst [.int a, .int b, .int (c + 1)]) = H1 at xb0 hs1
      -- the prime
      refine ⟨by show 4 ≤ sizeLine; decide, fun pl hpl => ?_⟩
      have np : s ≠ pl := ne_of_none hs1 hpl
      have hs2 := exn (o := .lst [.int 2147483629, .int 2147483587, .int 2147483579, .int 2147483563]) hpl _ _ hs1
      obtain ⟨pr, mp, gp⟩ := at_ex (xs := [2147483629, 2147483587, 2147483579, 2147483563]) (r := (c + 1) % 4) (mod_lo (by decide)) (mod_hi (by decide))
      have p1 : 2000000000 < pr ∧ pr < 2147483648 := by
        simp only [List.mem_cons, List.not_mem_nil, or_false] at mp
        omega
      refine ⟨_, rfl, s, _, _, _, rfl, rfl, SqL.of hs2, rfl, _, _, rfl, rfl, (by show (0 : Int) < 4; decide), pl, _, _, _, rfl, rfl, SqL.of upd_same, gp, ?_⟩
      have xb2 : XB s H (upd H1 pl (.lst [.int 2147483629, .int 2147483587, .int 2147483579, .int 2147483563])) := xb0.trans (XB.of (exn hpl))
      show tSeq _ _ _ _ (upd H1 pl (.lst [.int 2147483629, .int 2147483587, .int 2147483579, .int 2147483563]))
      generalize upd H1 pl (.lst [.int 2147483629, .int 2147483587, .int 2147483579, .int 2147483563]) = H2 at xb2 hs2
      have e64 : (2 : Nat) ^ 64 = 18446744073709551616 := by decide
      refine ⟨_, rfl, s, _, _, _, rfl, rfl, SqL.of hs2, rfl, _, rfl, s, _, _, _, rfl, rfl, SqL.of hs2, rfl, _, _, rfl, rfl, mul_ok (.inl (by decide)), _, _, rfl, rfl, _, _, rfl, rfl, _, _, rfl, rfl, ⟨by decide, by decide, by rw [e64]; omega⟩, _, rfl, _, _, rfl, rfl, (by show 0 < pr; omega), ?_⟩
      have q1 := mod_lo (i := (b + 6007 * (c + 1) + 29) ^ (3 : Int).toNat) (n := pr) (by omega)
      have q2 := mod_hi (i := (b + 6007 * (c + 1) + 29) ^ (3 : Int).toNat) (n := pr) (by omega)
      dsimp only
      generalize (b + 6007 * (c + 1) + 29) ^ (3 : Int).toNat % pr = x1 at q1 q2
      refine ⟨_, rfl, _, rfl, s, _, _, _, rfl, rfl, SqL.of hs2, rfl, _, _, rfl, rfl, _, rfl, _, _, rfl, rfl, ⟨by decide, by decide +kernel⟩, _, _, rfl, rfl, _, _, rfl, rfl, mul_ok (.inr (by omega)), _, rfl, _, _, rfl, rfl, (by show 0 < pr; omega), ?_⟩
      have q3 := mod_lo (i := (x1 + (c + 1)) * (x1 / 1021 + 50021)) (n := pr) (by omega)
      have q4 := mod_hi (i := (x1 + (c + 1)) * (x1 / 1021 + 50021)) (n := pr) (by omega)
      dsimp only
      generalize (x1 + (c + 1)) * (x1 / 1021 + 50021) % pr = x2 at q3 q4
      refine ⟨_, rfl, _, rfl, _, _, rfl, rfl, ⟨by decide, by decide +kernel⟩, _, rfl, s, _, _, _, rfl, rfl, SqL.of hs2, rfl, _, _, rfl, rfl, mul_ok (.inl (by decide)), _, _, rfl, rfl, _, _, rfl, rfl, _, _, rfl, rfl, mul_ok (.inl (by omega)), _, rfl, _, _, rfl, rfl, (by show 0 < pr; omega), ?_⟩
      refine ⟨_, rfl, _, _, rfl, rfl, ⟨by decide, by decide +kernel⟩, _, rfl, _, _, rfl, rfl, n0, ?_⟩
      exact k _ _ (mod_lo n0) (mod_hi n0) xb2 ⟨_, _, _, hs2, b0, b1, by omega, by omega⟩
def sp_law_large : Sp := fun vs H Q _ => ∃ (s : Addr) (n : Int) (m : Nat), vs = [.ref s, .int n] ∧ Sr5 H s (m + 4) ∧ 0 < n ∧ ∀ r H2, 0 ≤ r → r < n → XB s H H2 → Sr5 H2 s m → Q (.int r) H2
theorem ok_law_large (T : TX K mg) : FnOk P w K mg base CX0 2 T.f_law_large T.fd_law_large ["_law_source_here", "_law_bound"] sp_law_large := by
  refine T.F_law_large.ok sc_law_large (fun vs H Q E h => ?_) (fun cdv A outer s H vs Q E hr h => ?_)
  · obtain ⟨s, n, m, rfl, _⟩ := h
    rfl
  · obtain ⟨s, n, m, rfl, hs, n0, k⟩ := h
    refine ⟨_, (pss_cons (ps_set (i := 2) sc_law_large.nd rfl (Or.inl rfl) pe_int) (pss_cons (ps_for PassesOwn.never rfl (pi_range1 rfl T.z_range (pa_cons pe_int pa_nil)) (pg_name (i := 3) sc_law_large.nd rfl (Or.inl rfl)) (pss_one (ps_set (i := 2) sc_law_large.nd rfl (Or.inl rfl) (pe_op op_add (pe_op op_mulI (pv 2) (pe_op op_pow pe_int pe_int)) (pe_call (ok_law_take T) hr rfl T.m_law_take T.F_law_take.kp T.b_law_take .nil pass0 (pa_cons (pv 0) (pa_cons (pe_op op_pow pe_int pe_int) pa_nil))))))) (pss_one (ps_ret (pe_op op_mod (pv 2) (pv 1)))))), ?_⟩
    refine ⟨4, rfl, by decide, by decide, ?_⟩
    refine for_it walk_range (fun i σ H2 => ∃ (x : Int) (y : Option V), σ = [some (.ref s), some (.int n), some (.int x), y] ∧ XB s H H2 ∧ Sr5 H2 s (m + (4 - i))) ⟨0, none, rfl, XB.refl, hs⟩ (fun _ _ _ _ _ => True.intro) ?_ ?_
    · rintro i x σ _ H2 hi ⟨y, z, rfl, xb, sr⟩ ⟨rfl, rfl⟩
      have hi4 : i < 4 := hi
      have e9 : (10 : Int) ^ (9 : Int).toNat = 1000000000 := by decide
      refine ⟨_, rfl, _, _, rfl, rfl, ⟨by decide, by decide, by decide⟩, _, _, rfl, rfl, mul_ok (.inr (by rw [e9]; omega)), _, rfl, _, _, rfl, rfl, ⟨by decide, by decide, by decide⟩, s, _, m + (4 - (i + 1)), rfl, sr.less (by omega), by decide, by decide +kernel, fun r H3 r0 r1 xb3 sr3 => ?_⟩
      exact ⟨_, _, rfl, rfl, _, _, rfl, xb.trans xb3, sr3⟩
    · rintro σ H2 ⟨x, y, rfl, xb, sr⟩
      exact ⟨_, rfl, _, rfl, _, _, rfl, rfl, n0, k _ _ (mod_lo n0) (mod_hi n0) xb sr⟩
end

/-! ### inverses -/
structure InvI (u m a x b y : Int) : Prop where
  a1 : 0 < a
  b0 : 0 ≤ b
  am : a ≤ m
  bm : b ≤ m
  ax : m ∣ a - x * u
  bx : m ∣ b - y * u
  g : Int.gcd a b = Int.gcd u m
  sz : (x.natAbs : Int) * b + (y.natAbs : Int) * a ≤ m
theorem InvI.init {u m : Int} (h : 1 ≤ m) : InvI u m m 0 (u % m) 1 where
  a1 := by omega
  b0 := Int.emod_nonneg _ (by omega)
  am := Int.le_refl _
  bm := Int.le_of_lt (Int.emod_lt_of_pos _ (by omega))
  ax := by rw [Int.zero_mul, Int.sub_zero]; exact Int.dvd_refl _
  bx := by
    have e : u % m - 1 * u = m * (-(u / m)) := by
      have := Int.emod_add_mul_ediv u m
      grind
    rw [e]
    exact Int.dvd_mul_right _ _
  g := gcd_turn (by omega)
  sz := by
    have e1 : ((0 : Int).natAbs : Int) = 0 := rfl
    have e2 : ((1 : Int).natAbs : Int) = 1 := rfl
    rw [e1, e2]
    omega
theorem InvI.step {u m a x b y : Int} (h : InvI u m a x b y) (hb : 0 < b) : InvI u m b y (a - a / b * b) (x - a / b * y) ∧ a - a / b * b < b := by
  have e : a - a / b * b = a % b := by
    have := Int.emod_add_mul_ediv a b
    grind
  have q0 : 0 ≤ a / b := Int.ediv_nonneg (by have := h.a1; omega) (by omega)
  have l1 := Int.emod_lt_of_pos a hb
  have l0 := Int.emod_nonneg a (show b ≠ 0 by omega)
  refine ⟨⟨hb, by omega, h.bm, by have := h.bm; omega, h.bx, ?_, ?_, ?_⟩, by omega⟩
  · have e2 : a - a / b * b - (x - a / b * y) * u = (a - x * u) - a / b * (b - y * u) := by grind
    rw [e2]
    exact Int.dvd_sub h.ax (Int.dvd_trans h.bx (Int.dvd_mul_left _ _))
  · rw [e, gcd_turn (by omega)]
    exact h.g
  · have h1 := h.sz
    have z1 : ((x - a / b * y).natAbs : Int) ≤ x.natAbs + a / b * y.natAbs := by
      have t1 : (x - a / b * y).natAbs ≤ x.natAbs + (a / b * y).natAbs := by omega
      have t2 : ((a / b * y).natAbs : Int) = a / b * y.natAbs := by
        rw [Int.natAbs_mul, Int.natCast_mul, Int.natAbs_of_nonneg q0]
      omega
    have z2 := Int.mul_le_mul_of_nonneg_right z1 (show 0 ≤ b by omega)
    have z3 : (y.natAbs : Int) * (a - a / b * b) + ((x.natAbs : Int) + a / b * y.natAbs) * b = (y.natAbs : Int) * a + (x.natAbs : Int) * b := by grind
    omega
theorem InvI.ybound {u m a x b y : Int} (h : InvI u m a x b y) : (y.natAbs : Int) ≤ m := by
  have h1 := h.sz
  have h2 : 0 ≤ (x.natAbs : Int) * b := Int.mul_nonneg (by omega) h.b0
  have h3 : (y.natAbs : Int) * 1 ≤ (y.natAbs : Int) * a := Int.mul_le_mul_of_nonneg_left (by have := h.a1; omega) (by omega)
  omega
theorem InvI.done {u m a x y : Int} (h : InvI u m a x 0 y) (co : Int.gcd u m = 1) : u * (x % m) % m = 1 % m := by
  have a1 : a = 1 := by
    have := h.g
    rw [co] at this
    have h2 : a.natAbs = 1 := by rw [← this]; simp
    have := h.a1
    omega
  have hx := h.ax
  rw [a1] at hx
  rw [Int.mul_emod, Int.emod_emod, ← Int.mul_emod, Int.mul_comm]
  exact (emod_eq_iff.mpr hx).symm
theorem InvI.ex {u m a x y : Int} (h : InvI u m a x 0 y) : (1 : Int) ≤ m := by
  have := h.a1
  have := h.am
  omega
/-- inverses are unique -/
theorem inv_unique {u m r t : Int} (r0 : 0 ≤ r) (r1 : r < m) (t0 : 0 ≤ t) (t1 : t < m) (hr : u * r % m = 1 % m) (ht : u * t % m = 1 % m) : r = t := by
  have h1 : m ∣ u * r - 1 := emod_eq_iff.mp hr
  have h2 : m ∣ u * t - 1 := emod_eq_iff.mp ht
  have h3 : m ∣ r - t := by
    have e : r - t = t * (u * r - 1) - r * (u * t - 1) := by grind
    rw [e]
    exact Int.dvd_sub (Int.dvd_trans h1 (Int.dvd_mul_left _ _)) (Int.dvd_trans h2 (Int.dvd_mul_left _ _))
  have h4 := emod_eq_iff.mpr h3
  rw [Int.emod_eq_of_lt r0 r1, Int.emod_eq_of_lt t0 t1] at h4
  exact h4

section
variable {P : Program} {w : World} {K : PySem.W.Frag} {mg : Str → Option Value} {base : Heap}
end

/-! ### sums of two targets on a ring -/
theorem odd_split : ∀ (f : Nat) (n : Int), 1 ≤ n → n.natAbs ≤ f → ∃ (k : Nat) (a : Int), n = 2 ^ k * (2 * a + 1)
  | 0, n, h, l => by omega
  | f + 1, n, h, l => by
    by_cases o : n % 2 = 1
    · exact ⟨0, n / 2, by rw [Int.pow_zero]; omega⟩
    · obtain ⟨k, a, e⟩ := odd_split f (n / 2) (by omega) (by omega)
      refine ⟨k + 1, a, ?_⟩
      have e2 : n = 2 * (n / 2) := by omega
      rw [e2, e, Int.pow_succ]
      grind
theorem odd_le {k j : Nat} {o p : Int} (h : (2 : Int) ^ k * o = 2 ^ j * p) (ho : o % 2 = 1) (hkj : k ≤ j) : o = p ∧ k = j := by
  obtain ⟨i, rfl⟩ := Nat.exists_eq_add_of_le hkj
  rw [Int.pow_add, Int.mul_assoc] at h
  have h2 : o = 2 ^ i * p := Int.eq_of_mul_eq_mul_left (by have := pow2_pos k; omega) h
  cases i with
  | zero => exact ⟨by rw [h2, Int.pow_zero, Int.one_mul], rfl⟩
  | succ i =>
    rw [Int.pow_succ] at h2
    have : o = 2 * (2 ^ i * p) := by rw [h2]; grind
    omega
theorem odd_unique {k j : Nat} {o p : Int} (h : (2 : Int) ^ k * o = 2 ^ j * p) (ho : o % 2 = 1) (hp : p % 2 = 1) : o = p ∧ k = j := by
  rcases Nat.le_total k j with l | l
  · exact odd_le h ho l
  · obtain ⟨a, b⟩ := odd_le h.symm hp l
    exact ⟨a.symm, b.symm⟩
/-- c calls reach the place at distance d from the first of two targets, and fewer do not -/
structure TwoOk (n g d f : Int) (c : Nat) : Prop where
  dv : d * 2 ^ c % gcdI g n = 0
  le : d * 2 ^ c / gcdI g n * f % (n / gcdI g n) ≤ 2 ^ c
  least : c = 0 ∨ ((2 : Int) ^ (c - 1) < n ∧ (¬ d * 2 ^ (c - 1) % gcdI g n = 0 ∨ (2 : Int) ^ (c - 1) < d * 2 ^ (c - 1) / gcdI g n * f % (n / gcdI g n)))
theorem coprime_parts {g n : Int} (h : 1 ≤ n) : Int.gcd (g / gcdI g n) (n / gcdI g n) = 1 := Int.gcd_ediv_gcd_ediv_gcd (gcd_pos2 h)
theorem two_next {n g d f : Int} {c : Nat} (h0 : 0 < n / gcdI g n) (s0 : 0 < gcdI g n) (f0 : d * 2 ^ c % gcdI g n = 0) (f1 : d * 2 ^ c / gcdI g n * f % (n / gcdI g n) ≤ 2 ^ c) : d * 2 ^ (c + 1) % gcdI g n = 0 ∧ d * 2 ^ (c + 1) / gcdI g n * f % (n / gcdI g n) ≤ 2 ^ (c + 1) := by
  generalize gcdI g n = sh at *
  generalize n / sh = per at *
  obtain ⟨x, hx⟩ := Int.dvd_of_emod_eq_zero f0
  have e : d * 2 ^ (c + 1) = sh * (2 * x) := by
    rw [Int.pow_succ, ← Int.mul_assoc, hx]
    grind
  have e1 : d * 2 ^ (c + 1) / sh = 2 * x := by rw [e, Int.mul_ediv_cancel_left _ (by omega)]
  have e2 : d * 2 ^ c / sh = x := by rw [hx, Int.mul_ediv_cancel_left _ (by omega)]
  rw [e2] at f1
  refine ⟨by rw [e]; exact Int.mul_emod_right _ _, ?_⟩
  rw [e1]
  have h1 := mod_lo (i := x * f) h0
  have e3 : 2 * x * f % per = 2 * (x * f % per) % per := by
    rw [Int.mul_assoc, Int.mul_emod, Int.mul_emod 2 (x * f % per), Int.emod_emod]
  rw [e3, Int.pow_succ]
  have h2 : 2 * (x * f % per) % per ≤ 2 * (x * f % per) := by
    rcases Int.lt_or_le (2 * (x * f % per)) per with l | l
    · rw [Int.emod_eq_of_lt (by omega) l]
      exact Int.le_refl _
    · have := mod_hi (i := 2 * (x * f % per)) h0
      omega
  omega
theorem two_more {n g d f : Int} (h0 : 0 < n / gcdI g n) (s0 : 0 < gcdI g n) {c : Nat} (f0 : d * 2 ^ c % gcdI g n = 0) (f1 : d * 2 ^ c / gcdI g n * f % (n / gcdI g n) ≤ 2 ^ c) : ∀ i : Nat, d * 2 ^ (c + i) % gcdI g n = 0 ∧ d * 2 ^ (c + i) / gcdI g n * f % (n / gcdI g n) ≤ 2 ^ (c + i)
  | 0 => ⟨f0, f1⟩
  | i + 1 => by
    obtain ⟨a, b⟩ := two_more h0 s0 f0 f1 i
    exact two_next h0 s0 a b
theorem TwoOk.notLess {n g d f : Int} {c e : Nat} (h0 : 0 < n / gcdI g n) (s0 : 0 < gcdI g n) (h : TwoOk n g d f c) (h2 : TwoOk n g d f e) : ¬ c < e := fun l => by
  obtain ⟨i, rfl⟩ : ∃ i, e = c + i + 1 := ⟨e - c - 1, by omega⟩
  obtain ⟨a, b⟩ := two_more h0 s0 h.dv h.le i
  rcases h2.least with z | ⟨_, z | z⟩
  · omega
  · exact z a
  · have e1 : c + i + 1 - 1 = c + i := rfl
    rw [e1] at z
    omega
theorem TwoOk.same {n g d f : Int} {c e : Nat} (h0 : 0 < n / gcdI g n) (s0 : 0 < gcdI g n) (h : TwoOk n g d f c) (h2 : TwoOk n g d f e) : c = e := by
  have := TwoOk.notLess h0 s0 h h2
  have := TwoOk.notLess h0 s0 h2 h
  omega
/-- what the ring leaves of X, in shares -/
theorem share_mod {n sh X : Int} (s0 : 0 < sh) (hn : sh ∣ n) (hX : X % sh = 0) : X % n % sh = 0 ∧ ∀ f, X % n / sh * f % (n / sh) = X / sh * f % (n / sh) := by
  obtain ⟨x, rfl⟩ := Int.dvd_of_emod_eq_zero hX
  obtain ⟨per, rfl⟩ := hn
  have e : sh * x % (sh * per) = sh * (x % per) := Int.mul_emod_mul_of_pos _ _ s0
  rw [e]
  refine ⟨Int.mul_emod_right _ _, fun f => ?_⟩
  rw [Int.mul_ediv_cancel_left _ (by omega), Int.mul_ediv_cancel_left _ (by omega), Int.mul_ediv_cancel_left _ (by omega), Int.mul_emod, Int.emod_emod, ← Int.mul_emod]
theorem share_not {n sh X : Int} (hn : sh ∣ n) (hX : ¬ X % sh = 0) : ¬ X % n % sh = 0 := by
  rw [Int.emod_emod_of_dvd _ hn]
  exact hX
/-- no call: at one of the two -/
theorem two_zero {n a b p f : Int} (a0 : 0 ≤ a) (a1 : a < n) (b0 : 0 ≤ b) (b1 : b < n) (p0 : 0 ≤ p) (p1 : p < n) (s0 : 0 < gcdI ((b - a) % n) n)
    (hf : (b - a) % n / gcdI ((b - a) % n) n * f % (n / gcdI ((b - a) % n) n) = 1 % (n / gcdI ((b - a) % n) n)) (h : TwoOk n ((b - a) % n) ((p - a) % n) f 0) : p = a ∨ p = b := by
  have n0 : 0 < n := by omega
  have gd : gcdI ((b - a) % n) n ∣ n := Int.gcd_dvd_right _ _
  have gg : gcdI ((b - a) % n) n ∣ (b - a) % n := Int.gcd_dvd_left _ _
  have h1 := h.dv
  have h2 := h.le
  rw [Int.pow_zero, Int.mul_one] at h1
  rw [Int.pow_zero, Int.mul_one] at h2
  have d0 := mod_lo (i := p - a) n0
  have d1 := mod_hi (i := p - a) n0
  have g0 := mod_lo (i := b - a) n0
  have g1 := mod_hi (i := b - a) n0
  have back : ∀ q r : Int, 0 ≤ q → q < n → 0 ≤ r → r < n → (q - a) % n = (r - a) % n → q = r := fun q r q0 q1 r0 r1 e => by
    have := emod_eq_iff.mp e
    have e2 : q - a - (r - a) = q - r := by omega
    rw [e2] at this
    have := emod_eq_iff.mpr this
    rwa [Int.emod_eq_of_lt q0 q1, Int.emod_eq_of_lt r0 r1] at this
  have fin : (p - a) % n = 0 ∨ (p - a) % n = (b - a) % n → p = a ∨ p = b := by
    rintro (z | z)
    · left
      exact back p a p0 p1 a0 a1 (by rw [z, Int.sub_self, Int.zero_emod])
    · right
      exact back p b p0 p1 b0 b1 z
  apply fin
  clear fin back
  generalize hg : (b - a) % n = g at *
  generalize (p - a) % n = d at *
  generalize gcdI g n = sh at *
  obtain ⟨x, rfl⟩ := Int.dvd_of_emod_eq_zero h1
  obtain ⟨per, rfl⟩ := gd
  obtain ⟨u, rfl⟩ := gg
  rw [Int.mul_ediv_cancel_left _ (by omega)] at h2 hf
  rw [Int.mul_ediv_cancel_left _ (by omega)] at h2 hf
  have per0 : 0 < per := Int.pos_of_mul_pos_right n0 s0
  have x0 := mod_lo (i := x * f) per0
  have hf2 : per ∣ u * f - 1 := emod_eq_iff.mp hf
  have x1 : x < per := Int.lt_of_mul_lt_mul_left d1 (by omega)
  have x2 : 0 ≤ x := Int.nonneg_of_mul_nonneg_right d0 s0
  have u1 : u < per := Int.lt_of_mul_lt_mul_left g1 (by omega)
  have u2 : 0 ≤ u := Int.nonneg_of_mul_nonneg_right g0 s0
  rcases Int.lt_or_le (x * f % per) 1 with l | l
  · left
    have e : x * f % per = 0 := by omega
    have hx : per ∣ x * f := Int.dvd_of_emod_eq_zero e
    have hx2 : per ∣ x := by
      have e3 : x = u * (x * f) - x * (u * f - 1) := by grind
      rw [e3]
      exact Int.dvd_sub (Int.dvd_trans hx (Int.dvd_mul_left _ _)) (Int.dvd_trans hf2 (Int.dvd_mul_left _ _))
    have := Int.emod_eq_zero_of_dvd hx2
    rw [Int.emod_eq_of_lt x2 x1] at this
    rw [this, Int.mul_zero]
  · right
    have e : x * f % per = 1 := by omega
    have p1 : 1 < per := by have := mod_hi (i := x * f) per0; omega
    have hx : per ∣ x * f - 1 := emod_eq_iff.mp (by rw [e, Int.emod_eq_of_lt (by decide) p1])
    have hx2 : per ∣ x - u := by
      have e3 : x - u = u * (x * f - 1) - x * (u * f - 1) := by grind
      rw [e3]
      exact Int.dvd_sub (Int.dvd_trans hx (Int.dvd_mul_left _ _)) (Int.dvd_trans hf2 (Int.dvd_mul_left _ _))
    have := emod_eq_iff.mpr hx2
    rw [Int.emod_eq_of_lt x2 x1, Int.emod_eq_of_lt u2 u1] at this
    rw [this]

theorem bit_two {x y : Int} (h : x.natAbs < 2 ^ 150) (c : Nat) (hc : c ≤ 200) : CShl x (c : Int) := shl_ok (n := 150) h (by omega)
section
variable {P : Program} {w : World} {K : PySem.W.Frag} {mg : Str → Option Value} {base : Heap}
def sp_require_at_least : Sp := fun vs H Q _ => ∃ (i low : Int) (nm : V), vs = [.int i, .int low, nm] ∧ low ≤ i ∧ Q .non H
theorem ok_require_at_least (T : TX K mg) : FnOk P w K mg base CX0 3 T.f_require_at_least T.fd_require_at_least ["value", "low", "name"] sp_require_at_least := by
  refine T.F_require_at_least.ok sc_require_at_least (fun vs H Q E h => ?_) (fun cdv A outer s H vs Q E hr h => ?_)
  · obtain ⟨i, low, nm, rfl, _⟩ := h
    rfl
  · obtain ⟨i, low, nm, rfl, h, k⟩ := h
    refine ⟨_, (pss_one (ps_if (pt_not (pt_val (pe_call (ok_is_at_least T) hr rfl T.m_is_at_least T.F_is_at_least.kp T.b_is_at_least .nil pass0 (pa_cons (pv 0) (pa_cons (pv 1) pa_nil))))) pss_never pss_nil)), ?_⟩
    refine ⟨_, rfl, _, rfl, _, some i, low, rfl, rfl, _, rfl, itf ?_ k⟩
    show (!decide (low ≤ i)) = false
    rw [decide_eq_true h]
    rfl
def sp_require_place : Sp := fun vs H Q _ => ∃ (n p : Int) (nm : V), vs = [.int n, .int p, nm] ∧ 0 ≤ p ∧ p < n ∧ Q .non H
theorem ok_require_place (T : TX K mg) : FnOk P w K mg base CX0 3 T.f_require_place T.fd_require_place ["size", "place", "name"] sp_require_place := by
  refine T.F_require_place.ok sc_require_place (fun vs H Q E h => ?_) (fun cdv A outer s H vs Q E hr h => ?_)
  · obtain ⟨n, p, nm, rfl, _⟩ := h
    rfl
  · obtain ⟨n, p, nm, rfl, p0, p1, k⟩ := h
    refine ⟨_, (pss_one (ps_if (pt_not (pt_val (pe_call (ok_is_between T) hr rfl T.m_is_between T.F_is_between.kp T.b_is_between .nil pass0 (pa_cons (pv 1) (pa_cons pe_int (pa_cons (pe_op op_sub (pv 0) pe_int) pa_nil)))))) pss_never pss_nil)), ?_⟩
    refine ⟨_, rfl, _, rfl, _, _, rfl, rfl, _, some p, 0, n - 1, rfl, rfl, _, rfl, itf ?_ k⟩
    show (!(decide (0 ≤ p) && decide (p ≤ n - 1))) = false
    rw [decide_eq_true p0, decide_eq_true (by omega)]
    rfl
end

section
variable {P : Program} {w : World} {K : PySem.W.Frag} {mg : Str → Option Value} {base : Heap}
def sp_require_limit : Sp := fun vs H Q _ => ∃ (i j : Int), vs = [.int i, .int j] ∧ i ≤ j ∧ Q .non H
theorem ok_require_limit (T : TX K mg) : FnOk P w K mg base CX0 1 T.f_require_limit T.fd_require_limit ["number", "limit"] sp_require_limit := by
  refine T.F_require_limit.ok sc_require_limit (fun vs H Q E h => ?_) (fun cdv A outer s H vs Q E hr h => ?_)
  · obtain ⟨i, j, rfl, _⟩ := h
    rfl
  · obtain ⟨i, j, rfl, h, k⟩ := h
    refine ⟨_, (pss_one (ps_if (pt_cmpR op_gt (pv 0) (pv 1) (nomark _)) pss_never pss_nil)), ?_⟩
    exact ⟨_, rfl, _, rfl, _, _, rfl, rfl, _, rfl, itf (decide_eq_false (by omega)) k⟩
def sp_require_places : Sp := fun vs H Q _ => ∃ (n : Int) (q : Bool × Addr) (ts : List Int), vs = [.int n, .ref q.2] ∧ 1 ≤ n ∧ SqH H q (ts.map V.int) ∧ ts ≠ [] ∧ ts.length ≤ 100000 ∧ (∀ t ∈ ts, 0 ≤ t ∧ t < n) ∧ ts.Nodup ∧ ∀ H2, Ex H H2 → Q .non H2
theorem ok_require_places (T : TX K mg) : FnOk P w K mg base CX0 4 T.f_require_places T.fd_require_places ["size", "targets"] sp_require_places := by
  refine T.F_require_places.ok sc_require_places (fun vs H Q E h => ?_) (fun cdv A outer s H vs Q E hr h => ?_)
  · obtain ⟨n, q, ts, rfl, _⟩ := h
    rfl
  · obtain ⟨n, ⟨b, a⟩, ts, rfl, n1, hq, ne, lts, inr, nod, k⟩ := h
    refine ⟨_, (pss_cons (ps_expr (pe_call (ok_require_at_least T) hr rfl T.m_require_at_least T.F_require_at_least.kp T.b_require_at_least .nil pass0 (pa_cons (pv 0) (pa_cons pe_int (pa_cons pe_str pa_nil))))) (pss_cons (ps_if (PW.pt (pw_or (pt_not (pt_val (pe_callB call_isiT (by rfl) T.z_isinstance (by decide +kernel) (pa_cons (pv 1) (pa_cons (pe_tup (pa_cons (pe_bltn (v := .ty "list") rfl T.z_list (by decide +kernel) rfl) (pa_cons (pe_bltn (v := .ty "tuple") rfl T.z_tuple (by decide +kernel) rfl) pa_nil))) pa_nil))))) (pw_or1 (pt_cmpR op_eq (pe_callB call_len_seq (by rfl) T.z_len (by decide +kernel) (pa_cons (pv 1) pa_nil)) pe_int (nomark _))))) pss_never pss_nil) (pss_cons (ps_set (i := 2) sc_require_places.nd rfl (Or.inl rfl) pe_dnewK) (pss_one (ps_for PassesOwn.never rfl (CE.pi_e rfl T.z_enumerate (pa_cons (pv 1) pa_nil)) (pg_tup rfl (pgs_cons (pg_name (i := 3) sc_require_places.nd rfl (Or.inl rfl)) (pgs_cons (pg_name (i := 4) sc_require_places.nd rfl (Or.inl rfl)) pgs_nil))) (pss_cons (ps_if (PW.pt (pw_or (pt_not (pt_val (pe_call (ok_is_between T) (hr.mono (by decide)) rfl T.m_is_between T.F_is_between.kp T.b_is_between .nil pass0 (pa_cons (pv 4) (pa_cons pe_int (pa_cons (pe_op op_sub (pv 0) pe_int) pa_nil)))))) (pw_or1 (pt_cmp (pc_din (hu_of hr) (pv 4) (pv 2)))))) pss_never pss_nil) (pss_one (ps_dput (hu_of hr) (pv 2) (pv 4) (pv 3) (by rfl))))))))), ?_⟩
    refine ⟨_, rfl, n, 1, _, rfl, n1, ?_⟩
    have pos := List.length_pos_iff.mpr ne
    refine ⟨_, rfl, by show 2 ≤ sizeLine; decide, fun y hy => ?_⟩
    have q1 := hq.mono (exn (o := .tup [.ty "list", .ty "tuple"]) hy)
    refine ⟨_, y, _, _, _, true, rfl, upd_same, .cons (.ty _) (.cons (.ty _) .nil), q1.ty, kit_seq b, _, rfl, ?_⟩
    refine ⟨_, rfl, a, _, rfl, sq_or q1, rfl, _, rfl, itf (by rw [dec_int, List.length_map]; simp; exact ne) ?_⟩
    intro d hd
    have e2 := ext (exn (o := .tup [.ty "list", .ty "tuple"]) hy) (exn (o := .dK []) hd)
    have q2 := hq.mono e2
    refine ⟨_, rfl, (b, a), rfl, ⟨_, q2.sq⟩, ?_⟩
    refine for_it (CE.walk_e (xs := ts.map V.int)) (fun i σ H2 => ∃ (y3 y4 : Option V) (kvs : List (Key × V)), σ = [some (.int n), some (.ref a), some (.ref d), y3, y4] ∧ Ex H H2 ∧ H2 d = some (.dK kvs) ∧ kvs.length = i ∧ ∀ t : Int, (valV kvs (.inl t)).isSome = true → t ∈ ts.take i) ⟨_, _, [], rfl, e2, upd_same, rfl, fun t h => by simp [valV] at h⟩ (fun i σ H2 _ ⟨_, _, _, _, e, _⟩ => (hq.mono e).sq) ?_ ?_
    · rintro i x σ H2 H3 hi ⟨y3, y4, kvs, rfl, e3, hd3, lk, hv⟩ yy
      obtain ⟨Ta, x1, x2, rfl, hT, rfl, hx1, hx2⟩ := yy
      cases hx1
      obtain ⟨t, ht, rfl⟩ := map_get hx2
      obtain ⟨t0, t1⟩ := inr t (List.mem_of_getElem? ht)
      have e4 := exn (o := .tup [.int (i : Nat), .int t]) hT
      refine ⟨Ta, _, rfl, SqT.of upd_same, rfl, _, _, rfl, _, _, rfl, rfl, ?_⟩
      refine ⟨_, rfl, _, rfl, _, _, rfl, rfl, _, some t, 0, n - 1, rfl, rfl, _, rfl, itf ?_ ?_⟩
      · show (!(decide (0 ≤ t) && decide (t ≤ n - 1))) = false
        rw [decide_eq_true t0, decide_eq_true (by omega)]
        rfl
      have hno : valV kvs (.inl t) = none := by
        cases hz : valV kvs (.inl t) with
        | none => rfl
        | some v =>
          have := hv t (by rw [hz]; rfl)
          obtain ⟨j, hj⟩ := List.getElem?_of_mem this
          have hj2 := List.getElem?_eq_some_iff.mp hj
          obtain ⟨jl, je⟩ := hj2
          rw [List.length_take] at jl
          rw [List.getElem_take] at je
          obtain ⟨il, ie⟩ := List.getElem?_eq_some_iff.mp ht
          exact absurd (je.trans ie.symm) (List.pairwise_iff_getElem.mp nod j i (by omega) il (by omega))
      refine ⟨_, rfl, _, rfl, d, _, rfl, DGet.k (k := .inl t) (e4 _ _ hd3), _, rfl, itf (by rw [hno]; rfl) ?_⟩
      refine ⟨_, rfl, _, rfl, _, rfl, d, _, rfl, DPut.k (k := .inl t) (e4 _ _ hd3) ?_, ?_⟩
      · rw [lk]
        rw [List.length_map] at hi
        exact Nat.lt_of_lt_of_le hi (Nat.le_trans lts (by decide))
      · refine ⟨_, _, putK kvs (.inl t) (.int (i : Nat)), rfl, ?_, upd_same, ?_, fun u hu => ?_⟩
        · intro c o z
          rw [upd_ne (ne_of_none z (Evl.fresh_back (exn (o := .tup [.ty "list", .ty "tuple"]) hy) hd))]
          exact e4 c o (e3 c o z)
        · have hany : (kvs.any fun kv => decide (kv.1 = Sum.inl t)) = false := by rw [valV_any, hno]; rfl
          unfold putK
          rw [hany, if_neg Bool.false_ne_true, List.length_append, lk]
          rfl
        · rw [valV_put] at hu
          rw [take_more ht, List.mem_append]
          by_cases e : u = t
          · exact .inr (by rw [e]; exact List.mem_cons_self)
          · rw [if_neg (fun z => e (Sum.inl.inj z))] at hu
            exact .inl (hv u hu)
    · rintro σ H2 ⟨y3, y4, kvs, rfl, e3, _⟩
      exact k _ e3
end

/-! ### sets of places as bits -/
def rotN (n B s : Nat) : Nat := ((B <<< s) ||| ((B <<< s) >>> n)) % 2 ^ n
def dblN (n B : Nat) : Nat := (List.range n).foldl (fun acc p => if B.testBit p = true then acc ||| rotN n B p else acc) 0
def bitsN (ts : List Int) : Nat := ts.foldl (fun acc t => acc ||| 2 ^ t.toNat) 0
theorem shl_cast (B s : Nat) : (B : Int) * 2 ^ s = ((B <<< s : Nat) : Int) := by
  rw [Nat.shiftLeft_eq]
  simp
theorem shr_cast (B s : Nat) : (B : Int) / 2 ^ s = ((B >>> s : Nat) : Int) := by
  rw [Nat.shiftRight_eq_div_pow]
  simp
theorem or_cast (a b : Nat) : Builtin.bitOr (a : Int) (b : Int) = ((a ||| b : Nat) : Int) := by
  rw [bitOr_nn (Int.natCast_nonneg a) (Int.natCast_nonneg b), Int.toNat_natCast, Int.toNat_natCast]
theorem mask_cast (a n : Nat) : Builtin.bitAnd (a : Int) (2 ^ n - 1) = ((a % 2 ^ n : Nat) : Int) := by
  rw [PySem.W.kbt_mask]
  simp
theorem bit_cast (B p : Nat) : Builtin.bitAnd ((B >>> p : Nat) : Int) 1 = if B.testBit p = true then 1 else 0 := by
  rw [bitAnd_m1]
  have h := Nat.testBit_eq_decide_div_mod_eq (x := B) (i := p)
  rw [h, Nat.shiftRight_eq_div_pow]
  have : ((B / 2 ^ p : Nat) : Int) % 2 = ((B / 2 ^ p % 2 : Nat) : Int) := by simp
  rw [this]
  rcases Nat.mod_two_eq_zero_or_one (B / 2 ^ p) with z | z <;> rw [z] <;> simp
theorem rot_bit {n B s q : Nat} (hB : B < 2 ^ n) (hs : s < n) : (rotN n B s).testBit q = true ↔ q < n ∧ ∃ p, p < n ∧ B.testBit p = true ∧ (p + s) % n = q := by
  unfold rotN
  rw [Nat.testBit_mod_two_pow, Nat.testBit_or, Nat.testBit_shiftRight, Nat.testBit_shiftLeft, Nat.testBit_shiftLeft]
  have low : ∀ p, B.testBit p = true → p < n := fun p h => by
    rcases Nat.lt_or_ge p n with z | z
    · exact z
    · rw [Nat.testBit_lt_two_pow (Nat.lt_of_lt_of_le hB (Nat.pow_le_pow_right (by decide) z))] at h
      cases h
  simp only [Bool.and_eq_true, Bool.or_eq_true, decide_eq_true_eq, ge_iff_le]
  constructor
  · rintro ⟨hq, ⟨h1, h2⟩ | ⟨h1, h2⟩⟩
    · refine ⟨hq, q - s, low _ h2, h2, ?_⟩
      rw [show q - s + s = q by omega, Nat.mod_eq_of_lt hq]
    · refine ⟨hq, n + q - s, low _ h2, h2, ?_⟩
      rw [show n + q - s + s = q + n by omega, Nat.add_mod_right, Nat.mod_eq_of_lt hq]
  · rintro ⟨hq, p, hp, h1, h2⟩
    refine ⟨hq, ?_⟩
    rcases Nat.lt_or_ge (p + s) n with z | z
    · rw [Nat.mod_eq_of_lt z] at h2
      left
      refine ⟨by omega, ?_⟩
      rw [← h2, Nat.add_sub_cancel]
      exact h1
    · have e : (p + s) % n = p + s - n := by
        rw [Nat.mod_eq_sub_mod z, Nat.mod_eq_of_lt (by omega)]
      rw [e] at h2
      right
      refine ⟨by omega, ?_⟩
      rw [show n + q - s = p by omega]
      exact h1
theorem rot_lt (n B s : Nat) : rotN n B s < 2 ^ n := Nat.mod_lt _ (Nat.pow_pos (by decide))
theorem fold_or {n B : Nat} : ∀ (l : List Nat) (acc q : Nat), (l.foldl (fun acc p => if B.testBit p = true then acc ||| rotN n B p else acc) acc).testBit q = true ↔ acc.testBit q = true ∨ ∃ p ∈ l, B.testBit p = true ∧ (rotN n B p).testBit q = true
  | [], acc, q => by simp
  | p :: l, acc, q => by
    rw [List.foldl_cons, fold_or l]
    by_cases h : B.testBit p = true
    · rw [if_pos h, Nat.testBit_or, Bool.or_eq_true]
      simp only [List.mem_cons, exists_eq_or_imp, h, true_and]
      rw [or_assoc]
    · rw [if_neg h]
      simp only [List.mem_cons, exists_eq_or_imp, h]
      simp
theorem fold_lt {n B : Nat} : ∀ (l : List Nat) (acc : Nat), acc < 2 ^ n → l.foldl (fun acc p => if B.testBit p = true then acc ||| rotN n B p else acc) acc < 2 ^ n
  | [], _, h => h
  | p :: l, acc, h => by
    rw [List.foldl_cons]
    refine fold_lt l _ ?_
    split
    · exact Nat.or_lt_two_pow h (rot_lt n B p)
    · exact h
theorem dbl_lt (n B : Nat) : dblN n B < 2 ^ n := fold_lt _ _ (Nat.pow_pos (by decide))
theorem dbl_bit {n B q : Nat} (hB : B < 2 ^ n) : (dblN n B).testBit q = true ↔ q < n ∧ ∃ a b, a < n ∧ b < n ∧ B.testBit a = true ∧ B.testBit b = true ∧ (a + b) % n = q := by
  unfold dblN
  rw [fold_or]
  constructor
  · rintro (h | ⟨p, hp, h1, h2⟩)
    · simp at h
    · rw [List.mem_range] at hp
      obtain ⟨hq, a, ha, h3, h4⟩ := (rot_bit hB hp).mp h2
      exact ⟨hq, a, p, ha, hp, h3, h1, h4⟩
  · rintro ⟨hq, a, b, ha, hb, h1, h2, h3⟩
    exact .inr ⟨b, List.mem_range.mpr hb, h2, (rot_bit hB hb).mpr ⟨hq, a, ha, h1, h3⟩⟩
theorem bits_fold : ∀ (ts : List Int) (acc q : Nat), (ts.foldl (fun acc t => acc ||| 2 ^ t.toNat) acc).testBit q = true ↔ acc.testBit q = true ∨ ∃ t ∈ ts, t.toNat = q
  | [], acc, q => by simp
  | t :: ts, acc, q => by
    rw [List.foldl_cons, bits_fold ts, Nat.testBit_or, Bool.or_eq_true, Nat.testBit_two_pow]
    simp only [List.mem_cons, exists_eq_or_imp, decide_eq_true_eq]
    rw [or_assoc]
theorem bits_bit {ts : List Int} {q : Nat} : (bitsN ts).testBit q = true ↔ ∃ t ∈ ts, t.toNat = q := by
  unfold bitsN
  rw [bits_fold]
  simp
theorem bits_lt' {n : Nat} : ∀ (ts : List Int) (acc : Nat), (∀ t ∈ ts, t.toNat < n) → acc < 2 ^ n → ts.foldl (fun acc t => acc ||| 2 ^ t.toNat) acc < 2 ^ n
  | [], _, _, h => h
  | t :: ts, acc, hl, h => by
    rw [List.foldl_cons]
    exact bits_lt' ts _ (fun u hu => hl u (List.mem_cons_of_mem _ hu)) (Nat.or_lt_two_pow h (Nat.pow_lt_pow_right (by decide) (hl t List.mem_cons_self)))
theorem bits_lt {n : Nat} {ts : List Int} (h : ∀ t ∈ ts, t.toNat < n) : bitsN ts < 2 ^ n := bits_lt' ts 0 h (Nat.pow_pos (by decide))
theorem bits_snoc (ts : List Int) (t : Int) : bitsN (ts ++ [t]) = bitsN ts ||| 2 ^ t.toNat := by
  unfold bitsN
  rw [List.foldl_append]
  rfl
/-- sums of 2 ^ c targets -/
def layN (n : Nat) (ts : List Int) : Nat → Nat
  | 0 => bitsN ts
  | c + 1 => dblN n (layN n ts c)
theorem lay_lt {n : Nat} {ts : List Int} (h : ∀ t ∈ ts, 0 ≤ t ∧ t < (n : Int)) : ∀ c, layN n ts c < 2 ^ n
  | 0 => bits_lt fun t ht => by have := h t ht; omega
  | c + 1 => dbl_lt n _

theorem shlN {B s k : Nat} (h : B < 2 ^ k) (hk : k + s ≤ 100000000) : CShl (B : Int) (s : Int) := shl_ok (n := k) (by rw [Int.natAbs_natCast]; exact h) (by omega)
theorem atI_fin {α : Type} (ys : List α) (v : α) : atI (ys ++ [v]) (-1) = some v := by
  unfold atI ixN
  rw [if_neg (by decide), if_pos (by rw [List.length_append, List.length_singleton]; omega), List.length_append, List.length_singleton]
  have : ((-1 : Int) + ((ys.length + 1 : Nat) : Int)).toNat = ys.length := by omega
  show (ys ++ [v])[((-1 : Int) + ((ys.length + 1 : Nat) : Int)).toNat]? = some v
  rw [this, List.getElem?_append_right (Nat.le_refl _), Nat.sub_self]
  rfl
section
variable {P : Program} {w : World} {K : PySem.W.Frag} {mg : Str → Option Value} {base : Heap}
def sp_rotated : Sp := fun vs H Q _ => ∃ (n B s : Nat), vs = [.int n, .int B, .int s] ∧ n ≤ 2000 ∧ B < 2 ^ n ∧ s < n ∧ Q (.int (rotN n B s)) H
theorem ok_rotated (T : TX K mg) : FnOk P w K mg base CX0 1 T.f_rotated T.fd_rotated ["size", "bits", "shift"] sp_rotated := by
  refine T.F_rotated.ok sc_rotated (fun vs H Q E h => ?_) (fun cdv A outer s H vs Q E hr h => ?_)
  · obtain ⟨n, B, s, rfl, _⟩ := h
    rfl
  · obtain ⟨n, B, s, rfl, n2, hB, hs, k⟩ := h
    refine ⟨_, (pss_cons (ps_set (i := 3) sc_rotated.nd rfl (Or.inl rfl) (pe_op op_shlW (pv 1) (pv 2))) (pss_one (ps_ret (pe_op op_and (pe_op op_or (pv 3) (pe_op op_shr (pv 3) (pv 0))) (pe_op op_sub (pe_op op_shlW pe_int (pv 0)) pe_int))))), ?_⟩
    refine ⟨_, rfl, _, rfl, _, _, rfl, rfl, shlN hB (by omega), ?_⟩
    refine ⟨_, rfl, _, rfl, _, rfl, _, _, rfl, rfl, (by show (0 : Int) ≤ (n : Int); omega), _, _, rfl, rfl, _, rfl, _, _, rfl, rfl, shl_ok (n := 1) (by decide) (by omega), _, _, rfl, rfl, _, _, rfl, rfl, ?_⟩
    have e : Builtin.bitAnd (Builtin.bitOr ((B : Int) * 2 ^ (s : Int).toNat) ((B : Int) * 2 ^ (s : Int).toNat / 2 ^ (n : Int).toNat)) (1 * 2 ^ (n : Int).toNat - 1) = ((rotN n B s : Nat) : Int) := by
      rw [Int.toNat_natCast, Int.toNat_natCast, shl_cast, shr_cast, or_cast, Int.one_mul, mask_cast]
      rfl
    dsimp only
    rw [e]
    exact k
def sp_doubled : Sp := fun vs H Q _ => ∃ (n B : Nat), vs = [.int n, .int B] ∧ n ≤ 2000 ∧ B < 2 ^ n ∧ Q (.int (dblN n B)) H
theorem ok_doubled (T : TX K mg) : FnOk P w K mg base CX0 2 T.f_doubled T.fd_doubled ["size", "bits"] sp_doubled := by
  refine T.F_doubled.ok sc_doubled (fun vs H Q E h => ?_) (fun cdv A outer s H vs Q E hr h => ?_)
  · obtain ⟨n, B, rfl, _⟩ := h
    rfl
  · obtain ⟨n, B, rfl, n2, hB, k⟩ := h
    refine ⟨_, (pss_cons (ps_set (i := 2) sc_doubled.nd rfl (Or.inl rfl) pe_int) (pss_cons (ps_for PassesOwn.never rfl (pi_range1 rfl T.z_range (pa_cons (pv 0) pa_nil)) (pg_name (i := 3) sc_doubled.nd rfl (Or.inl rfl)) (pss_one (ps_if (pt_cmpR op_eq (pe_op op_and (pe_op op_shr (pv 1) (pv 3)) pe_int) pe_int (nomark _)) (pss_one (ps_set (i := 2) sc_doubled.nd rfl (Or.inl rfl) (pe_op op_or (pv 2) (pe_call (ok_rotated T) hr rfl T.m_rotated T.F_rotated.kp T.b_rotated .nil pass0 (pa_cons (pv 0) (pa_cons (pv 1) (pa_cons (pv 3) pa_nil))))))) pss_nil))) (pss_one (ps_ret (pv 2))))), ?_⟩
    refine ⟨_, rfl, n, rfl, by omega, by omega, ?_⟩
    refine for_it walk_range (fun i σ H2 => ∃ y : Option V, σ = [some (.int n), some (.int B), some (.int (((List.range n).take i).foldl (fun acc p => if B.testBit p = true then acc ||| rotN n B p else acc) 0 : Nat)), y] ∧ H2 = H) ⟨none, rfl, rfl⟩ (fun _ _ _ _ _ => True.intro) ?_ ?_
    · rintro i x σ _ H2 hi ⟨y, rfl, rfl⟩ ⟨rfl, hx⟩
      obtain rfl : x = .int (i : Int) := hx.trans (congrArg V.int (Int.zero_add _))
      have hi2 : i < n := by
        have : i < (n : Int).toNat := hi
        omega
      have et : (List.range n).take (i + 1) = (List.range n).take i ++ [i] := take_more (by simp [hi2])
      refine ⟨_, rfl, _, rfl, _, _, rfl, rfl, (by show (0 : Int) ≤ (i : Int); omega), _, _, rfl, rfl, rfl, _, rfl, ?_⟩
      have eb : Builtin.bitAnd ((B : Int) / 2 ^ (i : Int).toNat) 1 = if B.testBit i = true then 1 else 0 := by rw [Int.toNat_natCast, shr_cast, bit_cast]
      by_cases h : B.testBit i = true
      · refine itt (by show decide (V.int (Builtin.bitAnd ((B : Int) / 2 ^ (i : Int).toNat) 1) = V.int 1) = true; rw [eb, dec_int, if_pos h]; rfl) ?_
        refine ⟨_, rfl, _, rfl, _, rfl, _, rfl, n, B, i, rfl, n2, hB, hi2, _, _, rfl, rfl, ?_⟩
        rw [et, List.foldl_append, List.foldl_cons, List.foldl_nil, if_pos h]
        dsimp only
        rw [or_cast]
        exact ⟨_, rfl, rfl⟩
      · refine itf (by show decide (V.int (Builtin.bitAnd ((B : Int) / 2 ^ (i : Int).toNat) 1) = V.int 1) = false; rw [eb, dec_int, if_neg h]; rfl) ?_
        rw [et, List.foldl_append, List.foldl_cons, List.foldl_nil, if_neg h]
        exact ⟨_, rfl, rfl⟩
    · rintro σ H2 ⟨y, rfl, rfl⟩
      have e : (List.range n).take (n : Int).toNat = List.range n := List.take_of_length_le (by simp)
      rw [e]
      exact ⟨_, rfl, k⟩
def sp_bits_of : Sp := fun vs H Q _ => ∃ (q : Bool × Addr) (ts : List Int), vs = [.ref q.2] ∧ SqH H q (ts.map V.int) ∧ (∀ t ∈ ts, 0 ≤ t ∧ t < 2000) ∧ Q (.int (bitsN ts)) H
theorem ok_bits_of (T : TX K mg) : FnOk P w K mg base CX0 1 T.f_bits_of T.fd_bits_of ["places"] sp_bits_of := by
  refine T.F_bits_of.ok sc_bits_of (fun vs H Q E h => ?_) (fun cdv A outer s H vs Q E hr h => ?_)
  · obtain ⟨q, ts, rfl, _⟩ := h
    rfl
  · obtain ⟨q, ts, rfl, hq, inr, k⟩ := h
    refine ⟨_, (pss_cons (ps_set (i := 1) sc_bits_of.nd rfl (Or.inl rfl) pe_int) (pss_cons (ps_for PassesOwn.never rfl (pi_seq (pv 0)) (pg_name (i := 2) sc_bits_of.nd rfl (Or.inl rfl)) (pss_one (ps_set (i := 1) sc_bits_of.nd rfl (Or.inl rfl) (pe_op op_or (pv 1) (pe_op op_shlW pe_int (pv 2)))))) (pss_one (ps_ret (pv 1))))), ?_⟩
    refine ⟨_, rfl, q, rfl, ⟨_, hq.sq⟩, ?_⟩
    refine for_it (walk_seq (xs := ts.map V.int)) (fun i σ H2 => ∃ y : Option V, σ = [some (.ref q.2), some (.int (bitsN (ts.take i) : Nat)), y] ∧ H2 = H) ⟨none, rfl, rfl⟩ (fun i σ H2 _ ⟨_, _, e⟩ => by rw [e]; exact hq.sq) ?_ ?_
    · rintro i x σ _ H2 hi ⟨y, rfl, rfl⟩ ⟨rfl, hx⟩
      obtain ⟨t, ht, rfl⟩ := map_get hx
      obtain ⟨t0, t1⟩ := inr t (List.mem_of_getElem? ht)
      refine ⟨_, rfl, _, rfl, _, _, rfl, rfl, ⟨t0, ?_⟩, _, _, rfl, rfl, ?_⟩
      · have : Builtin.Int.intBits 1 = 1 := by decide
        rw [this]
        omega
      · have e : Builtin.bitOr ((bitsN (ts.take i) : Nat) : Int) (1 * 2 ^ t.toNat) = ((bitsN (ts.take (i + 1)) : Nat) : Int) := by
          have e2 : (1 : Int) * 2 ^ t.toNat = ((2 ^ t.toNat : Nat) : Int) := by simp
          rw [e2, or_cast, take_more ht, bits_snoc]
        dsimp only
        rw [e]
        exact ⟨_, rfl, rfl⟩
    · rintro σ H2 ⟨y, rfl, rfl⟩
      rw [List.length_map, List.take_length]
      exact ⟨_, rfl, k⟩
def sp_sum_layers : Sp := fun vs H Q _ => ∃ (n c : Nat) (q : Bool × Addr) (ts : List Int), vs = [.int n, .ref q.2, .int c] ∧ n ≤ 2000 ∧ c ≤ 1000 ∧ SqH H q (ts.map V.int) ∧ (∀ t ∈ ts, 0 ≤ t ∧ t < n) ∧ ∀ l H2, Ex H H2 → H l = none → H2 l = some (.lst ((List.range (c + 1)).map fun i => .int (layN n ts i))) → Q (.ref l) H2
theorem ok_sum_layers (T : TX K mg) : FnOk P w K mg base CX0 3 T.f_sum_layers T.fd_sum_layers ["size", "targets", "calls"] sp_sum_layers := by
  refine T.F_sum_layers.ok sc_sum_layers (fun vs H Q E h => ?_) (fun cdv A outer s H vs Q E hr h => ?_)
  · obtain ⟨n, c, q, ts, rfl, _⟩ := h
    rfl
  · obtain ⟨n, c, q, ts, rfl, n2, c2, hq, inr, k⟩ := h
    refine ⟨_, (pss_cons (ps_set (i := 3) sc_sum_layers.nd rfl (Or.inl rfl) (pe_lst (pa_cons (pe_call (ok_bits_of T) (hr.mono (by decide)) rfl T.m_bits_of T.F_bits_of.kp T.b_bits_of .nil pass0 (pa_cons (pv 1) pa_nil)) pa_nil))) (pss_cons (ps_for PassesOwn.never rfl (pi_range1 rfl T.z_range (pa_cons (pv 2) pa_nil)) (pg_name (i := 4) sc_sum_layers.nd rfl (Or.inl rfl)) (pss_one (ps_expr (pe_bm PySem.F.plainAttrs_list PySem.F.slot_list_append PySem.F.type_list_append mt_append (pv 3) (pa_cons (pe_call (ok_doubled T) hr rfl T.m_doubled T.F_doubled.kp T.b_doubled .nil pass0 (pa_cons (pv 0) (pa_cons (pe_ix ix_list (pv 3) (pe_un un_neg pe_int) (fun _ _ => rfl)) pa_nil))) pa_nil))))) (pss_one (ps_ret (pv 3))))), ?_⟩
    have inr2 : ∀ t ∈ ts, 0 ≤ t ∧ t < 2000 := fun t ht => ⟨(inr t ht).1, by have := (inr t ht).2; omega⟩
    refine ⟨_, rfl, q, ts, rfl, hq, inr2, by show 1 ≤ sizeLine; decide, fun f hf => ?_⟩
    refine ⟨_, rfl, c, rfl, by omega, by omega, ?_⟩
    refine for_it walk_range (fun i σ H2 => ∃ y : Option V, σ = [some (.int n), some (.ref q.2), some (.int c), some (.ref f), y] ∧ Ex H H2 ∧ H2 f = some (.lst ((List.range (i + 1)).map fun i => .int (layN n ts i)))) ⟨none, rfl, exn hf, upd_same⟩ (fun _ _ _ _ _ => True.intro) ?_ ?_
    · rintro i x σ _ H2 hi ⟨y, rfl, e2, hf2⟩ ⟨rfl, hx⟩
      have hic : i < c := by
        have : i < (c : Int).toNat := hi
        omega
      dsimp only [gName]
      have hlast : atI ((List.range (i + 1)).map fun i => V.int (layN n ts i)) (-1) = some (V.int (layN n ts i)) := by
        rw [List.range_succ, List.map_append]
        exact atI_fin _ _
      refine ⟨_, rfl, .inl ⟨rfl, _, SqL.of hf2⟩, _, rfl, _, rfl, 1, rfl, f, _, _, _, rfl, rfl, SqL.of hf2, hlast, n, layN n ts i, rfl, n2, lay_lt inr i, f, _, _, rfl, rfl, hf2, ?_, ?_⟩
      · rw [List.length_map, List.length_range]
        exact Nat.lt_of_le_of_lt (show _ ≤ 1001 by omega) (by decide)
      · refine ⟨_, rfl, ex_upd e2 hf, ?_⟩
        rw [upd_same, List.range_succ (n := i + 1), List.map_append]
        rfl
    · rintro σ H2 ⟨y, rfl, e2, hf2⟩
      exact ⟨_, rfl, k f H2 e2 hf (by simpa using hf2)⟩
def sp_min_calls_on_ring : Sp := fun vs H Q _ => ∃ (n p : Nat) (q : Bool × Addr) (ts : List Int), vs = [.int n, .ref q.2, .int p] ∧ n ≤ 2000 ∧ p < n ∧ SqH H q (ts.map V.int) ∧ ts ≠ [] ∧ ts.length ≤ 100000 ∧ (∀ t ∈ ts, 0 ≤ t ∧ t < n) ∧ ts.Nodup ∧
  (∀ c H2, c ≤ Builtin.Int.intBits n → (layN n ts c).testBit (p * 2 ^ c % n) = true → (∀ d, d < c → (layN n ts d).testBit (p * 2 ^ d % n) = false) → Ex H H2 → Q (.int (c : Nat)) H2) ∧
  ((∀ d, d ≤ Builtin.Int.intBits n → (layN n ts d).testBit (p * 2 ^ d % n) = false) → ∀ H2, Ex H H2 → Q .non H2)
theorem ok_min_calls_on_ring (T : TX K mg) : FnOk P w K mg base CX0 5 T.f_min_calls_on_ring T.fd_min_calls_on_ring ["size", "targets", "place"] sp_min_calls_on_ring := by
  refine T.F_min_calls_on_ring.ok sc_min_calls_on_ring (fun vs H Q E h => ?_) (fun cdv A outer s H vs Q E hr h => ?_)
  · obtain ⟨n, p, q, ts, rfl, _⟩ := h
    rfl
  · obtain ⟨n, p, q, ts, rfl, n2, pn, hq, ne, lts, inr, nod, k1, k2⟩ := h
    refine ⟨_, (pss_cons (ps_expr (pe_call (ok_require_places T) hr rfl T.m_require_places T.F_require_places.kp T.b_require_places .nil pass0 (pa_cons (pv 0) (pa_cons (pv 1) pa_nil)))) (pss_cons (ps_expr (pe_call (ok_require_place T) (hr.mono (by decide)) rfl T.m_require_place T.F_require_place.kp T.b_require_place .nil pass0 (pa_cons (pv 0) (pa_cons (pv 2) (pa_cons pe_str pa_nil))))) (pss_cons (ps_expr (pe_call (ok_require_limit T) (hr.mono (by decide)) rfl T.m_require_limit T.F_require_limit.kp T.b_require_limit .nil pass0 (pa_cons (pv 0) (pa_cons (pe_glob (v := .int 2000) rfl T.c_MAX_SIZE ⟨_, rfl⟩) pa_nil)))) (pss_cons (ps_set (i := 3) sc_min_calls_on_ring.nd rfl (Or.inl rfl) (pe_call (ok_bits_of T) (hr.mono (by decide)) rfl T.m_bits_of T.F_bits_of.kp T.b_bits_of .nil pass0 (pa_cons (pv 1) pa_nil))) (pss_cons (ps_for PassesOwn.never rfl (pi_range1 rfl T.z_range (pa_cons (pe_op op_add (pe_bits (pv 0)) pe_int) pa_nil)) (pg_name (i := 4) sc_min_calls_on_ring.nd rfl (Or.inl rfl)) (pss_cons (ps_if (pt_cmpR op_eq (pe_op op_and (pe_op op_shr (pv 3) (pe_op op_mod (pe_op op_shlW (pv 2) (pv 4)) (pv 0))) pe_int) pe_int (nomark _)) (pss_one (ps_ret (pv 4))) pss_nil) (pss_one (ps_set (i := 3) sc_min_calls_on_ring.nd rfl (Or.inl rfl) (pe_call (ok_doubled T) (hr.mono (by decide)) rfl T.m_doubled T.F_doubled.kp T.b_doubled .nil pass0 (pa_cons (pv 0) (pa_cons (pv 3) pa_nil))))))) (pss_one (ps_ret pe_non))))))), ?_⟩
    refine ⟨_, rfl, _, rfl, n, q, ts, rfl, by omega, hq, ne, lts, inr, nod, fun H1 e1 => ?_⟩
    refine ⟨_, rfl, _, rfl, n, p, _, rfl, by omega, by omega, ?_⟩
    refine ⟨_, rfl, n, 2000, rfl, by omega, ?_⟩
    refine ⟨_, rfl, q, ts, rfl, hq.mono e1, fun t ht => ⟨(inr t ht).1, by have := (inr t ht).2; omega⟩, ?_⟩
    have bl : Builtin.Int.intBits (n : Int) ≤ 2001 := by
      unfold Builtin.Int.intBits
      split
      · omega
      · have h1 : (n : Int).natAbs.log2 ≤ (n : Int).natAbs := Nat.log2_le_self _
        omega
    refine ⟨_, rfl, n, rfl, _, _, rfl, rfl, _, rfl, by omega, by omega, ?_⟩
    refine for_it walk_range (fun i σ H2 => ∃ y : Option V, σ = [some (.int n), some (.ref q.2), some (.int p), some (.int (layN n ts i : Nat)), y] ∧ H2 = H1 ∧ ∀ d, d < i → (layN n ts d).testBit (p * 2 ^ d % n) = false) ⟨none, rfl, rfl, fun d h => absurd h (Nat.not_lt_zero d)⟩ (fun _ _ _ _ _ => True.intro) ?_ ?_
    · rintro i x σ _ H2 hi ⟨y, rfl, rfl, no⟩ ⟨rfl, hx⟩
      obtain rfl : x = .int (i : Int) := hx.trans (congrArg V.int (Int.zero_add _))
      have hi2 : i ≤ Builtin.Int.intBits (n : Int) := by
        have : i < ((Builtin.Int.intBits (n : Int) : Nat) + 1 : Int).toNat := hi
        omega
      have ep : (p : Int) * 2 ^ (i : Int).toNat % n = ((p * 2 ^ i % n : Nat) : Int) := by
        rw [Int.toNat_natCast]
        simp
      have pB : p < 2 ^ 2000 := Nat.lt_of_lt_of_le (Nat.lt_of_lt_of_le pn n2) (Nat.le_of_lt Nat.lt_two_pow_self)
      refine ⟨_, rfl, _, rfl, _, rfl, _, _, rfl, rfl, shlN pB (by omega), _, rfl, _, _, rfl, rfl, (by show (0 : Int) < (n : Int); omega), _, _, rfl, rfl, ?_, _, _, rfl, rfl, rfl, _, rfl, ?_⟩
      · show (0 : Int) ≤ (p : Int) * 2 ^ (i : Int).toNat % n
        rw [ep]
        omega
      have eb : Builtin.bitAnd ((layN n ts i : Int) / 2 ^ ((p : Int) * 2 ^ (i : Int).toNat % n).toNat) 1 = if (layN n ts i).testBit (p * 2 ^ i % n) = true then 1 else 0 := by rw [ep, Int.toNat_natCast, shr_cast, bit_cast]
      by_cases h : (layN n ts i).testBit (p * 2 ^ i % n) = true
      · refine itt (by show decide (V.int (Builtin.bitAnd ((layN n ts i : Int) / 2 ^ ((p : Int) * 2 ^ (i : Int).toNat % n).toNat) 1) = V.int 1) = true; rw [eb, dec_int, if_pos h]; rfl) ?_
        exact ⟨_, rfl, k1 i _ hi2 h no e1⟩
      · refine itf (by show decide (V.int (Builtin.bitAnd ((layN n ts i : Int) / 2 ^ ((p : Int) * 2 ^ (i : Int).toNat % n).toNat) 1) = V.int 1) = false; rw [eb, dec_int, if_neg h]; rfl) ?_
        refine ⟨_, rfl, _, rfl, n, layN n ts i, rfl, n2, lay_lt inr i, _, rfl, rfl, fun d hd => ?_⟩
        rcases Nat.lt_or_ge d i with z | z
        · exact no d z
        · have : d = i := by omega
          rw [this]
          exact eq_false_of_ne_true h
    · rintro σ H2 ⟨y, rfl, rfl, no⟩
      refine k2 (fun d hd => no d ?_) _ e1
      have : (((Builtin.Int.intBits (n : Int) : Nat) : Int) + 1).toNat = Builtin.Int.intBits (n : Int) + 1 := by omega
      show d < (((Builtin.Int.intBits (n : Int) : Nat) : Int) + 1).toNat
      omega
end

def oddN (n : Nat) : Nat := if h : 0 < n ∧ n % 2 = 0 then oddN (n / 2) else n
termination_by n
decreasing_by omega
theorem odd_eq (n : Nat) : oddN n = if 0 < n ∧ n % 2 = 0 then oddN (n / 2) else n := by
  rw [oddN]
  split <;> rfl
theorem odd_ok : ∀ (m n : Nat), n ≤ m → 0 < n → (∃ k, n = 2 ^ k * oddN n) ∧ oddN n % 2 = 1 ∧ 0 < oddN n ∧ oddN n ≤ n
  | 0, n, h, p => by omega
  | m + 1, n, h, p => by
    rw [odd_eq]
    by_cases e : 0 < n ∧ n % 2 = 0
    · rw [if_pos e]
      obtain ⟨⟨k, hk⟩, a, b, c⟩ := odd_ok m (n / 2) (by omega) (by omega)
      refine ⟨⟨k + 1, ?_⟩, a, b, by omega⟩
      rw [Nat.pow_succ, Nat.mul_comm (2 ^ k), Nat.mul_assoc, ← hk]
      omega
    · rw [if_neg e]
      exact ⟨⟨0, by simp⟩, by omega, p, Nat.le_refl _⟩
def oddI (n : Int) : Int := (oddN n.toNat : Nat)
theorem pow2_inj : ∀ (k j : Nat) (a b : Int), a % 2 = 1 → b % 2 = 1 → 2 ^ k * a = 2 ^ j * b → a = b
  | 0, 0, a, b, _, _, h => by simpa using h
  | 0, j + 1, a, b, ha, _, h => by
    rw [Int.pow_succ, Int.mul_comm ((2 : Int) ^ j), Int.mul_assoc] at h
    simp at h
    omega
  | k + 1, 0, a, b, _, hb, h => by
    rw [Int.pow_succ, Int.mul_comm ((2 : Int) ^ k), Int.mul_assoc] at h
    simp at h
    omega
  | k + 1, j + 1, a, b, ha, hb, h => by
    rw [Int.pow_succ, Int.pow_succ, Int.mul_comm ((2 : Int) ^ k), Int.mul_comm ((2 : Int) ^ j), Int.mul_assoc, Int.mul_assoc] at h
    exact pow2_inj k j a b ha hb (by omega)
theorem oddI_ok {n : Int} (h : 1 ≤ n) : (∃ k : Nat, n = 2 ^ k * oddI n) ∧ oddI n % 2 = 1 ∧ 0 < oddI n ∧ oddI n ≤ n := by
  obtain ⟨⟨k, hk⟩, a, b, c⟩ := odd_ok n.toNat n.toNat (Nat.le_refl _) (by omega)
  refine ⟨⟨k, ?_⟩, by unfold oddI; omega, by unfold oddI; omega, by unfold oddI; omega⟩
  have : (n.toNat : Int) = ((2 ^ k * oddN n.toNat : Nat) : Int) := congrArg Nat.cast hk
  rw [Int.natCast_mul, Int.natCast_pow] at this
  unfold oddI
  rw [← show ((2 : Nat) : Int) = 2 from rfl, ← this]
  omega
theorem oddI_uniq {n o : Int} {k : Nat} (h : 1 ≤ n) (e : n = 2 ^ k * o) (ho : o % 2 = 1) : o = oddI n := by
  obtain ⟨⟨j, hj⟩, a, _, _⟩ := oddI_ok h
  exact pow2_inj k j o (oddI n) ho a (by rw [← e, ← hj])
theorem odd_pow2 {o x : Int} (h : o % 2 = 1) : ∀ k : Nat, o ∣ 2 ^ k * x → o ∣ x
  | 0, d => by simpa using d
  | k + 1, d => by
    refine odd_pow2 h k ?_
    rw [Int.pow_succ, Int.mul_comm ((2 : Int) ^ k), Int.mul_assoc] at d
    obtain ⟨c, hc⟩ := d
    refine ⟨2 ^ k * x - c * (o / 2), ?_⟩
    have e : o = 2 * (o / 2) + 1 := by omega
    generalize o / 2 = q at *
    subst e
    grind
theorem odd_dvd {n : Int} (h : 1 ≤ n) : oddI n ∣ n := by
  obtain ⟨⟨k, hk⟩, _⟩ := oddI_ok h
  conv => rhs; rw [hk]
  exact Int.dvd_mul_left _ _
theorem emod_dvd (a n : Int) : n ∣ a % n - a := ⟨-(a / n), by have := Int.mul_ediv_add_emod a n; grind⟩
theorem nodup_maps {α β : Type} {f : α → β} {l : List α} (hf : ∀ a ∈ l, ∀ b ∈ l, f a = f b → a = b) (h : l.Nodup) : (l.map f).Nodup := by
  induction l with
  | nil => simp
  | cons x l ih =>
    rw [List.nodup_cons] at h
    rw [List.map_cons, List.nodup_cons]
    refine ⟨fun hm => ?_, ih (fun a ha b hb => hf a (List.mem_cons_of_mem _ ha) b (List.mem_cons_of_mem _ hb)) h.2⟩
    obtain ⟨y, hy, e⟩ := List.mem_map.mp hm
    exact h.1 (hf y (List.mem_cons_of_mem _ hy) x List.mem_cons_self e ▸ hy)
def gcdL (n g0 : Int) (gs : List Int) : Int := gs.foldl (fun s g => gcdI s (g - g0)) n
theorem gcdI_dvd {x a b : Int} : x ∣ gcdI a b ↔ x ∣ a ∧ x ∣ b := by
  show x ∣ ((Int.gcd a b : Nat) : Int) ↔ _
  exact Int.dvd_coe_gcd_iff
theorem gcdL_dvd {x : Int} : ∀ {gs : List Int} {n g0 : Int}, x ∣ gcdL n g0 gs ↔ x ∣ n ∧ ∀ g ∈ gs, x ∣ g - g0
  | [], n, g0 => by simp [gcdL]
  | g :: gs, n, g0 => by
    show x ∣ gcdL (gcdI n (g - g0)) g0 gs ↔ _
    rw [gcdL_dvd, gcdI_dvd, List.forall_mem_cons, and_assoc]
theorem gcdL_pos : ∀ {gs : List Int} {n g0 : Int}, 1 ≤ n → 1 ≤ gcdL n g0 gs ∧ gcdL n g0 gs ≤ n
  | [], n, g0, h => ⟨h, Int.le_refl _⟩
  | g :: gs, n, g0, h => by
    show 1 ≤ gcdL (gcdI n (g - g0)) g0 gs ∧ gcdL (gcdI n (g - g0)) g0 gs ≤ n
    have p : 0 < Int.gcd n (g - g0) := Int.gcd_pos_of_ne_zero_left _ (by omega)
    have l : gcdI n (g - g0) ≤ n := Int.le_of_dvd (by omega) (Int.gcd_dvd_left _ _)
    have p2 : 1 ≤ gcdI n (g - g0) := by show (1 : Int) ≤ ((Int.gcd n (g - g0) : Nat) : Int); omega
    obtain ⟨a, b⟩ := gcdL_pos (gs := gs) (g0 := g0) p2
    exact ⟨a, Int.le_trans b l⟩
theorem in_ints (x : Int) (l : List Int) : inV (V.int x) (l.map V.int) = decide (x ∈ l) := by
  rw [Bool.eq_iff_iff, decide_eq_true_eq]
  unfold inV
  rw [List.any_map, List.any_eq_true]
  constructor
  · rintro ⟨y, hy, h⟩
    have h2 : y = x := by simpa [eqV] using h
    rw [← h2]
    exact hy
  · intro h
    exact ⟨x, h, by simp [eqV]⟩
theorem flat_ints (l : List Int) : (l.map V.int).all flatV = true := by
  rw [List.all_map, List.all_eq_true]
  exact fun x _ => rfl
theorem bez : ∀ (b a : Nat), ∃ x y : Int, (a : Int) * x + (b : Int) * y = ((Nat.gcd a b : Nat) : Int) := by
  intro b
  induction b using Nat.strongRecOn with
  | ind b ih =>
    intro a
    by_cases h : b = 0
    · subst h
      exact ⟨1, 0, by simp⟩
    · obtain ⟨x, y, e⟩ := ih (a % b) (Nat.mod_lt _ (by omega)) b
      refine ⟨y, x - (a / b : Nat) * y, ?_⟩
      rw [Nat.gcd_comm a b, Nat.gcd_rec b a, Nat.gcd_comm (a % b) b, ← e]
      have d : (a : Int) = (b : Int) * (a / b : Nat) + (a % b : Nat) := by
        have := Nat.div_add_mod a b
        rw [← Int.natCast_mul, ← Int.natCast_add, this]
      generalize ((a / b : Nat) : Int) = q at *
      generalize ((a % b : Nat) : Int) = r at *
      rw [d]
      grind
theorem inv_ex {u n : Int} (h0 : 0 ≤ u) (h1 : 0 ≤ n) (h : gcdI u n = 1) : ∃ v, n ∣ u * v - 1 := by
  obtain ⟨x, y, e⟩ := bez n.toNat u.toNat
  have g : Nat.gcd u.toNat n.toNat = 1 := by
    have h2 : Int.gcd u n = 1 := by
      have : ((Int.gcd u n : Nat) : Int) = 1 := h
      omega
    rw [← h2]
    show _ = Nat.gcd u.natAbs n.natAbs
    congr 1 <;> omega
  rw [g, Int.toNat_of_nonneg h0, Int.toNat_of_nonneg h1] at e
  exact ⟨x, -y, by have e2 : u * x + n * y = 1 := e; grind⟩

/-! ### sums of targets on a ring: plain -/
def SumsTo (ts : List Int) (k : Nat) (v : Int) : Prop := ∃ l : List Int, l.length = k ∧ (∀ x ∈ l, x ∈ ts) ∧ l.sum = v
/-- 2 ** c times the place is a sum of 2 ** c targets -/
def Hit (n : Int) (ts : List Int) (p : Int) (c : Nat) : Prop := ∃ v, SumsTo ts (2 ^ c) v ∧ n ∣ v - 2 ^ c * p
theorem SumsTo.add {ts : List Int} {a b : Nat} {u v : Int} (h : SumsTo ts a u) (g : SumsTo ts b v) : SumsTo ts (a + b) (u + v) := by
  obtain ⟨l, h1, h2, h3⟩ := h
  obtain ⟨m, g1, g2, g3⟩ := g
  exact ⟨l ++ m, by rw [List.length_append, h1, g1], fun x hx => (List.mem_append.mp hx).elim (h2 x) (g2 x), by rw [List.sum_append, h3, g3]⟩
theorem SumsTo.split {ts : List Int} {a b : Nat} {v : Int} (h : SumsTo ts (a + b) v) : ∃ u w, SumsTo ts a u ∧ SumsTo ts b w ∧ u + w = v := by
  obtain ⟨l, h1, h2, h3⟩ := h
  refine ⟨_, _, ⟨l.take a, by rw [List.length_take]; omega, fun x hx => h2 x (List.mem_of_mem_take hx), rfl⟩, ⟨l.drop a, by rw [List.length_drop]; omega, fun x hx => h2 x (List.mem_of_mem_drop hx), rfl⟩, ?_⟩
  rw [← List.sum_append, List.take_append_drop, h3]
theorem Hit.next {n p : Int} {ts : List Int} {c : Nat} (h : Hit n ts p c) : Hit n ts p (c + 1) := by
  obtain ⟨v, h1, h2⟩ := h
  refine ⟨v + v, by rw [Nat.pow_succ, Nat.mul_two]; exact h1.add h1, ?_⟩
  have := Int.dvd_add h2 h2
  refine (congrArg (n ∣ ·) ?_).mp this
  rw [Int.pow_succ]
  grind
theorem Hit.up {n p : Int} {ts : List Int} {c : Nat} (h : Hit n ts p c) : ∀ d, c ≤ d → Hit n ts p d := by
  intro d hd
  obtain ⟨e, rfl⟩ : ∃ e, d = c + e := ⟨d - c, by omega⟩
  clear hd
  induction e with
  | zero => exact h
  | succ e ih => exact ih.next
theorem lay_hit {n : Nat} (hn : 0 < n) {ts : List Int} (inr : ∀ t ∈ ts, 0 ≤ t ∧ t < (n : Int)) : ∀ (c q : Nat), (layN n ts c).testBit q = true ↔ q < n ∧ ∃ v, SumsTo ts (2 ^ c) v ∧ v % n = q
  | 0, q => by
    show (bitsN ts).testBit q = true ↔ _
    rw [bits_bit]
    constructor
    · rintro ⟨t, ht, e⟩
      obtain ⟨t0, t1⟩ := inr t ht
      exact ⟨by omega, t, ⟨[t], rfl, by simpa using ht, by simp⟩, by rw [Int.emod_eq_of_lt t0 t1]; omega⟩
    · rintro ⟨hq, v, ⟨l, h1, h2, h3⟩, e⟩
      match l, h1 with
      | [t], _ =>
        have ht := h2 t List.mem_cons_self
        obtain ⟨t0, t1⟩ := inr t ht
        have : v = t := by rw [← h3]; simp
        subst this
        rw [Int.emod_eq_of_lt t0 t1] at e
        exact ⟨v, ht, by omega⟩
  | c + 1, q => by
    show (dblN n (layN n ts c)).testBit q = true ↔ _
    rw [dbl_bit (lay_lt inr c)]
    constructor
    · rintro ⟨hq, a, b, ha, hb, ta, tb, e⟩
      obtain ⟨_, u, hu, eu⟩ := (lay_hit hn inr c a).mp ta
      obtain ⟨_, w, hw, ew⟩ := (lay_hit hn inr c b).mp tb
      refine ⟨hq, u + w, by rw [Nat.pow_succ, Nat.mul_two]; exact hu.add hw, ?_⟩
      rw [Int.add_emod, eu, ew, ← e]
      simp
    · rintro ⟨hq, v, hv, e⟩
      rw [Nat.pow_succ, Nat.mul_two] at hv
      obtain ⟨u, w, hu, hw, rfl⟩ := hv.split
      have n0 : (0 : Int) < n := by omega
      have u0 := Int.emod_nonneg u (show (n : Int) ≠ 0 by omega)
      have u1 := Int.emod_lt_of_pos u n0
      have w0 := Int.emod_nonneg w (show (n : Int) ≠ 0 by omega)
      have w1 := Int.emod_lt_of_pos w n0
      refine ⟨hq, (u % n).toNat, (w % n).toNat, by omega, by omega, (lay_hit hn inr c _).mpr ⟨by omega, u, hu, by omega⟩, (lay_hit hn inr c _).mpr ⟨by omega, w, hw, by omega⟩, ?_⟩
      have e2 : (((u % n).toNat + (w % n).toNat : Nat) : Int) % n = q := by
        rw [Int.natCast_add, Int.toNat_of_nonneg u0, Int.toNat_of_nonneg w0, ← Int.add_emod]
        exact e
      omega
theorem bit_hit {n p c : Nat} {ts : List Int} (hp : p < n) (inr : ∀ t ∈ ts, 0 ≤ t ∧ t < (n : Int)) : (layN n ts c).testBit (p * 2 ^ c % n) = true ↔ Hit n ts p c := by
  have hn : 0 < n := by omega
  rw [lay_hit hn inr]
  constructor
  · rintro ⟨_, v, hv, e⟩
    refine ⟨v, hv, emod_eq_iff.mp ?_⟩
    rw [e, Int.natCast_emod, Int.natCast_mul, Int.natCast_pow, Int.mul_comm]
    rfl
  · rintro ⟨v, hv, d⟩
    refine ⟨Nat.mod_lt _ hn, v, hv, ?_⟩
    rw [emod_eq_iff.mpr d, Int.natCast_emod, Int.natCast_mul, Int.natCast_pow, Int.mul_comm]
    rfl
/-- the least number of calls, at most B -/
def MinC (n : Int) (ts : List Int) (p : Int) (B : Nat) : Option Nat → Prop
  | some c => c ≤ B ∧ Hit n ts p c ∧ ∀ d, d < c → ¬ Hit n ts p d
  | none => ∀ d, d ≤ B → ¬ Hit n ts p d
theorem MinC.le {n p m q : Int} {ts us : List Int} {B C : Nat} {o u : Option Nat} (h : MinC n ts p B o) (g : MinC m us q C u) (e : ∀ c, Hit n ts p c → ∃ d, d ≤ c ∧ d ≤ C ∧ Hit m us q d) : ∀ c, o = some c → ∃ d, u = some d ∧ d ≤ c := by
  rintro c rfl
  obtain ⟨d, d1, d2, d3⟩ := e c h.2.1
  cases u with
  | none => exact absurd d3 (g d d2)
  | some f =>
    refine ⟨f, rfl, ?_⟩
    by_cases q : f ≤ d
    · omega
    · exact absurd d3 (g.2.2 d (by omega))
theorem MinC.same {n p m q : Int} {ts us : List Int} {B C : Nat} {o u : Option Nat} (h : MinC n ts p B o) (g : MinC m us q C u) (e1 : ∀ c, Hit n ts p c → ∃ d, d ≤ c ∧ d ≤ C ∧ Hit m us q d) (e2 : ∀ c, Hit m us q c → ∃ d, d ≤ c ∧ d ≤ B ∧ Hit n ts p d) : o = u := by
  cases o with
  | none =>
    cases u with
    | none => rfl
    | some d =>
      obtain ⟨f, hf, _⟩ := MinC.le g h e2 d rfl
      cases hf
  | some c =>
    obtain ⟨d, hd, d1⟩ := MinC.le h g e1 c rfl
    subst hd
    obtain ⟨f, hf, f1⟩ := MinC.le g h e2 d rfl
    cases hf
    congr 1
    omega
/-! ### the bound -/
def Rep (n : Int) (us : List Int) (x : Int) : Prop := ∃ l : List Int, (∀ y ∈ l, y ∈ us) ∧ n ∣ l.sum - x
theorem Rep.add {n x y : Int} {us : List Int} (h : Rep n us x) (g : Rep n us y) : Rep n us (x + y) := by
  obtain ⟨l, h1, h2⟩ := h
  obtain ⟨m, g1, g2⟩ := g
  refine ⟨l ++ m, fun z hz => (List.mem_append.mp hz).elim (h1 z) (g1 z), ?_⟩
  rw [List.sum_append]
  exact (congrArg (n ∣ ·) (by omega)).mp (Int.dvd_add h2 g2)
theorem Rep.zero {n : Int} {us : List Int} : Rep n us 0 := ⟨[], by simp, by simp⟩
theorem Rep.of {n x y : Int} {us : List Int} (h : Rep n us x) (e : n ∣ x - y) : Rep n us y := by
  obtain ⟨l, h1, h2⟩ := h
  exact ⟨l, h1, (congrArg (n ∣ ·) (by omega)).mp (Int.dvd_add h2 e)⟩
theorem Rep.nsmul {n x : Int} {us : List Int} (h : Rep n us x) : ∀ k : Nat, Rep n us ((k : Int) * x)
  | 0 => by simpa using Rep.zero
  | k + 1 => by
    have := (h.nsmul k).add h
    rwa [show ((k : Int) * x + x) = ((k + 1 : Nat) : Int) * x by rw [Int.natCast_add]; grind] at this
theorem Rep.mul {n x : Int} {us : List Int} (hn : 0 < n) (h : Rep n us x) (k : Int) : Rep n us (k * x) := by
  refine (h.nsmul (k % n).toNat).of ?_
  rw [Int.toNat_of_nonneg (Int.emod_nonneg _ (by omega))]
  have : n ∣ (k % n - k) * x := Int.dvd_mul_of_dvd_left (emod_dvd k n)
  exact (congrArg (n ∣ ·) (by grind)).mp this
theorem Rep.gcd {n x y : Int} {us : List Int} (hn : 0 < n) (h : Rep n us x) (g : Rep n us y) : Rep n us (gcdI x y) := by
  obtain ⟨a, b, e⟩ := bez y.natAbs x.natAbs
  have hx : ∃ c : Int, (x.natAbs : Int) = c * x := by
    by_cases q : 0 ≤ x
    · exact ⟨1, by omega⟩
    · exact ⟨-1, by omega⟩
  have hy : ∃ c : Int, (y.natAbs : Int) = c * y := by
    by_cases q : 0 ≤ y
    · exact ⟨1, by omega⟩
    · exact ⟨-1, by omega⟩
  obtain ⟨c, hc⟩ := hx
  obtain ⟨d, hd⟩ := hy
  rw [hc, hd] at e
  have := (h.mul hn (c * a)).add (g.mul hn (d * b))
  rw [show c * a * x + d * b * y = ((Nat.gcd x.natAbs y.natAbs : Nat) : Int) by rw [← e]; grind] at this
  exact this
theorem Rep.gcdL {n t0 : Int} {us : List Int} (hn : 0 < n) : ∀ {ts : List Int} {s : Int}, Rep n us s → (∀ t ∈ ts, Rep n us (t - t0)) → Rep n us (gcdL s t0 ts)
  | [], _, h, _ => h
  | t :: ts, s, h, g => by
    show Rep n us (CS.gcdL (gcdI s (t - t0)) t0 ts)
    exact Rep.gcdL hn (h.gcd hn (g t List.mem_cons_self)) fun x hx => g x (List.mem_cons_of_mem _ hx)
/-- prefixes -/
theorem rep_short {n x : Int} {us : List Int} (hn : 0 < n) (h : Rep n us x) : ∃ l : List Int, (∀ y ∈ l, y ∈ us) ∧ n ∣ l.sum - x ∧ l.length < n.toNat := by
  obtain ⟨l, h1, h2⟩ := h
  obtain ⟨m, hm⟩ : ∃ m, m = l.length := ⟨_, rfl⟩
  induction m using Nat.strongRecOn generalizing l with
  | ind m ih =>
    by_cases hl : l.length < n.toNat
    · exact ⟨l, h1, h2, hl⟩
    · -- two prefixes agree
      have key : ∃ i j, i < j ∧ j ≤ l.length ∧ n ∣ (l.take j).sum - (l.take i).sum := by
        refine Classical.byContradiction fun no => ?_
        have nod : ((List.range (l.length + 1)).map fun i => ((l.take i).sum % n).toNat).Nodup := by
          refine nodup_maps (fun a ha b hb e => ?_) List.nodup_range
          have a0 := Int.emod_nonneg (l.take a).sum (show n ≠ 0 by omega)
          have b0 := Int.emod_nonneg (l.take b).sum (show n ≠ 0 by omega)
          have e2 : (l.take a).sum % n = (l.take b).sum % n := by omega
          have al := List.mem_range.mp ha
          have bl := List.mem_range.mp hb
          by_cases q : a = b
          · exact q
          · exfalso
            by_cases q2 : a < b
            · exact no ⟨a, b, q2, by omega, emod_eq_iff.mp e2.symm⟩
            · exact no ⟨b, a, by omega, by omega, emod_eq_iff.mp e2⟩
        have := nod.length_le_of_subset (l₂ := List.range n.toNat) fun x hx => by
          obtain ⟨i, _, rfl⟩ := List.mem_map.mp hx
          have i0 := Int.emod_nonneg (l.take i).sum (show n ≠ 0 by omega)
          have i1 := Int.emod_lt_of_pos (l.take i).sum hn
          exact List.mem_range.mpr (by omega)
        rw [List.length_map, List.length_range, List.length_range] at this
        omega
      obtain ⟨i, j, ij, jl, d⟩ := key
      have len : (l.take i ++ l.drop j).length < m := by
        rw [List.length_append, List.length_take, List.length_drop, hm]
        omega
      refine ih _ len (l.take i ++ l.drop j) (fun y hy => ?_) ?_ rfl
      · rcases List.mem_append.mp hy with h | h
        · exact h1 y (List.mem_of_mem_take h)
        · exact h1 y (List.mem_of_mem_drop h)
      · have e : l.sum = (l.take j).sum + (l.drop j).sum := by rw [← List.sum_append, List.take_append_drop]
        rw [List.sum_append]
        have := Int.dvd_sub h2 d
        exact (congrArg (n ∣ ·) (by omega)).mp this
theorem sum_shift {t0 : Int} : ∀ l : List Int, (l.map fun x => x - t0).sum = l.sum - l.length * t0
  | [] => by simp
  | x :: l => by
    rw [List.map_cons, List.sum_cons, List.sum_cons, sum_shift l, List.length_cons, Int.natCast_add]
    grind
theorem sum_pad {t0 : Int} (k : Nat) : (List.replicate k t0).sum = k * t0 := by
  induction k with
  | zero => simp
  | succ k ih =>
    rw [List.replicate_succ, List.sum_cons, ih, Int.natCast_add]
    grind
theorem hit_bound {n p t0 : Int} {ts : List Int} {C : Nat} (hn : 0 < n) (ht : t0 ∈ ts) (hC : n < 2 ^ C) {c : Nat} (h : Hit n ts p c) : Hit n ts p C := by
  obtain ⟨v, ⟨l, l1, l2, l3⟩, d⟩ := h
  obtain ⟨G1, Gn⟩ := gcdL_pos (gs := ts) (g0 := t0) (show 1 ≤ n by omega)
  obtain ⟨dn, dts⟩ := (gcdL_dvd (gs := ts) (n := n) (g0 := t0)).mp (Int.dvd_refl _)
  have rep : Rep n (ts.map fun t => t - t0) (gcdL n t0 ts) := Rep.gcdL hn (Rep.zero.of (by simp)) fun t h => ⟨[t - t0], fun y hy => by rw [List.mem_singleton.mp hy]; exact List.mem_map.mpr ⟨t, h, rfl⟩, by simp⟩
  obtain ⟨⟨k, hk⟩, o1, o2, _⟩ := oddI_ok G1
  -- the gcd divides 2^c (p - t0)
  have dg : gcdL n t0 ts ∣ 2 ^ c * (p - t0) := by
    have q1 : gcdL n t0 ts ∣ (l.map fun x => x - t0).sum := by
      clear l1 l3 d
      induction l with
      | nil => simp
      | cons x l ih =>
        rw [List.map_cons, List.sum_cons]
        exact Int.dvd_add (dts x (l2 x List.mem_cons_self)) (ih fun y hy => l2 y (List.mem_cons_of_mem _ hy))
    rw [sum_shift, l3, l1, Int.natCast_pow] at q1
    have q2 := Int.dvd_trans dn d
    have := Int.dvd_sub q1 q2
    refine (congrArg (gcdL n t0 ts ∣ ·) ?_).mp this
    have e2 : ((2 : Nat) : Int) = 2 := rfl
    rw [e2]
    grind
  have dO : oddI (gcdL n t0 ts) ∣ p - t0 := by
    refine odd_pow2 o1 c (Int.dvd_trans ?_ dg)
    exact odd_dvd G1
  have kC : k ≤ C := by
    by_cases q : k ≤ C
    · exact q
    · exfalso
      have h1 : (2 : Int) ^ C ≤ 2 ^ k := by
        have : (2 : Nat) ^ C ≤ 2 ^ k := Nat.pow_le_pow_right (by decide) (by omega)
        exact_mod_cast this
      have h2 : (2 : Int) ^ k * 1 ≤ 2 ^ k * oddI (gcdL n t0 ts) := Int.mul_le_mul_of_nonneg_left (by omega) (by have := pow2_pos k; omega)
      rw [← hk] at h2
      omega
  have dC : gcdL n t0 ts ∣ 2 ^ C * (p - t0) := by
    rw [hk]
    refine Int.mul_dvd_mul ?_ dO
    exact ⟨2 ^ (C - k), by rw [← Int.pow_add]; congr 1; omega⟩
  obtain ⟨z, hz⟩ := dC
  have rep2 : Rep n (ts.map fun t => t - t0) (2 ^ C * (p - t0)) := by
    rw [hz, Int.mul_comm]
    exact rep.mul hn z
  obtain ⟨m, m1, m2, m3⟩ := rep_short hn rep2
  -- padded by the first target
  have mC : m.length ≤ 2 ^ C := by
    have : ((2 ^ C : Nat) : Int) = (2 : Int) ^ C := by simp
    omega
  refine ⟨_, ⟨(m.map fun x => x + t0) ++ List.replicate (2 ^ C - m.length) t0, ?_, fun x hx => ?_, rfl⟩, ?_⟩
  · rw [List.length_append, List.length_map, List.length_replicate]
    omega
  · rcases List.mem_append.mp hx with h | h
    · obtain ⟨y, hy, rfl⟩ := List.mem_map.mp h
      obtain ⟨t, ht2, rfl⟩ := List.mem_map.mp (m1 y hy)
      rw [show t - t0 + t0 = t by omega]
      exact ht2
    · rw [(List.mem_replicate.mp h).2]
      exact ht
  · rw [List.sum_append, sum_pad]
    have e1 : (m.map fun x => x + t0).sum = m.sum + m.length * t0 := by
      have := sum_shift (t0 := -t0) m
      rw [show (fun x : Int => x - -t0) = fun x => x + t0 from funext fun x => by omega] at this
      rw [this]
      grind
    rw [e1]
    refine (congrArg (n ∣ ·) ?_).mp m2
    have e2 : ((2 ^ C - m.length : Nat) : Int) = 2 ^ C - m.length := by
      have : ((2 ^ C : Nat) : Int) = (2 : Int) ^ C := by simp
      omega
    rw [e2]
    grind

theorem sums_map {m u s : Int} {ts us : List Int} (h : ∀ t ∈ ts, ∃ t' ∈ us, m ∣ t' - (u * t + s)) : ∀ l : List Int, (∀ x ∈ l, x ∈ ts) → ∃ l' : List Int, l'.length = l.length ∧ (∀ x ∈ l', x ∈ us) ∧ m ∣ l'.sum - (u * l.sum + l.length * s)
  | [], _ => ⟨[], rfl, by simp, by simp⟩
  | x :: l, hl => by
    obtain ⟨l', h1, h2, h3⟩ := sums_map h l fun y hy => hl y (List.mem_cons_of_mem _ hy)
    obtain ⟨t', t1, t2⟩ := h x (hl x List.mem_cons_self)
    refine ⟨t' :: l', by simp [h1], fun y hy => ?_, ?_⟩
    · rcases List.mem_cons.mp hy with rfl | hy
      · exact t1
      · exact h2 y hy
    · rw [List.sum_cons, List.sum_cons, List.length_cons, Int.natCast_add]
      have := Int.dvd_add t2 h3
      exact (congrArg (m ∣ ·) (by grind)).mp this
theorem hit_map {n m p q u s : Int} {ts us : List Int} {c : Nat} (hn : ∀ x, n ∣ x → m ∣ u * x) (ht : ∀ t ∈ ts, ∃ t' ∈ us, m ∣ t' - (u * t + s)) (hp : m ∣ q - (u * p + s)) (h : Hit n ts p c) : Hit m us q c := by
  obtain ⟨v, ⟨l, l1, l2, l3⟩, d⟩ := h
  obtain ⟨l', h1, h2, h3⟩ := sums_map ht l l2
  refine ⟨l'.sum, ⟨l', by rw [h1, l1], h2, rfl⟩, ?_⟩
  rw [l3, l1, Int.natCast_pow] at h3
  have e2 : ((2 : Nat) : Int) = 2 := rfl
  rw [e2] at h3
  have a := hn _ d
  have b : m ∣ 2 ^ c * (q - (u * p + s)) := Int.dvd_mul_of_dvd_right hp
  have := Int.dvd_sub (Int.dvd_add h3 a) b
  exact (congrArg (m ∣ ·) (by grind)).mp this
theorem hit_mul {n p k : Int} {ts : List Int} {c : Nat} (hk : 0 < k) : Hit (n * k) (ts.map fun t => t * k) (p * k) c ↔ Hit n ts p c := by
  constructor
  · rintro ⟨v, ⟨l, l1, l2, l3⟩, d⟩
    have key : ∀ l : List Int, (∀ x ∈ l, x ∈ ts.map fun t => t * k) → ∃ l' : List Int, l'.length = l.length ∧ (∀ x ∈ l', x ∈ ts) ∧ l.sum = l'.sum * k := by
      intro l
      induction l with
      | nil => exact fun _ => ⟨[], rfl, by simp, by simp⟩
      | cons x l ih =>
        intro hl
        obtain ⟨l', h1, h2, h3⟩ := ih fun y hy => hl y (List.mem_cons_of_mem _ hy)
        obtain ⟨t, ht, rfl⟩ := List.mem_map.mp (hl x List.mem_cons_self)
        refine ⟨t :: l', by simp [h1], fun y hy => ?_, ?_⟩
        · rcases List.mem_cons.mp hy with rfl | hy
          · exact ht
          · exact h2 y hy
        · rw [List.sum_cons, List.sum_cons, h3]
          grind
    obtain ⟨l', h1, h2, h3⟩ := key l l2
    refine ⟨l'.sum, ⟨l', by rw [h1, l1], h2, rfl⟩, ?_⟩
    rw [← l3, h3] at d
    have e : l'.sum * k - 2 ^ c * (p * k) = (l'.sum - 2 ^ c * p) * k := by grind
    rw [e] at d
    exact Int.dvd_of_mul_dvd_mul_right (by omega) d
  · intro h
    refine hit_map (u := k) (s := 0) (fun x hx => ?_) (fun t ht => ⟨t * k, List.mem_map.mpr ⟨t, ht, rfl⟩, ⟨0, by grind⟩⟩) ⟨0, by grind⟩ h
    rw [Int.mul_comm n]
    exact Int.mul_dvd_mul (Int.dvd_refl k) hx
theorem hit_shift {n p s : Int} {ts : List Int} {c : Nat} : Hit n (ts.map fun t => (t + s) % n) ((p + s) % n) c ↔ Hit n ts p c := by
  constructor
  · refine hit_map (u := 1) (s := -s) (fun x hx => by rw [Int.one_mul]; exact hx) (fun t ht => ?_) ?_
    · obtain ⟨x, hx, rfl⟩ := List.mem_map.mp ht
      refine ⟨x, hx, ?_⟩
      have := Int.dvd_neg.mpr (emod_dvd (x + s) n)
      exact (congrArg (n ∣ ·) (by omega)).mp this
    · have := Int.dvd_neg.mpr (emod_dvd (p + s) n)
      exact (congrArg (n ∣ ·) (by omega)).mp this
  · refine hit_map (u := 1) (s := s) (fun x hx => by rw [Int.one_mul]; exact hx) (fun t ht => ⟨_, List.mem_map.mpr ⟨t, ht, rfl⟩, ?_⟩) ?_
    · rw [Int.one_mul]
      exact emod_dvd _ _
    · rw [Int.one_mul]
      exact emod_dvd _ _
theorem hit_unit {n p u : Int} {ts : List Int} {c : Nat} (hn : 0 ≤ n) (u0 : 0 ≤ u) (hu : gcdI u n = 1) : Hit n (ts.map fun t => t * u % n) (p * u % n) c ↔ Hit n ts p c := by
  constructor
  · obtain ⟨v, hv⟩ := inv_ex u0 hn hu
    have back : ∀ x : Int, n ∣ x - (v * (x * u % n) + 0) := fun x => by
      have d1 : n ∣ v * (x * u % n - x * u) := Int.dvd_mul_of_dvd_right (emod_dvd _ _)
      have d2 : n ∣ (u * v - 1) * x := Int.dvd_mul_of_dvd_left hv
      have := Int.dvd_neg.mpr (Int.dvd_add d1 d2)
      exact (congrArg (n ∣ ·) (by grind)).mp this
    refine hit_map (u := v) (s := 0) (fun x hx => Int.dvd_mul_of_dvd_right hx) (fun t ht => ?_) (back p)
    obtain ⟨x, hx, rfl⟩ := List.mem_map.mp ht
    exact ⟨x, hx, back x⟩
  · have fwd : ∀ x : Int, n ∣ x * u % n - (u * x + 0) := fun x => by
      have := emod_dvd (x * u) n
      exact (congrArg (n ∣ ·) (by grind)).mp this
    exact hit_map (u := u) (s := 0) (fun x hx => Int.dvd_mul_of_dvd_right hx) (fun t ht => ⟨_, List.mem_map.mpr ⟨t, ht, rfl⟩, fwd t⟩) (fwd p)
theorem hit_sub {n p : Int} {ts us : List Int} {c : Nat} (hs : ∀ t ∈ ts, t ∈ us) (h : Hit n ts p c) : Hit n us p c := by
  obtain ⟨v, ⟨l, l1, l2, l3⟩, d⟩ := h
  exact ⟨v, ⟨l, l1, fun x hx => hs x (l2 x hx), l3⟩, d⟩
theorem hit_mid {n p d : Int} {ts : List Int} {c : Nat} (h1 : Hit n ts ((p + d) % n) c) (h2 : Hit n ts ((p - d) % n) c) : Hit n ts p (c + 1) := by
  obtain ⟨v, a1, a2⟩ := h1
  obtain ⟨w, b1, b2⟩ := h2
  refine ⟨v + w, by rw [Nat.pow_succ, Nat.mul_two]; exact a1.add b1, ?_⟩
  have q1 : n ∣ 2 ^ c * ((p + d) % n - (p + d)) := Int.dvd_mul_of_dvd_right (emod_dvd _ _)
  have q2 : n ∣ 2 ^ c * ((p - d) % n - (p - d)) := Int.dvd_mul_of_dvd_right (emod_dvd _ _)
  have := Int.dvd_add (Int.dvd_add a2 b2) (Int.dvd_add q1 q2)
  refine (congrArg (n ∣ ·) ?_).mp this
  rw [Int.pow_succ]
  grind
/-! ### two targets -/
theorem sums_two {a b : Int} : ∀ (l : List Int), (∀ x ∈ l, x ∈ [a, b]) → ∃ j : Nat, j ≤ l.length ∧ l.sum = (l.length : Int) * a + j * (b - a)
  | [], _ => ⟨0, by simp, by simp⟩
  | x :: l, h => by
    obtain ⟨j, j1, j2⟩ := sums_two l fun y hy => h y (List.mem_cons_of_mem _ hy)
    have hx := h x List.mem_cons_self
    simp only [List.mem_cons, List.not_mem_nil, or_false] at hx
    rcases hx with rfl | rfl
    · exact ⟨j, by simp; omega, by rw [List.sum_cons, j2, List.length_cons, Int.natCast_add]; grind⟩
    · exact ⟨j + 1, by simp; omega, by rw [List.sum_cons, j2, List.length_cons, Int.natCast_add, Int.natCast_add]; grind⟩
theorem hit_two {n a b p : Int} {e : Nat} : Hit n [a, b] p e ↔ ∃ j : Nat, j ≤ 2 ^ e ∧ n ∣ (j : Int) * (b - a) - 2 ^ e * (p - a) := by
  constructor
  · rintro ⟨v, ⟨l, l1, l2, l3⟩, d⟩
    obtain ⟨j, j1, j2⟩ := sums_two l l2
    refine ⟨j, by omega, ?_⟩
    rw [← l3, j2, l1, Int.natCast_pow] at d
    have e2 : ((2 : Nat) : Int) = 2 := rfl
    rw [e2] at d
    exact (congrArg (n ∣ ·) (by grind)).mp d
  · rintro ⟨j, j1, d⟩
    refine ⟨_, ⟨List.replicate (2 ^ e - j) a ++ List.replicate j b, by simp; omega, fun x hx => ?_, rfl⟩, ?_⟩
    · rcases List.mem_append.mp hx with h | h
      · rw [(List.mem_replicate.mp h).2]
        exact List.mem_cons_self
      · rw [(List.mem_replicate.mp h).2]
        exact List.mem_cons_of_mem _ List.mem_cons_self
    · rw [List.sum_append, sum_pad, sum_pad]
      have e2 : ((2 ^ e - j : Nat) : Int) = 2 ^ e - j := by
        have : ((2 ^ e : Nat) : Int) = (2 : Int) ^ e := by simp
        omega
      rw [e2]
      exact (congrArg (n ∣ ·) (by grind)).mp d
theorem two_iff {n a b p f : Int} (hn : 0 < n) (hf : (b - a) % n / gcdI ((b - a) % n) n * f % (n / gcdI ((b - a) % n) n) = 1 % (n / gcdI ((b - a) % n) n)) (e : Nat) :
    Hit n [a, b] p e ↔ (p - a) % n * 2 ^ e % gcdI ((b - a) % n) n = 0 ∧ (p - a) % n * 2 ^ e / gcdI ((b - a) % n) n * f % (n / gcdI ((b - a) % n) n) ≤ 2 ^ e := by
  have G0 : 0 < gcdI ((b - a) % n) n := by
    have := gcd_pos2 (p := (b - a) % n) (n := n) (by omega)
    show (0 : Int) < ((Int.gcd ((b - a) % n) n : Nat) : Int)
    omega
  have Gn : gcdI ((b - a) % n) n ∣ n := Int.gcd_dvd_right _ _
  have Gg : gcdI ((b - a) % n) n ∣ (b - a) % n := Int.gcd_dvd_left _ _
  have cong : ∀ j : Int, n ∣ j * (b - a) - 2 ^ e * (p - a) ↔ n ∣ j * ((b - a) % n) - (p - a) % n * 2 ^ e := fun j => by
    have q1 : n ∣ j * ((b - a) % n - (b - a)) := Int.dvd_mul_of_dvd_right (emod_dvd _ _)
    have q2 : n ∣ 2 ^ e * ((p - a) % n - (p - a)) := Int.dvd_mul_of_dvd_right (emod_dvd _ _)
    constructor
    · intro h
      have := Int.dvd_sub (Int.dvd_add h q1) q2
      exact (congrArg (n ∣ ·) (by grind)).mp this
    · intro h
      have := Int.dvd_add (Int.dvd_sub h q1) q2
      exact (congrArg (n ∣ ·) (by grind)).mp this
  generalize (b - a) % n = g at *
  generalize (p - a) % n = d at *
  generalize gcdI g n = G at *
  obtain ⟨N, rfl⟩ := Gn
  obtain ⟨h, rfl⟩ := Gg
  have N0 : 0 < N := by
    by_cases q : 0 < N
    · exact q
    · have := Int.mul_nonneg (show 0 ≤ G by omega) (show 0 ≤ -N by omega)
      rw [Int.mul_neg] at this
      omega
  rw [Int.mul_ediv_cancel_left _ (by omega), Int.mul_ediv_cancel_left _ (by omega)] at hf
  rw [Int.mul_ediv_cancel_left _ (by omega), hit_two]
  have hf2 : N ∣ h * f - 1 := emod_eq_iff.mp hf
  constructor
  · rintro ⟨j, j1, dj⟩
    have dj := (cong j).mp dj
    have gd : G ∣ d * 2 ^ e := by
      have q1 : G ∣ (j : Int) * (G * h) := Int.dvd_mul_of_dvd_right (Int.dvd_mul_right _ _)
      have q2 : G ∣ (j : Int) * (G * h) - d * 2 ^ e := Int.dvd_trans (Int.dvd_mul_right _ _) dj
      have := Int.dvd_sub q1 q2
      exact (congrArg (G ∣ ·) (by omega)).mp this
    refine ⟨Int.emod_eq_zero_of_dvd gd, ?_⟩
    obtain ⟨X, hX⟩ := gd
    rw [hX, Int.mul_ediv_cancel_left _ (by omega)]
    rw [hX] at dj
    have dj2 : G * N ∣ G * ((j : Int) * h - X) := (congrArg (G * N ∣ ·) (by grind)).mp dj
    have dj3 : N ∣ (j : Int) * h - X := Int.dvd_of_mul_dvd_mul_left (by omega) dj2
    have q : N ∣ X * f - j := by
      have q1 : N ∣ ((j : Int) * h - X) * f := Int.dvd_mul_of_dvd_left dj3
      have q2 : N ∣ (j : Int) * (h * f - 1) := Int.dvd_mul_of_dvd_right hf2
      have := Int.dvd_sub q2 q1
      exact (congrArg (N ∣ ·) (by grind)).mp this
    rw [emod_eq_iff.mpr q]
    have d1 := Int.mul_ediv_add_emod (j : Int) N
    have d2 := Int.mul_nonneg (show 0 ≤ N by omega) (Int.ediv_nonneg (show (0 : Int) ≤ j by omega) (show 0 ≤ N by omega))
    have e2 : ((2 ^ e : Nat) : Int) = (2 : Int) ^ e := by simp
    omega
  · rintro ⟨h1, h2⟩
    obtain ⟨X, hX⟩ := Int.dvd_of_emod_eq_zero h1
    rw [hX, Int.mul_ediv_cancel_left _ (by omega)] at h2
    have x0 := Int.emod_nonneg (X * f) (show N ≠ 0 by omega)
    have e2 : ((2 ^ e : Nat) : Int) = (2 : Int) ^ e := by simp
    refine ⟨(X * f % N).toNat, by omega, (cong _).mpr ?_⟩
    rw [Int.toNat_of_nonneg x0, hX]
    have q1 : N ∣ (X * f % N - X * f) * h := Int.dvd_mul_of_dvd_left (emod_dvd _ _)
    have q2 : N ∣ X * (h * f - 1) := Int.dvd_mul_of_dvd_right hf2
    have q3 := Int.dvd_add q1 q2
    have q4 : G * N ∣ G * ((X * f % N - X * f) * h + X * (h * f - 1)) := Int.mul_dvd_mul (Int.dvd_refl G) q3
    exact (congrArg (G * N ∣ ·) (by grind)).mp q4
theorem bits_gt {n : Int} (h : 0 < n) : n < 2 ^ Builtin.Int.intBits n := by
  unfold Builtin.Int.intBits
  rw [if_neg (by simp; omega)]
  have := Nat.lt_log2_self (n := n.natAbs)
  have e : ((2 ^ (n.natAbs.log2 + 1) : Nat) : Int) = (2 : Int) ^ (n.natAbs.log2 + 1) := by simp
  omega
theorem two_min {n a b p f : Int} {c : Nat} (hn : 0 < n) (hf : (b - a) % n / gcdI ((b - a) % n) n * f % (n / gcdI ((b - a) % n) n) = 1 % (n / gcdI ((b - a) % n) n)) (h : TwoOk n ((b - a) % n) ((p - a) % n) f c) : MinC n [a, b] p (Builtin.Int.intBits n) (some c) := by
  refine ⟨?_, (two_iff hn hf c).mpr ⟨h.dv, h.le⟩, fun e he hit => ?_⟩
  · rcases h.least with z | ⟨z, _⟩
    · omega
    · have h1 := bits_gt hn
      by_cases q : c ≤ Builtin.Int.intBits n
      · exact q
      · exfalso
        have : (2 : Nat) ^ Builtin.Int.intBits n ≤ 2 ^ (c - 1) := Nat.pow_le_pow_right (by decide) (by omega)
        have e1 : ((2 ^ Builtin.Int.intBits n : Nat) : Int) = (2 : Int) ^ Builtin.Int.intBits n := by simp
        have e2 : ((2 ^ (c - 1) : Nat) : Int) = (2 : Int) ^ (c - 1) := by simp
        omega
  · rcases h.least with z | ⟨_, z⟩
    · omega
    · obtain ⟨q1, q2⟩ := (two_iff hn hf (c - 1)).mp (hit.up (c - 1) (by omega))
      rcases z with z | z
      · exact z q1
      · omega
theorem two_none {n a b p o : Int} {k : Nat} (hn : 0 < n) (he : gcdI ((b - a) % n) n = 2 ^ k * o) (ho : o % 2 = 1) (hd : ¬ (p - a) % n % o = 0) : ∀ e, ¬ Hit n [a, b] p e := fun e hit => by
  obtain ⟨j, _, d⟩ := hit_two.mp hit
  have Gn : gcdI ((b - a) % n) n ∣ n := Int.gcd_dvd_right _ _
  have Gg : gcdI ((b - a) % n) n ∣ (b - a) % n := Int.gcd_dvd_left _ _
  have on : o ∣ gcdI ((b - a) % n) n := by rw [he]; exact Int.dvd_mul_left _ _
  have o1 : o ∣ n := Int.dvd_trans on Gn
  have o2 : o ∣ b - a := by
    have := Int.dvd_sub (Int.dvd_trans on Gg) (Int.dvd_trans o1 (emod_dvd (b - a) n))
    exact (congrArg (o ∣ ·) (by omega)).mp this
  have o3 : o ∣ 2 ^ e * (p - a) := by
    have q1 : o ∣ (j : Int) * (b - a) := Int.dvd_mul_of_dvd_right o2
    have := Int.dvd_sub q1 (Int.dvd_trans o1 d)
    exact (congrArg (o ∣ ·) (by omega)).mp this
  have o4 := odd_pow2 ho e o3
  apply hd
  refine Int.emod_eq_zero_of_dvd ?_
  have := Int.dvd_add (Int.dvd_trans o1 (emod_dvd (p - a) n)) o4
  exact (congrArg (o ∣ ·) (by omega)).mp this

/-! ### among 2 ** (c + 1) - 1 integers there are 2 ** c whose sum is a multiple of 2 ** c -/
theorem same_two {α : Type} (f : α → Int) : ∀ (k : Nat) (l : List α), 2 * k + 1 ≤ l.length → ∃ (ps : List (α × α)) (r : List α), ps.length = k ∧ (ps.flatMap (fun q => [q.1, q.2]) ++ r).Perm l ∧ ∀ q ∈ ps, 2 ∣ f q.1 + f q.2
  | 0, l, _ => ⟨[], l, rfl, List.Perm.refl _, fun q h => (nomatch h)⟩
  | k + 1, l, h => by
    match l, h with
    | a :: b :: c :: t, h =>
      have go : ∀ (x y z : α), (x :: y :: z :: t).Perm (a :: b :: c :: t) → 2 ∣ f x + f y → ∃ (ps : List (α × α)) (r : List α), ps.length = k + 1 ∧ (ps.flatMap (fun q => [q.1, q.2]) ++ r).Perm (a :: b :: c :: t) ∧ ∀ q ∈ ps, 2 ∣ f q.1 + f q.2 := fun x y z hp hd => by
        obtain ⟨ps, r, h1, h2, h3⟩ := same_two f k (z :: t) (by simp at h ⊢; omega)
        refine ⟨(x, y) :: ps, r, by rw [List.length_cons, h1], ?_, fun q hq => ?_⟩
        · refine List.Perm.trans ?_ hp
          show (x :: y :: (ps.flatMap (fun q => [q.1, q.2]) ++ r)).Perm _
          exact (h2.cons y).cons x
        · rcases List.mem_cons.mp hq with rfl | hq
          · exact hd
          · exact h3 q hq
      by_cases h1 : 2 ∣ f a + f b
      · exact go a b c (List.Perm.refl _) h1
      · by_cases h2 : 2 ∣ f a + f c
        · refine go a c b ?_ h2
          exact (List.Perm.swap b c t).cons a
        · refine go b c a ?_ (by omega)
          exact ((List.Perm.swap a c t).cons b).trans (List.Perm.swap a b (c :: t))
theorem egz : ∀ (c : Nat) {α : Type} (f : α → Int) (l : List α), 2 ^ (c + 1) - 1 ≤ l.length → ∃ s r : List α, (s ++ r).Perm l ∧ s.length = 2 ^ c ∧ (2 : Int) ^ c ∣ (s.map f).sum
  | 0, _, f, l, h => by
    match l, h with
    | a :: t, _ => exact ⟨[a], t, List.Perm.refl _, rfl, by rw [Int.pow_zero]; exact Int.one_dvd _⟩
  | c + 1, α, f, l, h => by
    have p1 : 0 < 2 ^ (c + 1) := Nat.pow_pos (by decide)
    obtain ⟨ps, r, h1, h2, h3⟩ := same_two f (2 ^ (c + 1) - 1) l (by
      rw [Nat.pow_succ (n := 2) (m := c + 1)] at h
      omega)
    obtain ⟨s, t, g1, g2, g3⟩ := egz c (fun q : α × α => (f q.1 + f q.2) / 2) ps (by rw [h1]; exact Nat.le_refl _)
    refine ⟨s.flatMap fun q => [q.1, q.2], t.flatMap (fun q => [q.1, q.2]) ++ r, ?_, ?_, ?_⟩
    · rw [← List.append_assoc, ← List.flatMap_append]
      exact ((g1.flatMap_right _).append_right r).trans h2
    · have : ∀ l : List (α × α), (l.flatMap fun q => [q.1, q.2]).length = 2 * l.length := fun l => by
        induction l with
        | nil => rfl
        | cons a l ih =>
          rw [List.flatMap_cons, List.length_append, ih]
          simp only [List.length_cons, List.length_nil]
          omega
      rw [this, g2, Nat.pow_succ]
      omega
    · have hs : ∀ q ∈ s, 2 ∣ f q.1 + f q.2 := fun q hq => h3 q (g1.mem_iff.mp (List.mem_append_left _ hq))
      have sum2 : ∀ l : List (α × α), (∀ q ∈ l, 2 ∣ f q.1 + f q.2) → ((l.flatMap fun q => [q.1, q.2]).map f).sum = 2 * (l.map fun q => (f q.1 + f q.2) / 2).sum := fun l => by
        induction l with
        | nil => exact fun _ => rfl
        | cons a l ih =>
          intro hl
          have ha := hl a List.mem_cons_self
          rw [List.flatMap_cons, List.map_append, List.sum_append, ih fun q hq => hl q (List.mem_cons_of_mem _ hq)]
          simp only [List.map_cons, List.map_nil, List.sum_cons, List.sum_nil]
          generalize (l.map fun q => (f q.1 + f q.2) / 2).sum = S
          omega
      rw [sum2 s hs, Int.pow_succ, Int.mul_comm]
      exact Int.mul_dvd_mul (Int.dvd_refl _) g3
theorem perm_sumI {l m : List Int} (p : l.Perm m) : l.sum = m.sum := by
  induction p with
  | nil => rfl
  | cons x _ ih => rw [List.sum_cons, List.sum_cons, ih]
  | swap x y l =>
    rw [List.sum_cons, List.sum_cons, List.sum_cons, List.sum_cons]
    omega
  | trans _ _ h1 h2 => exact h1.trans h2
theorem hit_split {n p : Int} {ts : List Int} {c : Nat} (h : Hit n ts p (c + 1)) : ∃ d : Int, Hit n ts ((p + d) % n) c ∧ Hit n ts ((p - d) % n) c := by
  obtain ⟨v, ⟨l, l1, l2, l3⟩, dv⟩ := h
  obtain ⟨s, r, h1, h2, h3⟩ := egz c id l (by rw [l1]; omega)
  rw [List.map_id] at h3
  obtain ⟨m, hm⟩ := h3
  have lr : r.length = 2 ^ c := by
    have := h1.length_eq
    rw [List.length_append, h2, l1, Nat.pow_succ] at this
    omega
  have sr : s.sum + r.sum = v := by
    rw [← l3, ← List.sum_append]
    exact perm_sumI h1
  refine ⟨m - p, ⟨s.sum, ⟨s, h2, fun x hx => l2 x (h1.mem_iff.mp (List.mem_append_left _ hx)), rfl⟩, ?_⟩, ⟨r.sum, ⟨r, lr, fun x hx => l2 x (h1.mem_iff.mp (List.mem_append_right _ hx)), rfl⟩, ?_⟩⟩
  · have q1 : n ∣ 2 ^ c * ((p + (m - p)) % n - (p + (m - p))) := Int.dvd_mul_of_dvd_right (emod_dvd _ _)
    have := Int.dvd_neg.mpr q1
    refine (congrArg (n ∣ ·) ?_).mp this
    rw [hm]
    grind
  · have q1 : n ∣ 2 ^ c * ((p - (m - p)) % n - (p - (m - p))) := Int.dvd_mul_of_dvd_right (emod_dvd _ _)
    have := Int.dvd_sub dv q1
    refine (congrArg (n ∣ ·) ?_).mp this
    rw [Int.pow_succ]
    grind
/-! ### the rounds of the game -/
def Least (n : Int) (ts : List Int) (p : Int) (c : Nat) : Prop := Hit n ts p c ∧ ∀ e, e < c → ¬ Hit n ts p e
theorem Least.same {n p : Int} {ts : List Int} {c d : Nat} (h : Least n ts p c) (g : Least n ts p d) : c = d := by
  rcases Nat.lt_trichotomy c d with z | z | z
  · exact absurd h.1 (g.2 c z)
  · exact z
  · exact absurd g.1 (h.2 d z)
theorem least_ex {n p : Int} {ts : List Int} : ∀ {c : Nat}, Hit n ts p c → ∃ d, d ≤ c ∧ Least n ts p d
  | 0, h => ⟨0, Nat.le_refl _, h, fun e z => absurd z (Nat.not_lt_zero e)⟩
  | c + 1, h => by
    by_cases q : Hit n ts p c
    · obtain ⟨d, h1, h2⟩ := least_ex q
      exact ⟨d, by omega, h2⟩
    · exact ⟨c + 1, Nat.le_refl _, h, fun e he z => q (z.up c (by omega))⟩
theorem least_down {n p : Int} {ts : List Int} {c : Nat} (h : Least n ts p (c + 1)) : ∃ d : Int, Hit n ts ((p + d) % n) c ∧ Hit n ts ((p - d) % n) c ∧ (Least n ts ((p + d) % n) c ∨ Least n ts ((p - d) % n) c) := by
  obtain ⟨d, h1, h2⟩ := hit_split h.1
  refine ⟨d, h1, h2, Classical.byContradiction fun no => ?_⟩
  obtain ⟨a, a1, a2⟩ := least_ex h1
  obtain ⟨b, b1, b2⟩ := least_ex h2
  have ac : a < c := by
    rcases Nat.lt_or_eq_of_le a1 with z | z
    · exact z
    · exact absurd (.inl (z ▸ a2)) no
  have bc : b < c := by
    rcases Nat.lt_or_eq_of_le b1 with z | z
    · exact z
    · exact absurd (.inr (z ▸ b2)) no
  have := hit_mid (a2.1.up (c - 1) (by omega)) (b2.1.up (c - 1) (by omega))
  rw [show c - 1 + 1 = c by omega] at this
  exact h.2 c (Nat.lt_succ_self c) this
/-- if no place has the least number r + 1, none has a larger one -/
theorem least_gap {n : Int} {ts : List Int} {r : Nat} (n0 : 0 < n) (h : ∀ p, 0 ≤ p → p < n → ¬ Least n ts p (r + 1)) : ∀ (k : Nat) (p : Int), 0 ≤ p → p < n → ¬ Least n ts p (r + 1 + k)
  | 0, p, p0, p1 => h p p0 p1
  | k + 1, p, p0, p1 => fun z => by
    obtain ⟨d, _, _, q⟩ := least_down (c := r + 1 + k) z
    rcases q with q | q
    · exact least_gap n0 h k _ (Int.emod_nonneg _ (by omega)) (Int.emod_lt_of_pos _ n0) q
    · exact least_gap n0 h k _ (Int.emod_nonneg _ (by omega)) (Int.emod_lt_of_pos _ n0) q

/-- the numbers of the places, as the law's dict holds them -/
def lkI (fs : List (Int × Nat)) (p : Int) : Option Nat := (fs.find? fun f => decide (f.1 = p)).map fun f => f.2
theorem lk_app (fs gs : List (Int × Nat)) (p : Int) : lkI (fs ++ gs) p = if (lkI fs p).isSome = true then lkI fs p else lkI gs p := by
  unfold lkI
  rw [List.find?_append]
  cases fs.find? fun f => decide (f.1 = p) <;> rfl
theorem lk_at (r : Nat) (p : Int) : ∀ l : List Int, lkI (l.map fun q => (q, r)) p = if p ∈ l then some r else none
  | [] => rfl
  | a :: l => by
    have ih := lk_at r p l
    unfold lkI at ih ⊢
    rw [List.map_cons, List.find?_cons]
    by_cases c : a = p
    · rw [decide_eq_true c, if_pos (by rw [c]; exact List.mem_cons_self)]
      rfl
    · rw [decide_eq_false c]
      show (List.find? _ _).map _ = _
      rw [ih]
      by_cases m : p ∈ l
      · rw [if_pos m, if_pos (List.mem_cons_of_mem _ m)]
      · rw [if_neg m, if_neg fun z => (List.mem_cons.mp z).elim (fun z => c z.symm) m]
def placesI (n : Int) : List Int := (List.range n.toNat).map fun (i : Nat) => (i : Int)
theorem mem_places {n p : Int} : p ∈ placesI n ↔ 0 ≤ p ∧ p < n := by
  unfold placesI
  rw [List.mem_map]
  constructor
  · rintro ⟨i, hi, rfl⟩
    have := List.mem_range.mp hi
    omega
  · rintro ⟨h0, h1⟩
    exact ⟨p.toNat, List.mem_range.mpr (by omega), by omega⟩
theorem places_nodup (n : Int) : (placesI n).Nodup := by
  unfold placesI List.Nodup
  rw [List.pairwise_map]
  exact List.nodup_range.imp fun h z => h (by omega)
def bothI (n : Int) (fs : List (Int × Nat)) (p far : Int) : Bool := (lkI fs ((p + far) % n)).isSome && (lkI fs ((p - far) % n)).isSome
def freshI (n : Int) (fs : List (Int × Nat)) : List Int := (placesI n).filter fun p => !(lkI fs p).isSome && (placesI n).any (bothI n fs p)
structure UpI (n : Int) (ts : List Int) (fs : List (Int × Nat)) (r : Nat) : Prop where
  is : ∀ p d, lkI fs p = some d ↔ (0 ≤ p ∧ p < n) ∧ Least n ts p d ∧ d ≤ r
theorem UpI.hit {n : Int} {ts : List Int} {fs : List (Int × Nat)} {r : Nat} (u : UpI n ts fs r) {p : Int} (p0 : 0 ≤ p) (p1 : p < n) : (lkI fs p).isSome = true ↔ Hit n ts p r := by
  constructor
  · intro h
    obtain ⟨d, hd⟩ := Option.isSome_iff_exists.mp h
    obtain ⟨_, h1, h2⟩ := (u.is p d).mp hd
    exact h1.1.up r h2
  · intro h
    obtain ⟨d, h1, h2⟩ := least_ex h
    rw [(u.is p d).mpr ⟨⟨p0, p1⟩, h2, h1⟩]
    rfl
theorem UpI.fresh {n : Int} {ts : List Int} {fs : List (Int × Nat)} {r : Nat} (n0 : 0 < n) (u : UpI n ts fs r) {p : Int} : p ∈ freshI n fs ↔ (0 ≤ p ∧ p < n) ∧ Least n ts p (r + 1) := by
  have m0 : ∀ x : Int, 0 ≤ x % n ∧ x % n < n := fun x => ⟨Int.emod_nonneg _ (by omega), Int.emod_lt_of_pos _ n0⟩
  unfold freshI
  rw [List.mem_filter, mem_places, Bool.and_eq_true, List.any_eq_true]
  constructor
  · rintro ⟨⟨p0, p1⟩, h1, far, _, h2⟩
    unfold bothI at h2
    rw [Bool.and_eq_true] at h2
    have a1 := (u.hit (m0 _).1 (m0 _).2).mp h2.1
    have a2 := (u.hit (m0 _).1 (m0 _).2).mp h2.2
    refine ⟨⟨p0, p1⟩, hit_mid a1 a2, fun e he z => ?_⟩
    have := (u.hit p0 p1).mpr (z.up r (by omega))
    rw [this] at h1
    cases h1
  · rintro ⟨⟨p0, p1⟩, L⟩
    refine ⟨⟨p0, p1⟩, ?_, ?_⟩
    · cases e : (lkI fs p).isSome with
      | false => rfl
      | true => exact absurd ((u.hit p0 p1).mp e) (L.2 r (Nat.lt_succ_self r))
    · obtain ⟨d, h1, h2⟩ := hit_split L.1
      have e1 : (p + d % n) % n = (p + d) % n := emod_eq_iff.mpr (by
        have := emod_dvd d n
        exact (congrArg (n ∣ ·) (by omega)).mp this)
      have e2 : (p - d % n) % n = (p - d) % n := emod_eq_iff.mpr (by
        have := Int.dvd_neg.mpr (emod_dvd d n)
        exact (congrArg (n ∣ ·) (by omega)).mp this)
      refine ⟨d % n, mem_places.mpr (m0 d), ?_⟩
      unfold bothI
      rw [e1, e2, (u.hit (m0 _).1 (m0 _).2).mpr h1, (u.hit (m0 _).1 (m0 _).2).mpr h2]
      rfl
theorem UpI.step {n : Int} {ts : List Int} {fs : List (Int × Nat)} {r : Nat} (n0 : 0 < n) (u : UpI n ts fs r) : UpI n ts (fs ++ (freshI n fs).map fun q => (q, r + 1)) (r + 1) := ⟨fun p d => by
  rw [lk_app, lk_at]
  constructor
  · intro h
    split at h
    · obtain ⟨h1, h2, h3⟩ := (u.is p d).mp h
      exact ⟨h1, h2, by omega⟩
    · split at h
      · rename_i hm
        obtain ⟨h1, h2⟩ := (u.fresh n0).mp hm
        cases h
        exact ⟨h1, h2, Nat.le_refl _⟩
      · cases h
  · rintro ⟨⟨p0, p1⟩, L, hd⟩
    by_cases c : d ≤ r
    · have h := (u.is p d).mpr ⟨⟨p0, p1⟩, L, c⟩
      rw [h]
      rfl
    · obtain rfl : d = r + 1 := by omega
      have hm := (u.fresh n0).mpr ⟨⟨p0, p1⟩, L⟩
      rw [if_neg, if_pos hm]
      intro z
      exact L.2 r (Nat.lt_succ_self r) ((u.hit p0 p1).mp z)⟩
theorem UpI.done {n : Int} {ts : List Int} {fs : List (Int × Nat)} {r : Nat} (n0 : 0 < n) (u : UpI n ts fs r) (h : freshI n fs = []) {p : Int} {d : Nat} (p0 : 0 ≤ p) (p1 : p < n) : lkI fs p = some d ↔ Least n ts p d := by
  constructor
  · intro z
    exact ((u.is p d).mp z).2.1
  · intro L
    refine (u.is p d).mpr ⟨⟨p0, p1⟩, L, ?_⟩
    refine Classical.byContradiction fun no => ?_
    refine least_gap n0 (r := r) (fun q q0 q1 z => ?_) (d - (r + 1)) p p0 p1 (by rw [show r + 1 + (d - (r + 1)) = d by omega]; exact L)
    have := (u.fresh n0).mpr ⟨⟨q0, q1⟩, z⟩
    rw [h] at this
    cases this
theorem UpI.start {n : Int} {ts : List Int} (inr : ∀ t ∈ ts, 0 ≤ t ∧ t < n) : UpI n ts (ts.map fun t => (t, 0)) 0 := ⟨fun p d => by
  rw [lk_at]
  have key : 0 ≤ p → p < n → (Hit n ts p 0 ↔ p ∈ ts) := fun p0 p1 => by
    constructor
    · rintro ⟨v, ⟨l, h1, h2, h3⟩, dv⟩
      match l, h1 with
      | [t], _ =>
        have ht := h2 t List.mem_cons_self
        obtain ⟨t0, t1⟩ := inr t ht
        have : v = t := by rw [← h3]; simp
        subst this
        rw [Int.pow_zero, Int.one_mul] at dv
        have : v = p := by
          have h5 : v % n = p % n := emod_eq_iff.mpr dv
          rwa [Int.emod_eq_of_lt t0 t1, Int.emod_eq_of_lt p0 p1] at h5
        exact this ▸ ht
    · intro h
      exact ⟨p, ⟨[p], rfl, by simpa using h, by simp⟩, by simp⟩
  constructor
  · intro h
    split at h
    · rename_i hm
      cases h
      obtain ⟨p0, p1⟩ := inr p hm
      exact ⟨⟨p0, p1⟩, ⟨(key p0 p1).mpr hm, fun e he => absurd he (Nat.not_lt_zero e)⟩, Nat.le_refl _⟩
    · cases h
  · rintro ⟨⟨p0, p1⟩, L, hd⟩
    obtain rfl : d = 0 := by omega
    rw [if_pos ((key p0 p1).mp L.1)]⟩

/-! ### amounts by places, as sum_counts halves them -/
abbrev entZ (x : Int × Int) : Key × V := (Sum.inl x.1, V.int x.2)
def getA (A : List (Int × Int)) (k : Int) : Option Int := (A.find? fun x => decide (x.1 = k)).map fun x => x.2
def putA (A : List (Int × Int)) (k v : Int) : List (Int × Int) := if (A.any fun x => decide (x.1 = k)) = true then A.map (fun x => if x.1 = k then (x.1, v) else x) else A ++ [(k, v)]
def sumA (A : List (Int × Int)) : Int := (A.map fun x => x.2).sum
def momA (A : List (Int × Int)) : Int := (A.map fun x => x.1 * x.2).sum
theorem val_entZ (k : Int) : ∀ A : List (Int × Int), valV (A.map entZ) (.inl k) = (getA A k).map V.int
  | [] => rfl
  | f :: A => by
    have ih := val_entZ k A
    rw [List.map_cons]
    unfold getA at ih ⊢
    rw [List.find?_cons]
    by_cases c : f.1 = k
    · rw [valV_pos (show Sum.inl f.1 = Sum.inl k by rw [c]), decide_eq_true c]
      rfl
    · rw [valV_neg (fun z => c (Sum.inl.inj z)), ih, decide_eq_false c]
theorem put_entZ (A : List (Int × Int)) (k v : Int) : putK (A.map entZ) (.inl k) (V.int v) = (putA A k v).map entZ := by
  have e : ((A.map entZ).any fun kv => decide (kv.1 = (Sum.inl k : Key))) = A.any fun x => decide (x.1 = k) := by
    rw [List.any_map]
    congr 1
    funext x
    show decide ((Sum.inl x.1 : Key) = Sum.inl k) = decide (x.1 = k)
    by_cases c : x.1 = k
    · simp [c]
    · simp [c]
  unfold putK putA
  rw [e]
  by_cases c : (A.any fun x => decide (x.1 = k)) = true
  · rw [if_pos c, if_pos c, List.map_map, List.map_map]
    refine List.map_congr_left fun x _ => ?_
    show (if (Sum.inl x.1 : Key) = Sum.inl k then ((Sum.inl x.1 : Key), V.int v) else (Sum.inl x.1, V.int x.2)) = entZ (if x.1 = k then (x.1, v) else x)
    by_cases h : x.1 = k
    · rw [if_pos h, if_pos (by rw [h])]
    · rw [if_neg h, if_neg fun z => h (Sum.inl.inj z)]
  · rw [if_neg c, if_neg c, List.map_append]
    rfl
theorem any_key (A : List (Int × Int)) (k : Int) : (A.any fun x => decide (x.1 = k)) = true ↔ k ∈ A.map fun x => x.1 := by
  rw [List.any_eq_true, List.mem_map]
  constructor
  · rintro ⟨x, h1, h2⟩
    exact ⟨x, h1, of_decide_eq_true h2⟩
  · rintro ⟨x, h1, h2⟩
    exact ⟨x, h1, decide_eq_true h2⟩
theorem put_sum {k a : Int} : ∀ {A : List (Int × Int)}, (A.map fun x => x.1).Nodup → sumA (putA A k ((getA A k).getD 0 + a)) = sumA A + a ∧ momA (putA A k ((getA A k).getD 0 + a)) = momA A + k * a := by
  intro A nd
  by_cases c : (A.any fun x => decide (x.1 = k)) = true
  · have key : ∀ B : List (Int × Int), (B.map fun x => x.1).Nodup → k ∈ B.map (fun x => x.1) → ∀ v : Int, sumA (B.map fun x => if x.1 = k then (x.1, v) else x) = sumA B + (v - (getA B k).getD 0) ∧ momA (B.map fun x => if x.1 = k then (x.1, v) else x) = momA B + k * (v - (getA B k).getD 0) := fun B => by
      induction B with
      | nil => exact fun _ h => by simp at h
      | cons f B ih =>
        intro nd hm v
        rw [List.map_cons, List.nodup_cons] at nd
        unfold getA sumA momA at ih ⊢
        rw [List.find?_cons]
        by_cases h : f.1 = k
        · have no : ∀ x ∈ B, (if x.1 = k then (x.1, v) else x) = x := fun x hx => by
            rw [if_neg]
            intro z
            exact nd.1 (List.mem_map.mpr ⟨x, hx, z.trans h.symm⟩)
          rw [List.map_cons, if_pos h, List.map_congr_left no, List.map_id', decide_eq_true h]
          simp only [List.map_cons, List.sum_cons, Option.map_some, Option.getD_some]
          rw [h]
          constructor
          · omega
          · rw [Int.mul_sub]
            omega
        · have hm2 : k ∈ B.map fun x => x.1 := by
            rcases List.mem_cons.mp hm with z | z
            · exact absurd z.symm h
            · exact z
          obtain ⟨i1, i2⟩ := ih nd.2 hm2 v
          rw [List.map_cons, if_neg h, decide_eq_false h]
          simp only [List.map_cons, List.sum_cons]
          constructor
          · rw [i1]
            omega
          · rw [i2]
            omega
    obtain ⟨q1, q2⟩ := key A nd ((any_key A k).mp c) ((getA A k).getD 0 + a)
    unfold putA
    rw [if_pos c]
    exact ⟨by rw [q1]; omega, by rw [q2]; congr 1; congr 1; omega⟩
  · have g0 : getA A k = none := by
      unfold getA
      rw [Option.map_eq_none_iff, List.find?_eq_none]
      intro x hx z
      exact c (List.any_eq_true.mpr ⟨x, hx, z⟩)
    unfold putA
    rw [if_neg c, g0]
    unfold sumA momA
    simp
theorem put_keys {A : List (Int × Int)} {k v : Int} (nd : (A.map fun x => x.1).Nodup) : ((putA A k v).map fun x => x.1).Nodup ∧ (∀ x ∈ putA A k v, x.1 = k ∧ x.2 = v ∨ x ∈ A) := by
  unfold putA
  by_cases c : (A.any fun x => decide (x.1 = k)) = true
  · rw [if_pos c]
    constructor
    · rw [List.map_map, show ((fun x : Int × Int => x.1) ∘ fun x => if x.1 = k then (x.1, v) else x) = fun x => x.1 from by
        funext x
        show (if x.1 = k then (x.1, v) else x).1 = x.1
        split <;> rfl]
      exact nd
    · intro x hx
      obtain ⟨y, hy, rfl⟩ := List.mem_map.mp hx
      by_cases h : y.1 = k
      · rw [if_pos h]
        exact .inl ⟨h, rfl⟩
      · rw [if_neg h]
        exact .inr hy
  · rw [if_neg c]
    constructor
    · rw [List.map_append, List.nodup_append]
      refine ⟨nd, by simp, fun a ha b hb z => ?_⟩
      have hb2 : b = k := by simpa using hb
      exact c ((any_key A k).mpr (by rw [← hb2, ← z]; exact ha))
    · intro x hx
      rcases List.mem_append.mp hx with h | h
      · exact .inr h
      · rw [List.mem_singleton.mp h]
        exact .inl ⟨rfl, rfl⟩
theorem getA_mem {A : List (Int × Int)} {k v : Int} (h : getA A k = some v) : (k, v) ∈ A := by
  unfold getA at h
  obtain ⟨x, h1, h2⟩ := Option.map_eq_some_iff.mp h
  have h3 := List.mem_of_find?_eq_some h1
  have h4 := List.find?_some h1
  have h5 : x.1 = k := of_decide_eq_true h4
  rw [← h5, ← h2]
  exact h3
/-- amounts on places of a set: their sum, and their sum weighted by the places -/
structure AOk (n B : Nat) (A : List (Int × Int)) (t m : Int) : Prop where
  nod : (A.map fun x => x.1).Nodup
  ok : ∀ x ∈ A, 0 ≤ x.1 ∧ x.1 < n ∧ B.testBit x.1.toNat = true ∧ 0 ≤ x.2
  sum : sumA A = t
  mom : (n : Int) ∣ momA A - m
theorem AOk.put {n B : Nat} {A : List (Int × Int)} {t m k a : Int} (h : AOk n B A t m) (k0 : 0 ≤ k) (k1 : k < n) (kb : B.testBit k.toNat = true) (a0 : 0 ≤ a) : AOk n B (putA A k ((getA A k).getD 0 + a)) (t + a) (m + k * a) := by
  obtain ⟨s1, s2⟩ := put_sum (k := k) (a := a) h.nod
  obtain ⟨p1, p2⟩ := put_keys (k := k) (v := (getA A k).getD 0 + a) h.nod
  have g0 : 0 ≤ (getA A k).getD 0 := by
    cases e : getA A k with
    | none => exact Int.le_refl _
    | some v => exact (h.ok _ (getA_mem e)).2.2.2
  refine ⟨p1, fun x hx => ?_, by rw [s1, h.sum], ?_⟩
  · rcases p2 x hx with ⟨e1, e2⟩ | hx
    · rw [e1, e2]
      exact ⟨k0, k1, kb, by omega⟩
    · exact h.ok x hx
  · rw [s2]
    exact (congrArg ((n : Int) ∣ ·) (by omega)).mp h.mom
theorem AOk.len {n B : Nat} {A : List (Int × Int)} {t m : Int} (h : AOk n B A t m) : A.length ≤ n := by
  have := List.Nodup.length_le_of_subset h.nod (l₂ := (List.range n).map fun (i : Nat) => (i : Int)) fun p hp => by
    obtain ⟨x, hx, rfl⟩ := List.mem_map.mp hp
    obtain ⟨h1, h2, _⟩ := h.ok x hx
    exact List.mem_map.mpr ⟨x.1.toNat, List.mem_range.mpr (by omega), by omega⟩
  simpa using this
theorem AOk.to {n B : Nat} {A : List (Int × Int)} {t u m r : Int} (h : AOk n B A t m) (e : t = u) (d : (n : Int) ∣ m - r) : AOk n B A u r := ⟨h.nod, h.ok, h.sum.trans e, by
  have := Int.dvd_add h.mom d
  exact (congrArg ((n : Int) ∣ ·) (by omega)).mp this⟩

theorem and_cast (a b : Nat) : Builtin.bitAnd (a : Int) (b : Int) = ((a &&& b : Nat) : Int) := by
  unfold Builtin.bitAnd
  simp
theorem low_bit {W : Nat} (h : 0 < W) : ∃ j, Builtin.bitAnd (W : Int) (-(W : Int)) = 2 ^ j ∧ W.testBit j = true := by
  obtain ⟨j, a, e⟩ := odd_split W (W : Int) (by omega) (by simp)
  refine ⟨j, ?_, ?_⟩
  · rw [e]
    exact PySem.W.kbt_low j a
  · have p2 : (0 : Int) < 2 ^ j := Int.pow_pos (by decide)
    have a0 : 0 ≤ a := by
      refine Classical.byContradiction fun no => ?_
      have : (2 : Int) ^ j * (2 * a + 1) ≤ 2 ^ j * 0 := Int.mul_le_mul_of_nonneg_left (by omega) (by omega)
      omega
    have e2 : W = 2 ^ j * (2 * a.toNat + 1) := by
      have h2 : ((2 ^ j * (2 * a.toNat + 1) : Nat) : Int) = 2 ^ j * (2 * a + 1) := by
        rw [Int.natCast_mul, Int.natCast_pow, Int.natCast_add, Int.natCast_mul, Int.toNat_of_nonneg a0]
        rfl
      have : ((2 ^ j * (2 * a.toNat + 1) : Nat) : Int) = (W : Int) := h2.trans e.symm
      omega
    rw [Nat.testBit_eq_decide_div_mod_eq, e2, Nat.mul_div_cancel_left _ (Nat.pow_pos (by decide))]
    exact decide_eq_true (by omega)
theorem bits_pow (j : Nat) : Builtin.Int.intBits (2 ^ j) = j + 1 := by
  unfold Builtin.Int.intBits
  have h : (2 ^ j : Int).natAbs = 2 ^ j := by rw [Int.natAbs_pow]; rfl
  have p2 : (0 : Int) < 2 ^ j := Int.pow_pos (by decide)
  rw [if_neg (by simp; omega), h, Nat.log2_two_pow]
/-- the places mirrored -/
def mirN (n B : Nat) : List Int := ((List.range n).filter fun p => B.testBit p).map fun (p : Nat) => (-(p : Int)) % n
theorem mir_bit {n B q : Nat} : (bitsN (mirN n B)).testBit q = true ↔ ∃ p, p < n ∧ B.testBit p = true ∧ ((-(p : Int)) % n).toNat = q := by
  rw [bits_bit]
  unfold mirN
  constructor
  · rintro ⟨t, ht, e⟩
    obtain ⟨p, hp, rfl⟩ := List.mem_map.mp ht
    obtain ⟨h1, h2⟩ := List.mem_filter.mp hp
    exact ⟨p, List.mem_range.mp h1, h2, e⟩
  · rintro ⟨p, h1, h2, h3⟩
    exact ⟨_, List.mem_map.mpr ⟨p, List.mem_filter.mpr ⟨List.mem_range.mpr h1, h2⟩, rfl⟩, h3⟩
theorem mir_lt {n B : Nat} (n0 : 0 < n) : ∀ t ∈ mirN n B, 0 ≤ t ∧ t < (n : Int) := fun t ht => by
  obtain ⟨p, _, rfl⟩ := List.mem_map.mp ht
  exact ⟨Int.emod_nonneg _ (by omega), Int.emod_lt_of_pos _ (by omega)⟩
/-- the first of a pair of places with a given sum -/
theorem pair_of {n B t : Nat} (n0 : 0 < n) (hB : B < 2 ^ n) (ht : (dblN n B).testBit t = true) : ∃ j, Builtin.bitAnd ((B &&& rotN n (bitsN (mirN n B)) t : Nat) : Int) (-((B &&& rotN n (bitsN (mirN n B)) t : Nat) : Int)) = 2 ^ j ∧ j < n ∧ B.testBit j = true ∧ B.testBit (((t : Int) - j) % n).toNat = true := by
  have hM : bitsN (mirN n B) < 2 ^ n := bits_lt fun x hx => by
    have := mir_lt (B := B) n0 x hx
    omega
  obtain ⟨tn, a, b, an, bn, ha, hb, e⟩ := (dbl_bit hB).mp ht
  have rot : ∀ q, (rotN n (bitsN (mirN n B)) t).testBit q = true ↔ q < n ∧ ∃ p, p < n ∧ B.testBit p = true ∧ ((t : Int) - q) % n = p := fun q => by
    rw [rot_bit hM tn]
    constructor
    · rintro ⟨h1, x, xn, hx, ex⟩
      obtain ⟨p, pn, hp, ep⟩ := mir_bit.mp hx
      refine ⟨h1, p, pn, hp, ?_⟩
      have e1 : (x : Int) = (-(p : Int)) % n := by
        rw [← ep]
        exact Int.toNat_of_nonneg (Int.emod_nonneg _ (by omega))
      have e2 : ((x : Int) + t) % n = q := by
        have := congrArg (fun z : Nat => (z : Int)) ex
        simpa using this
      have e3 : ((t : Int) - q) % n = (p : Int) % n := by
        refine emod_eq_iff.mpr ?_
        have h2 : (n : Int) ∣ ((x : Int) + t) - q := by
          rw [← e2]
          have := Int.dvd_neg.mpr (emod_dvd ((x : Int) + t) (n : Int))
          exact (congrArg ((n : Int) ∣ ·) (by omega)).mp this
        have h3 : (n : Int) ∣ (x : Int) - (-(p : Int)) := by
          rw [e1]
          exact emod_dvd _ _
        have := Int.dvd_sub h2 h3
        exact (congrArg ((n : Int) ∣ ·) (by omega)).mp this
      rw [e3, Int.emod_eq_of_lt (by omega) (by omega)]
    · rintro ⟨h1, p, pn, hp, ep⟩
      refine ⟨h1, ((-(p : Int)) % n).toNat, ?_, mir_bit.mpr ⟨p, pn, hp, rfl⟩, ?_⟩
      · have h2 := Int.emod_nonneg (-(p : Int)) (show (n : Int) ≠ 0 by omega)
        have h3 := Int.emod_lt_of_pos (-(p : Int)) (show (0 : Int) < n by omega)
        omega
      · have e1 : ((((-(p : Int)) % n).toNat : Nat) : Int) = (-(p : Int)) % n := Int.toNat_of_nonneg (Int.emod_nonneg _ (by omega))
        have e2 : (((((-(p : Int)) % n).toNat + t) % n : Nat) : Int) = (q : Int) := by
          rw [Int.natCast_emod, Int.natCast_add, e1]
          have h2 : ((-(p : Int)) % n + t) % n = (q : Int) % n := by
            refine emod_eq_iff.mpr ?_
            have h3 := emod_dvd (-(p : Int)) (n : Int)
            have h4 : (n : Int) ∣ ((t : Int) - q) - p := by
              rw [← ep]
              have := Int.dvd_neg.mpr (emod_dvd ((t : Int) - q) (n : Int))
              exact (congrArg ((n : Int) ∣ ·) (by omega)).mp this
            have := Int.dvd_add h3 h4
            exact (congrArg ((n : Int) ∣ ·) (by omega)).mp this
          rw [h2, Int.emod_eq_of_lt (by omega) (by omega)]
        omega
  have both : (B &&& rotN n (bitsN (mirN n B)) t).testBit a = true := by
    rw [Nat.testBit_and, ha, Bool.true_and]
    refine (rot a).mpr ⟨an, b, bn, hb, ?_⟩
    have h2 : ((t : Int) - a) % n = (b : Int) % n := by
      refine emod_eq_iff.mpr ?_
      have e2 : ((a : Int) + b) % n = t := by
        have := congrArg (fun z : Nat => (z : Int)) e
        simpa using this
      rw [← e2]
      have := emod_dvd ((a : Int) + b) (n : Int)
      exact (congrArg ((n : Int) ∣ ·) (by omega)).mp this
    rw [h2, Int.emod_eq_of_lt (by omega) (by omega)]
  have W0 : 0 < B &&& rotN n (bitsN (mirN n B)) t := by
    refine Nat.pos_of_ne_zero fun z => ?_
    rw [z] at both
    simp at both
  obtain ⟨j, j1, j2⟩ := low_bit W0
  rw [Nat.testBit_and, Bool.and_eq_true] at j2
  obtain ⟨jn, p, pn, hp, ep⟩ := (rot j).mp j2.2
  exact ⟨j, j1, jn, j2.1, by rw [ep]; simpa using hp⟩
def CntZ (H : Hp) (d : Addr) (A : List (Int × Int)) : Prop := H d = some (.dK (A.map entZ))
theorem cnt_getZ {H : Hp} {d : Addr} {A : List (Int × Int)} (k : Int) (h : CntZ H d A) : DGet H d (.int k) ((getA A k).map V.int) := by
  rw [← val_entZ]
  exact DGet.k (k := .inl k) h
/-- the amounts of a place split in two -/
def addA (ga : Int) (F : List (Int × Int)) (k : Int) : List (Int × Int) := putA F k ((getA F k).getD 0 + ga)
def splitA (n B : Nat) (F : List (Int × Int)) (g : Int × Int) : List (Int × Int) :=
  let W := Builtin.bitAnd (B : Int) (rotN n (bitsN (mirN n B)) g.1.toNat : Nat)
  let j := (Builtin.Int.intBits (Builtin.bitAnd W (-W)) : Int) - 1
  [j, (g.1 - j) % n].foldl (addA g.2) F
def halvedF (n B : Nat) (A : List (Int × Int)) : List (Int × Int) := A.foldl (splitA n B) []
theorem fold_more {α β : Type} {f : β → α → β} {b : β} {l : List α} {i : Nat} {x : α} (h : l[i]? = some x) : (l.take (i + 1)).foldl f b = f ((l.take i).foldl f b) x := by
  obtain ⟨h1, h2⟩ := List.getElem?_eq_some_iff.mp h
  rw [List.take_succ_eq_append_getElem h1, List.foldl_append, h2]
  rfl
theorem getZ (o : Option Int) : (o.map V.int).getD (.int 0) = V.int (o.getD 0) := by cases o <;> rfl
section
variable {P : Program} {w : World} {K : PySem.W.Frag} {mg : Str → Option Value} {base : Heap}
def sp_halved : Sp := fun vs H Q _ => ∃ (n B : Nat) (d : Addr) (A : List (Int × Int)) (t m : Int), vs = [.int n, .int B, .ref d] ∧ 0 < n ∧ n ≤ 2000 ∧ B < 2 ^ n ∧ CntZ H d A ∧ AOk n (dblN n B) A t m ∧
  ∀ (p : Addr) (A2 : List (Int × Int)) H2, Ex H H2 → H p = none → CntZ H2 p A2 → A2 = halvedF n B A → AOk n B A2 (2 * t) m → Q (.ref p) H2
theorem ok_halved (T : TX K mg) : FnOk P w K mg base CX0 2 T.f_halved T.fd_halved ["size", "bits", "amounts"] sp_halved := by
  refine T.F_halved.ok sc_halved (fun vs H Q E h => ?_) (fun cdv A outer s H vs Q E hr h => ?_)
  · obtain ⟨n, B, d, A, t, m, rfl, _⟩ := h
    rfl
  · obtain ⟨n, B, d, A, t, m, rfl, n0, n2, hB, hd, ok, k⟩ := h
    refine ⟨_, (pss_cons (ps_set (i := 3) sc_halved.nd rfl (Or.inl rfl) (pe_call (ok_bits_of T) hr rfl T.m_bits_of T.F_bits_of.kp T.b_bits_of .nil pass0 (pa_cons (pe_lc (own := [("place", 9)]) (g := (gName 9)) rfl sc_halved.nd (pi_range1 rfl T.z_range (pa_cons (pv 0) pa_nil)) (blkOk_by (N := N_halved) (sc := defScope s_halved) (by decide +kernel)) (fun _ _ _ _ _ => (pg_name (i := 9) sc_halved.nd rfl (Or.inl rfl))) (fun _ _ _ _ _ => (pts_one (pt_cmpR op_eq (pe_op op_and (pe_op op_shr (pv 1) (pv 9)) pe_int) pe_int (nomark _)))) (fun _ _ _ _ _ => (pe_op op_mod (pe_un un_neg (pv 9)) (pv 0)))) pa_nil))) (pss_cons (ps_set (i := 4) sc_halved.nd rfl (Or.inl rfl) pe_dnewK) (pss_cons (ps_lock (ps_for PassesOwn.never rfl (pi_items (pv 2)) (pg_tup rfl (pgs_cons (pg_name (i := 5) sc_halved.nd rfl (Or.inl rfl)) (pgs_cons (pg_name (i := 6) sc_halved.nd rfl (Or.inl rfl)) pgs_nil))) (pss_cons (ps_set (i := 7) sc_halved.nd rfl (Or.inl rfl) (pe_op op_and (pv 1) (pe_call (ok_rotated T) hr rfl T.m_rotated T.F_rotated.kp T.b_rotated .nil pass0 (pa_cons (pv 0) (pa_cons (pv 3) (pa_cons (pv 5) pa_nil)))))) (pss_cons (ps_set (i := 8) sc_halved.nd rfl (Or.inl rfl) (pe_op op_sub (pe_bits (pe_op op_and (pv 7) (pe_un un_neg (pv 7)))) pe_int)) (pss_one (ps_for PassesOwn.never rfl (pi_tup (pe_tup (pa_cons (pv 8) (pa_cons (pe_op op_mod (pe_op op_sub (pv 5) (pv 8)) (pv 0)) pa_nil)))) (pg_name (i := 9) sc_halved.nd rfl (Or.inl rfl)) (pss_one (ps_dput (hu_of hr) (pv 4) (pv 9) (pe_op op_add (pe_dget2 (hu_of hr) (pv 4) (pv 9) pe_int ⟨rfl, rfl, rfl, rfl⟩) (pv 6)) (by rfl))))))))) (pss_one (ps_ret (pv 4)))))), ?_⟩
    refine ⟨_, rfl, n, rfl, by omega, by omega, fun D hD => ?_⟩
    refine lc_filt walk_range (List.range n) (fun p => B.testBit p) (fun p => V.int ((-(p : Int)) % n)) (by rw [List.length_range]; omega) (by omega) hD (fun _ _ => True.intro) ?_ ?_
    · rintro i x p Hx _ R S hp ex ⟨rfl, hx⟩ kR kS
      obtain rfl : x = .int (i : Int) := hx.trans (congrArg V.int (Int.zero_add _))
      obtain ⟨_, e⟩ := List.getElem?_eq_some_iff.mp hp
      rw [List.getElem_range] at e
      subst e
      have eb : Builtin.bitAnd ((B : Int) / 2 ^ (i : Int).toNat) 1 = if B.testBit i = true then 1 else 0 := by rw [Int.toNat_natCast, shr_cast, bit_cast]
      refine ⟨rfl, _, rfl, _, rfl, _, _, rfl, rfl, (by show (0 : Int) ≤ (i : Int); omega), _, _, rfl, rfl, rfl, _, rfl, ?_⟩
      by_cases h : B.testBit i = true
      · refine itt (by show decide (V.int (Builtin.bitAnd ((B : Int) / 2 ^ (i : Int).toNat) 1) = V.int 1) = true; rw [eb, dec_int, if_pos h]; rfl) ?_
        refine ⟨_, rfl, _, rfl, _, rfl, _, _, rfl, rfl, (by show (0 : Int) < (n : Int); omega), kR _ _ exr h rfl⟩
      · exact itf (by show decide (V.int (Builtin.bitAnd ((B : Int) / 2 ^ (i : Int).toNat) 1) = V.int 1) = false; rw [eb, dec_int, if_neg h]; rfl) (kS _ exr (by simpa using h))
    intro H1 e1 hD1
    have eM : ((List.range n).filter fun p => B.testBit p).map (fun (p : Nat) => V.int ((-(p : Int)) % n)) = (mirN n B).map V.int := by
      unfold mirN
      rw [List.map_map]
      rfl
    rw [eM] at hD1
    refine ⟨(false, D), mirN n B, rfl, hD1, fun x hx => ⟨(mir_lt n0 x hx).1, by have := (mir_lt n0 x hx).2; omega⟩, ?_⟩
    dsimp only [gName]
    refine fun f hf => ?_
    try dsimp only [gName]
    have fd : f ≠ d := fun z => by
      rw [z, e1 _ _ hd] at hf
      cases hf
    refine ⟨d, _, (exn (o := .dK []) hf) _ _ (e1 _ _ hd), True.intro, fun od => ?_⟩
    generalize hG1 : upd (upd H1 f (.dK [])) d _ = H3
    have hd3 : H3 d = some (.frz od (.dK (A.map entZ))) := by rw [← hG1]; exact upd_same
    have hf3 : H3 f = some (.dK []) := by rw [← hG1, upd_ne fd]; exact upd_same
    refine ⟨_, rfl, d, od, _, rfl, hd3, ?_⟩
    refine for_it walk_items (fun i σ Hx => ∃ (y5 y6 y7 y8 y9 : Option V) (F : List (Int × Int)), σ = [some (.int n), some (.int B), some (.ref d), some (.int (bitsN (mirN n B) : Nat)), some (.ref f), y5, y6, y7, y8, y9] ∧ Hx f = some (.dK (F.map entZ)) ∧ F = (A.take i).foldl (splitA n B) [] ∧ AOk n B F (2 * sumA (A.take i)) (momA (A.take i)) ∧ XB f H3 Hx) ⟨_, _, _, _, _, [], rfl, hf3, rfl, ⟨by simp, by simp, by simp [sumA], by simp [momA]⟩, fun _ _ _ z => z⟩ (fun i σ Hx _ ⟨_, _, _, _, _, _, _, _, _, _, xb⟩ => xb _ _ fd.symm hd3) ?_ ?_
    · rintro i x σ Hx Hx2 hi ⟨y5, y6, y7, y8, y9, F, rfl, hfx, eF, okF, xb⟩ ⟨Ta, kk, vv, rfl, hTa, rfl, hk, hv⟩
      have hi2 : i < A.length := by
        have : i < (A.map entZ).length := hi
        rwa [List.length_map] at this
      obtain ⟨g, hA⟩ : ∃ e, A[i]? = some e := ⟨_, List.getElem?_eq_getElem hi2⟩
      replace hk : ((A.map entZ)[i]?.map fun kv => kV kv.1) = some kk := hk
      replace hv : ((A.map entZ)[i]?.map Prod.snd) = some vv := hv
      rw [List.getElem?_map, hA] at hk hv
      obtain rfl := Option.some.inj hk
      obtain rfl := Option.some.inj hv
      obtain ⟨t0, t1, tb, a0⟩ := ok.ok g (List.mem_of_getElem? hA)
      obtain ⟨gt, ga⟩ := g
      dsimp only at t0 t1 tb a0
      obtain ⟨u, rfl⟩ : ∃ u : Nat, gt = (u : Int) := ⟨gt.toNat, by omega⟩
      rw [Int.toNat_natCast] at tb
      obtain ⟨j, ej, jn, jb, ob⟩ := pair_of n0 hB tb
      have eT := exn (o := .tup [V.int (u : Int), V.int ga]) hTa
      refine ⟨Ta, _, rfl, SqT.of upd_same, rfl, _, _, rfl, _, _, rfl, rfl, ?_⟩
      try dsimp only [gName]
      have hM : bitsN (mirN n B) < 2 ^ n := bits_lt fun x hx => by
        have := mir_lt (B := B) n0 x hx
        omega
      refine ⟨_, rfl, _, rfl, _, rfl, _, rfl, n, bitsN (mirN n B), u, rfl, n2, hM, by omega, _, _, rfl, rfl, ?_⟩
      try dsimp only [gName]
      rw [and_cast]
      refine ⟨_, rfl, _, rfl, _, rfl, _, _, rfl, rfl, _, rfl, ?_⟩
      dsimp only
      rw [ej, bits_pow]
      refine ⟨_, _, rfl, rfl, ?_⟩
      try dsimp only [gName]
      have ef : (((j + 1 : Nat) : Int) - 1) = (j : Int) := by omega
      rw [ef]
      refine ⟨_, rfl, _, rfl, _, rfl, _, _, rfl, rfl, _, rfl, _, _, rfl, rfl, (by show (0 : Int) < (n : Int); omega), slen rfl, ?_⟩
      (intro tp ntp; generalize hGtp : upd _ tp _ = H5; have eH5 := exG hGtp ntp; have htp := atG hGtp; clear hGtp)
      have E5 := ext eT eH5
      have tpf : tp ≠ f := (ne_of_none (eT _ _ hfx) ntp).symm
      refine ⟨tp, rfl, ⟨_, SqT.of htp⟩, ?_⟩
      have o1 := Int.emod_lt_of_pos ((u : Int) - j) (show (0 : Int) < (n : Int) by omega)
      have o0 := Int.emod_nonneg ((u : Int) - j) (show (n : Int) ≠ 0 by omega)
      refine for_it (walk_tup (xs := [V.int (j : Int), V.int (((u : Int) - j) % n)])) (fun i2 σ Hy => ∃ (y9 : Option V) (F2 : List (Int × Int)), σ = [some (.int n), some (.int B), some (.ref d), some (.int (bitsN (mirN n B) : Nat)), some (.ref f), some (.int u), some (.int ga), some (.int ((B &&& rotN n (bitsN (mirN n B)) u : Nat) : Int)), some (.int j), y9] ∧ Hy f = some (.dK (F2.map entZ)) ∧ F2 = (([(j : Int), ((u : Int) - j) % n]).take i2).foldl (addA ga) F ∧ AOk n B F2 (2 * sumA (A.take i) + i2 * ga) (momA (A.take i) + ((([(j : Int), ((u : Int) - j) % n]).take i2).map fun z => z * ga).sum) ∧ XB f H5 Hy) ⟨_, F, rfl, E5 _ _ hfx, rfl, by simpa using okF, fun _ _ _ z => z⟩ (fun _ _ Hy _ ⟨_, _, _, _, _, _, xy⟩ => SqT.of (xy _ _ tpf htp)) ?_ ?_
      · rintro i2 x σ Hy _ hi2 ⟨y9, F2, rfl, hfy, eF2, ok2, xy⟩ ⟨rfl, hx⟩
        obtain ⟨pl, hpl, rfl⟩ := map_get (show ([(j : Int), ((u : Int) - j) % n].map V.int)[i2]? = some x from hx)
        have hp : 0 ≤ pl ∧ pl < n ∧ B.testBit pl.toNat = true := by
          have := List.mem_of_getElem? hpl
          rcases List.mem_cons.mp this with z | z
          · rw [z]
            exact ⟨by omega, by omega, by rw [Int.toNat_natCast]; exact jb⟩
          · rw [List.mem_singleton.mp z]
            exact ⟨o0, o1, ob⟩
        try dsimp only [gName]
        refine ⟨_, rfl, f, rfl, .inl ⟨_, .inl hfy⟩, _, rfl, _, DGet.k (k := .inl pl) hfy, ?_⟩
        rw [val_entZ, getZ]
        have l2 := ok2.len
        refine ⟨_, rfl, _, _, rfl, rfl, _, rfl, _, rfl, f, _, rfl, DPut.k (k := .inl pl) hfy (by rw [List.length_map]; exact Nat.lt_of_le_of_lt (Nat.le_trans l2 n2) (by decide)), ?_⟩
        rw [put_entZ]
        refine ⟨_, _, rfl, upd_same, by rw [fold_more hpl, ← eF2]; rfl, (ok2.put hp.1 hp.2.1 hp.2.2 a0).to ?_ ?_, xy.trans XB.upd⟩
        · rw [Int.natCast_add, Int.add_mul]
          omega
        · refine ⟨0, ?_⟩
          rw [take_more hpl, List.map_append, List.sum_append]
          simp
          omega
      · rintro σ Hy ⟨y9, F2, rfl, hfy, eF2, ok2, xy⟩
        have eS : F2 = splitA n B F ((u : Int), ga) := by
          rw [eF2]
          unfold splitA
          dsimp only
          rw [Int.toNat_natCast, and_cast, ej, bits_pow, ef]
          rfl
        refine ⟨_, _, _, _, _, F2, rfl, hfy, by rw [fold_more hA, ← eF]; exact eS, ok2.to ?_ ?_, xb.trans ((XB.of E5).trans xy)⟩
        · rw [take_more hA]
          unfold sumA
          rw [List.map_append, List.sum_append]
          simp
          omega
        · rw [take_more hA]
          unfold momA
          rw [List.map_append, List.sum_append]
          have hd := Int.dvd_trans (emod_dvd ((u : Int) - j) n) (Int.dvd_mul_right _ ga)
          rw [Int.sub_mul, Int.sub_mul] at hd
          refine (congrArg ((n : Int) ∣ ·) ?_).mp hd
          simp
          omega
    · rintro σ Hx ⟨y5, y6, y7, y8, y9, F, rfl, hfx, eF, okF, xb⟩
      refine ⟨xb _ _ fd.symm hd3, _, rfl, ?_⟩
      rw [show A.take (A.map entZ).length = A by rw [List.length_map]; exact List.take_length ..] at okF eF
      have nf : H f = none := by
        cases z : H f with
        | none => rfl
        | some o => rw [e1 _ _ z] at hf; cases hf
      refine k f F _ (fun c o z => ?_) nf (by show upd Hx d _ f = _; rw [upd_ne fd]; exact hfx) eF (okF.to (by rw [ok.sum]) ok.mom)
      by_cases cd : c = d
      · subst cd
        rw [upd_same]
        exact hd.symm.trans z
      · rw [upd_ne cd]
        have cf : c ≠ f := fun y => by rw [y, nf] at z; cases z
        refine xb _ _ cf ?_
        rw [← hG1, upd_ne cd, upd_ne cf]
        exact e1 _ _ z
end

def wsum (ws xs : List Int) : Int := (List.zipWith (fun w x => w * x) ws xs).sum

/-- the amounts of the targets, in their order -/
theorem at_sum {k v : Int} : ∀ {ts : List Int}, ts.Nodup → k ∈ ts → (ts.map fun t => if t = k then v else 0).sum = v
  | [], _, h => by cases h
  | t :: ts, nd, h => by
    rw [List.nodup_cons] at nd
    rw [List.map_cons, List.sum_cons]
    by_cases c : t = k
    · subst c
      rw [if_pos rfl, List.map_congr_left (g := fun _ => (0 : Int)) fun x hx => by
        rw [if_neg]
        rintro rfl
        exact nd.1 hx]
      have : ∀ l : List Int, (l.map fun _ => (0 : Int)).sum = 0 := fun l => by
        induction l with
        | nil => rfl
        | cons a l ih => rw [List.map_cons, List.sum_cons, ih]; rfl
      rw [this]
      omega
    · rcases List.mem_cons.mp h with z | z
      · exact absurd z.symm c
      · rw [if_neg c, at_sum nd.2 z]
        omega
theorem map_add (f g : Int → Int) : ∀ l : List Int, (l.map fun t => f t + g t).sum = (l.map f).sum + (l.map g).sum
  | [] => rfl
  | t :: l => by
    rw [List.map_cons, List.sum_cons, List.map_cons, List.sum_cons, List.map_cons, List.sum_cons, map_add f g l]
    omega
theorem map_zero (l : List Int) : (l.map fun _ => (0 : Int)).sum = 0 := by
  induction l with
  | nil => rfl
  | cons a l ih => rw [List.map_cons, List.sum_cons, ih]; rfl
theorem get_sums {ts : List Int} (nd : ts.Nodup) : ∀ {A : List (Int × Int)}, (A.map fun x => x.1).Nodup → (∀ x ∈ A, x.1 ∈ ts) → (ts.map fun t => (getA A t).getD 0).sum = sumA A ∧ (ts.map fun t => (getA A t).getD 0 * t).sum = momA A
  | [], _, _ => ⟨by
    show (ts.map fun _ => (0 : Int)).sum = 0
    exact map_zero ts, by
    rw [List.map_congr_left (g := fun _ => (0 : Int)) fun x _ => by
      show (0 : Int) * x = 0
      rw [Int.zero_mul]]
    exact map_zero ts⟩
  | (k, v) :: A, na, h => by
    rw [List.map_cons, List.nodup_cons] at na
    obtain ⟨i1, i2⟩ := get_sums nd na.2 fun x hx => h x (List.mem_cons_of_mem _ hx)
    have hk : k ∈ ts := h _ List.mem_cons_self
    have g0 : getA A k = none := by
      unfold getA
      rw [Option.map_eq_none_iff, List.find?_eq_none]
      intro x hx z
      exact na.1 (List.mem_map.mpr ⟨x, hx, of_decide_eq_true z⟩)
    have e : ∀ t, (getA ((k, v) :: A) t).getD 0 = (if t = k then v else 0) + (getA A t).getD 0 := fun t => by
      by_cases c : t = k
      · subst c
        rw [g0, if_pos rfl]
        unfold getA
        rw [List.find?_cons, decide_eq_true rfl]
        show v = v + 0
        omega
      · rw [if_neg c]
        unfold getA
        rw [List.find?_cons, decide_eq_false (fun z => c z.symm)]
        show _ = 0 + _
        rw [Int.zero_add]
    constructor
    · rw [List.map_congr_left (g := fun t => (if t = k then v else 0) + (getA A t).getD 0) fun t _ => e t, map_add, at_sum nd hk, i1]
      unfold sumA
      rw [List.map_cons, List.sum_cons]
    · rw [List.map_congr_left (g := fun t => (if t = k then k * v else 0) + (getA A t).getD 0 * t) fun t _ => by
        rw [e, Int.add_mul]
        congr 1
        by_cases c : t = k
        · rw [if_pos c, if_pos c, c, Int.mul_comm]
        · rw [if_neg c, if_neg c, Int.zero_mul], map_add (fun t => if t = k then k * v else 0), at_sum nd hk, i2]
      unfold momA
      rw [List.map_cons, List.sum_cons]
theorem pos_le_sum {A : List (Int × Int)} (h : ∀ x ∈ A, 0 ≤ x.2) : (0 ≤ sumA A) ∧ ∀ x ∈ A, x.2 ≤ sumA A := by
  induction A with
  | nil => exact ⟨Int.le_refl _, fun x hx => by cases hx⟩
  | cons a A ih =>
    obtain ⟨i1, i2⟩ := ih fun x hx => h x (List.mem_cons_of_mem _ hx)
    have ha := h a List.mem_cons_self
    unfold sumA at i1 i2 ⊢
    rw [List.map_cons, List.sum_cons]
    refine ⟨by omega, fun x hx => ?_⟩
    rcases List.mem_cons.mp hx with z | z
    · rw [z]
      omega
    · have := i2 x z
      omega
theorem cut_last (f : Nat → V) (c : Nat) : cutV ((List.range (c + 1)).map f) none (some (-1)) = (List.range c).map f := by
  have e : HT.sIx (c + 1) (c + 1) (some (-1)) = c := by
    show (if (-1 : Int) < 0 then ((-1 : Int) + ((c + 1 : Nat) : Int)).toNat else min (-1 : Int).toNat (c + 1)) = c
    rw [if_pos (by decide)]
    omega
  unfold cutV
  rw [List.length_map, List.length_range, e]
  show ((List.map f (List.range (c + 1))).drop 0).take (c - 0) = _
  rw [List.drop_zero, Nat.sub_zero, List.range_succ, List.map_append, List.take_append_of_le_length (by simp), List.take_of_length_le (by simp)]
theorem zip_self (f : Int → Int) : ∀ ts : List Int, List.zipWith (fun w x => w * x) (ts.map f) ts = ts.map fun t => f t * t
  | [] => rfl
  | t :: ts => by rw [List.map_cons, List.zipWith_cons_cons, zip_self f ts, List.map_cons]
/-- the amounts after i splits, from a place -/
def amtF (n : Nat) (ts : List Int) (c : Nat) (A : List (Int × Int)) : Nat → List (Int × Int)
  | 0 => A
  | i + 1 => halvedF n (layN n ts (c - 1 - i)) (amtF n ts c A i)
def csF (n : Nat) (ts : List Int) (p c : Nat) : List Int := ts.map fun t => (getA (amtF n ts c [(((p * 2 ^ c % n : Nat) : Int), 1)] c) t).getD 0
section
variable {P : Program} {w : World} {K : PySem.W.Frag} {mg : Str → Option Value} {base : Heap}
def sp_sum_counts : Sp := fun vs H Q _ => ∃ (n c p : Nat) (q : Bool × Addr) (ts : List Int), vs = [.int n, .ref q.2, .int p, .int c] ∧ 1 ≤ n ∧ n ≤ 2000 ∧ c ≤ 40 ∧ p < n ∧ SqH H q (ts.map V.int) ∧ ts ≠ [] ∧ ts.length ≤ 100000 ∧ (∀ t ∈ ts, 0 ≤ t ∧ t < (n : Int)) ∧ ts.Nodup ∧
  ((layN n ts c).testBit (p * 2 ^ c % n) = false → ∀ H2, Ex H H2 → Q .non H2) ∧
  ((layN n ts c).testBit (p * 2 ^ c % n) = true → ∀ (l : Addr) (cs : List Int) H2, Ex H H2 → H l = none → H2 l = some (.lst (cs.map V.int)) → cs = csF n ts p c → cs.length = ts.length → (∀ x ∈ cs, 0 ≤ x ∧ x ≤ 2 ^ c) → cs.sum = 2 ^ c → (n : Int) ∣ wsum cs ts - 2 ^ c * p → Q (.ref l) H2)
theorem ok_sum_counts (T : TX K mg) : FnOk P w K mg base CX0 5 T.f_sum_counts T.fd_sum_counts ["size", "targets", "place", "calls"] sp_sum_counts := by
  refine T.F_sum_counts.ok sc_sum_counts (fun vs H Q E h => ?_) (fun cdv A outer s H vs Q E hr h => ?_)
  · obtain ⟨n, c, p, q, ts, rfl, _⟩ := h
    rfl
  · obtain ⟨n, c, p, q, ts, rfl, n1, n2, c40, pn, hq, ne, lts, inr, nod, kn, ky⟩ := h
    refine ⟨_, (pss_cons (ps_expr (pe_call (ok_require_places T) hr rfl T.m_require_places T.F_require_places.kp T.b_require_places .nil pass0 (pa_cons (pv 0) (pa_cons (pv 1) pa_nil)))) (pss_cons (ps_expr (pe_call (ok_require_place T) (hr.mono (by decide)) rfl T.m_require_place T.F_require_place.kp T.b_require_place .nil pass0 (pa_cons (pv 0) (pa_cons (pv 2) (pa_cons pe_str pa_nil))))) (pss_cons (ps_expr (pe_call (ok_require_at_least T) (hr.mono (by decide)) rfl T.m_require_at_least T.F_require_at_least.kp T.b_require_at_least .nil pass0 (pa_cons (pv 3) (pa_cons pe_int (pa_cons pe_str pa_nil))))) (pss_cons (ps_expr (pe_call (ok_require_limit T) (hr.mono (by decide)) rfl T.m_require_limit T.F_require_limit.kp T.b_require_limit .nil pass0 (pa_cons (pv 0) (pa_cons (pe_glob (v := .int 2000) rfl T.c_MAX_SIZE ⟨_, rfl⟩) pa_nil)))) (pss_cons (ps_expr (pe_call (ok_require_limit T) (hr.mono (by decide)) rfl T.m_require_limit T.F_require_limit.kp T.b_require_limit .nil pass0 (pa_cons (pv 3) (pa_cons (pe_glob (v := .int 40) rfl T.c_MAX_CALLS ⟨_, rfl⟩) pa_nil)))) (pss_cons (ps_set (i := 4) sc_sum_counts.nd rfl (Or.inl rfl) (pe_call (ok_sum_layers T) (hr.mono (by decide)) rfl T.m_sum_layers T.F_sum_layers.kp T.b_sum_layers .nil pass0 (pa_cons (pv 0) (pa_cons (pv 1) (pa_cons (pv 3) pa_nil))))) (pss_cons (ps_set (i := 5) sc_sum_counts.nd rfl (Or.inl rfl) (pe_op op_mod (pe_op op_shlW (pv 2) (pv 3)) (pv 0))) (pss_cons (ps_if (pt_cmpR op_eq (pe_op op_and (pe_op op_shr (pe_ix ix_list (pv 4) (pe_un un_neg pe_int) (fun _ _ => rfl)) (pv 5)) pe_int) pe_int (nomark _)) (pss_one (ps_ret pe_non)) pss_nil) (pss_cons (ps_set (i := 6) sc_sum_counts.nd rfl (Or.inr rfl) (pe_disp (pps_cons (pv 5) pe_int pps_nil) rfl rfl (by simp) (by decide))) (pss_cons (ps_for PassesOwn.never rfl (pi_reversed rfl T.z_reversed (pa_cons (pe_slice sl_list (pv 4) po_none (po_some (pe_un un_neg pe_int))) pa_nil)) (pg_name (i := 7) sc_sum_counts.nd rfl (Or.inl rfl)) (pss_one (ps_set (i := 6) sc_sum_counts.nd rfl (Or.inr rfl) (pe_call (ok_halved T) (hr.mono (by decide)) rfl T.m_halved T.F_halved.kp T.b_halved .nil pass0 (pa_cons (pv 0) (pa_cons (pv 7) (pa_cons (pv 6) pa_nil))))))) (pss_one (ps_ret (pe_lc (own := [("target", 8)]) (g := (gName 8)) rfl sc_sum_counts.nd (pi_seq (pv 1)) (blkOk_by (N := N_sum_counts) (sc := defScope s_sum_counts) (by decide +kernel)) (fun _ _ _ _ _ => (pg_name (i := 8) sc_sum_counts.nd rfl (Or.inl rfl))) (fun _ _ _ _ _ => pts_nil) (fun _ _ _ _ _ => (pe_dget2 (hu_of hr) (pv 6) (pv 8) pe_int ⟨rfl, rfl, rfl, rfl⟩))))))))))))))), ?_⟩
    refine ⟨_, rfl, _, rfl, n, q, ts, rfl, by omega, hq, ne, lts, inr, nod, fun H1 e1 => ?_⟩
    refine ⟨_, rfl, _, rfl, n, p, _, rfl, by omega, by omega, ?_⟩
    refine ⟨_, rfl, c, 0, _, rfl, by omega, ?_⟩
    refine ⟨_, rfl, n, 2000, rfl, by omega, ?_⟩
    refine ⟨_, rfl, c, 40, rfl, by omega, ?_⟩
    refine ⟨_, rfl, _, rfl, _, rfl, n, c, q, ts, rfl, n2, by omega, hq.mono e1, inr, fun l H2 e2 nl hl => ?_⟩
    dsimp only [gName]
    have pB : p < 2 ^ 2000 := Nat.lt_of_lt_of_le (Nat.lt_of_lt_of_le pn n2) (Nat.le_of_lt Nat.lt_two_pow_self)
    have ep : (p : Int) * 2 ^ (c : Int).toNat % n = ((p * 2 ^ c % n : Nat) : Int) := by
      rw [Int.toNat_natCast]
      simp
    refine ⟨_, rfl, _, rfl, _, _, rfl, rfl, shlN pB (by omega), _, rfl, _, _, rfl, rfl, (by show (0 : Int) < (n : Int); omega), ?_⟩
    dsimp only [gName]
    rw [ep]
    have hlast : atI ((List.range (c + 1)).map fun i => V.int (layN n ts i)) (-1) = some (V.int (layN n ts c)) := by
      rw [List.range_succ, List.map_append]
      exact atI_fin _ _
    refine ⟨_, rfl, 1, rfl, l, _, _, _, rfl, rfl, SqL.of hl, hlast, _, rfl, _, _, rfl, rfl, (by show (0 : Int) ≤ ((p * 2 ^ c % n : Nat) : Int); omega), _, _, rfl, rfl, rfl, _, rfl, ?_⟩
    have eb : Builtin.bitAnd ((layN n ts c : Int) / 2 ^ ((p * 2 ^ c % n : Nat) : Int).toNat) 1 = if (layN n ts c).testBit (p * 2 ^ c % n) = true then 1 else 0 := by rw [Int.toNat_natCast, shr_cast, bit_cast]
    by_cases no : (layN n ts c).testBit (p * 2 ^ c % n) = false
    · refine itt ?_ (kn no _ (ext e1 e2))
      show decide (V.int (Builtin.bitAnd ((layN n ts c : Int) / 2 ^ ((p * 2 ^ c % n : Nat) : Int).toNat) 1) = V.int 0) = true
      rw [eb, no]
      rfl
    have yes : (layN n ts c).testBit (p * 2 ^ c % n) = true := by simpa using no
    refine itf ?_ ?_
    · show decide (V.int (Builtin.bitAnd ((layN n ts c : Int) / 2 ^ ((p * 2 ^ c % n : Nat) : Int).toNat) 1) = V.int 0) = false
      rw [eb, if_pos yes]
      rfl
    replace ky := ky yes
    refine fun d0 hd0 => ⟨_, rfl, upd_same, [(.inl ((p * 2 ^ c % n : Nat) : Int), .int 1)], rfl, by show 1 ≤ 15; decide, ?_⟩
    generalize hG : upd (upd H2 d0 (.dK [])) d0 _ = H3
    have e3 : Ex H2 H3 := by rw [← hG]; exact ex_upd (exn hd0) hd0
    have hd3 : CntZ H3 d0 [(((p * 2 ^ c % n : Nat) : Int), 1)] := by rw [← hG]; exact upd_same
    try dsimp only [gName]
    show tSeq _ _ _ [_, _, _, _, _, _, _, _, _] _
    refine ⟨_, rfl, ?_⟩
    dsimp only [tNoPart]
    refine ⟨_, rfl, _, rfl, l, _, rfl, SqL.of (e3 _ _ hl), fun g hg => ?_⟩
    rw [cut_last]
    dsimp only [tNil, List.append_nil]
    generalize hG2 : upd H3 g _ = H5
    have e5 : Ex H3 H5 := by rw [← hG2]; exact exn hg
    have hg5 : H5 g = some (.lst ((List.range c).map fun i => V.int (layN n ts i))) := by rw [← hG2]; exact upd_same
    refine ⟨g, _, rfl, SqL.of hg5, ?_⟩
    have tn : p * 2 ^ c % n < n := Nat.mod_lt _ (by omega)
    refine for_it (walk_rev (xs := (List.range c).map fun i => V.int (layN n ts i))) (D := { nx := _, rt := Q, bk := fun _ _ => False, ct := fun _ _ => False }) (fun i σ Hx => ∃ (a : Addr) (A : List (Int × Int)) (y7 : Option V), σ = [some (.int n), some (.ref q.2), some (.int p), some (.int c), some (.ref l), some (.int (p * 2 ^ c % n : Nat)), some (.ref a), y7, none] ∧ Ex H5 Hx ∧ CntZ Hx a A ∧ A = amtF n ts c [(((p * 2 ^ c % n : Nat) : Int), 1)] i ∧ AOk n (layN n ts (c - i)) A (2 ^ i) (p * 2 ^ c % n : Nat)) ⟨d0, [(((p * 2 ^ c % n : Nat) : Int), 1)], none, rfl, exr, e5 _ _ hd3, rfl, ⟨by simp, fun x hx => by
      rw [List.mem_singleton.mp hx]
      exact ⟨by omega, by omega, by rw [Int.toNat_natCast]; exact yes, by omega⟩, by simp [sumA], by simp [momA]⟩⟩ (fun i σ Hx _ ⟨_, _, _, _, e, _⟩ => SqL.of (e _ _ hg5)) ?_ ?_
    · rintro i x σ Hx _ hi ⟨a, A, y7, rfl, ex, hA, eA, ok⟩ ⟨rfl, hx⟩
      have hi2 : i < c := by
        have : i < ((List.range c).map fun i => V.int (layN n ts i)).length := hi
        simpa using this
      have ec : c - i = (c - 1 - i) + 1 := by omega
      rw [List.length_map, List.length_range, List.getElem?_map, List.getElem?_range (by omega)] at hx
      obtain rfl := Option.some.inj hx
      try dsimp only [gName]
      rw [ec] at ok
      refine ⟨_, rfl, _, rfl, _, rfl, n, layN n ts (c - 1 - i), a, A, 2 ^ i, _, rfl, by omega, n2, lay_lt inr _, hA, ok, fun a2 A2 H6 e6 na2 hA2 eA2 ok2 => ?_⟩
      refine ⟨a2, A2, _, rfl, ext ex e6, hA2, by rw [eA2, eA]; rfl, ?_⟩
      rw [show c - (i + 1) = c - 1 - i by omega]
      exact ok2.to (by rw [Int.pow_succ]; omega) ⟨0, by omega⟩
    · rintro σ Hx ⟨a, A, y7, rfl, ex, hA, eA, ok⟩
      rw [List.length_map, List.length_range] at eA ok
      rw [Nat.sub_self] at ok
      have sub : ∀ x ∈ A, x.1 ∈ ts := fun x hx => by
        obtain ⟨h0, _, h1, _⟩ := ok.ok x hx
        obtain ⟨t, ht, e⟩ := bits_bit.mp h1
        have := (inr t ht).1
        have : x.1 = t := by omega
        rw [this]
        exact ht
      obtain ⟨s1, s2⟩ := get_sums nod ok.nod sub
      have pl := pos_le_sum fun x hx => (ok.ok x hx).2.2.2
      have E6 := ext e1 (ext e2 (ext e3 (ext e5 ex)))
      have hq6 := hq.mono E6
      refine ⟨_, rfl, q, rfl, ⟨_, hq6.sq⟩, fun R hR => ?_⟩
      refine lc_vals (walk_seq (p := q) (xs := ts.map V.int)) ((ts.map fun t => (getA A t).getD 0).map V.int) (by rw [List.length_map, List.length_map, List.length_map]) (by rw [List.length_map]; omega) hR (fun Hx ex => (hq6.mono ex).sq) ?_ gmono_name ?_
      · rintro i x _ Hy W hi ey ⟨rfl, hx⟩ kk
        obtain ⟨t, ht, rfl⟩ := map_get hx
        have hAy : CntZ Hy a A := ey _ _ hA
        refine ⟨rfl, _, rfl, a, rfl, .inl ⟨_, .inl hAy⟩, _, rfl, _, DGet.k (k := .inl t) hAy, ?_⟩
        rw [val_entZ, getZ]
        refine kk _ _ exr ?_
        rw [List.getElem?_map, List.getElem?_map, ht]
        rfl
      · intro H7 e7 hR7
        refine ky R _ H7 (ext E6 e7) ?_ hR7 (by rw [eA]; rfl) (by rw [List.length_map]) ?_ (s1.trans ok.sum) ?_
        · cases z : H R with
          | none => rfl
          | some o => rw [E6 _ _ z] at hR; cases hR
        · intro x hx
          obtain ⟨t, _, rfl⟩ := List.mem_map.mp hx
          have p2 : (0 : Int) < 2 ^ c := Int.pow_pos (by decide)
          cases e : getA A t with
          | none => exact ⟨Int.le_refl _, Int.le_of_lt p2⟩
          | some v =>
            have hm := getA_mem e
            refine ⟨(ok.ok _ hm).2.2.2, ?_⟩
            have := pl.2 _ hm
            rw [ok.sum] at this
            exact this
        · unfold wsum
          rw [zip_self, s2]
          have h1 := emod_dvd ((p : Int) * 2 ^ c) n
          have h2 := Int.dvd_add ok.mom h1
          refine (congrArg ((n : Int) ∣ ·) ?_).mp h2
          rw [Int.natCast_emod, Int.natCast_mul, Int.natCast_pow, Int.mul_comm (2 ^ c)]
          simp
          omega
end

theorem two_dvd {n a b p f : Int} (hn : 0 < n) (hf : (b - a) % n / gcdI ((b - a) % n) n * f % (n / gcdI ((b - a) % n) n) = 1 % (n / gcdI ((b - a) % n) n)) {e : Nat} (h1 : (p - a) % n * 2 ^ e % gcdI ((b - a) % n) n = 0) :
    n ∣ (p - a) % n * 2 ^ e / gcdI ((b - a) % n) n * f % (n / gcdI ((b - a) % n) n) * (b - a) - 2 ^ e * (p - a) := by
  have G0 : 0 < gcdI ((b - a) % n) n := by
    have := gcd_pos2 (p := (b - a) % n) (n := n) (by omega)
    show (0 : Int) < ((Int.gcd ((b - a) % n) n : Nat) : Int)
    omega
  have Gn : gcdI ((b - a) % n) n ∣ n := Int.gcd_dvd_right _ _
  have Gg : gcdI ((b - a) % n) n ∣ (b - a) % n := Int.gcd_dvd_left _ _
  have cong : ∀ j : Int, n ∣ j * ((b - a) % n) - (p - a) % n * 2 ^ e → n ∣ j * (b - a) - 2 ^ e * (p - a) := fun j h => by
    have q1 : n ∣ j * ((b - a) % n - (b - a)) := Int.dvd_mul_of_dvd_right (emod_dvd _ _)
    have q2 : n ∣ 2 ^ e * ((p - a) % n - (p - a)) := Int.dvd_mul_of_dvd_right (emod_dvd _ _)
    have := Int.dvd_add (Int.dvd_sub h q1) q2
    exact (congrArg (n ∣ ·) (by grind)).mp this
  refine cong _ ?_
  generalize (b - a) % n = g at *
  generalize (p - a) % n = d at *
  generalize gcdI g n = G at *
  obtain ⟨N, rfl⟩ := Gn
  obtain ⟨h, rfl⟩ := Gg
  have N0 : 0 < N := by
    by_cases q : 0 < N
    · exact q
    · have := Int.mul_nonneg (show 0 ≤ G by omega) (show 0 ≤ -N by omega)
      rw [Int.mul_neg] at this
      omega
  rw [Int.mul_ediv_cancel_left _ (by omega), Int.mul_ediv_cancel_left _ (by omega)] at hf
  rw [Int.mul_ediv_cancel_left _ (by omega)]
  have hf2 : N ∣ h * f - 1 := emod_eq_iff.mp hf
  obtain ⟨X, hX⟩ := Int.dvd_of_emod_eq_zero h1
  rw [hX, Int.mul_ediv_cancel_left _ (by omega)]
  have q1 : N ∣ (X * f % N - X * f) * h := Int.dvd_mul_of_dvd_left (emod_dvd _ _)
  have q2 : N ∣ X * (h * f - 1) := Int.dvd_mul_of_dvd_right hf2
  have q3 := Int.dvd_add q1 q2
  have q4 : G * N ∣ G * ((X * f % N - X * f) * h + X * (h * f - 1)) := Int.mul_dvd_mul (Int.dvd_refl G) q3
  exact (congrArg (G * N ∣ ·) (by grind)).mp q4
theorem filter_no {α : Type} (f : α → V) (l : List α) : (l.filter fun _ => false).map f = [] := by simp
theorem eqv_ne0 (ds : List PyData) : (!PyData.eqv (.list []) (.list [])) = false := by simp [PyData.eqv, PyData.eqvAll]
theorem sr5_push {s l : Addr} {H : Hp} {n : Nat} {o : HO} (h : Sr5 H s n) (nl : l ≠ s) : Sr5 (upd H l o) s n := by
  obtain ⟨a, b, c, h1, h2⟩ := h
  exact ⟨a, b, c, by rw [upd_ne (Ne.symm nl)]; exact h1, h2⟩
theorem xb_app5 {s D : Addr} {H H2 : Hp} {o : HO} (xb : XB s H H2) (hD : H D = none) : XB s H (L2.upd H2 D o) := fun c u n z => by
  rw [upd_ne (ne_of_none z hD)]
  exact xb c u n z
section
variable {P : Program} {w : World} {K : PySem.W.Frag} {mg : Str → Option Value} {base : Heap}
def sp_law_is_sum : Sp := fun vs H Q _ => ∃ (n p : Int) (d : Nat) (a c : Addr) (ts cs : List Int), vs = [.int n, .ref a, .int p, .int d, .ref c] ∧ 1 ≤ n ∧ 0 ≤ p ∧ p < n ∧ n.natAbs < 2 ^ 4000 ∧ d ≤ 1000 ∧ H a = some (.lst (ts.map V.int)) ∧ H c = some (.lst (cs.map V.int)) ∧ cs.length = ts.length ∧ ts.length ≤ 100 ∧ (∀ t ∈ ts, 0 ≤ t ∧ t < n) ∧ (∀ x ∈ cs, 0 ≤ x ∧ x ≤ 2 ^ d) ∧ cs.sum = 2 ^ d ∧ n ∣ wsum cs ts - 2 ^ d * p ∧ ∀ H2, Ex H H2 → Q (.bl true) H2
theorem ok_law_is_sum (T : TX K mg) : FnOk P w K mg base CX0 1 T.f_law_is_sum T.fd_law_is_sum ["_law_ring", "_law_goals", "_law_spot", "_law_depth", "_law_amounts"] sp_law_is_sum := by
  refine T.F_law_is_sum.ok sc_law_is_sum (fun vs H Q E h => ?_) (fun cdv A outer s H vs Q E hr h => ?_)
  · obtain ⟨n, p, d, a, c, ts, cs, rfl, _⟩ := h
    rfl
  · obtain ⟨n, p, d, a, c, ts, cs, rfl, n1, p0, p1, nB, d1, ha, hc, l, l100, inr, pos, esum, dv, k⟩ := h
    have p2 : (2 : Int) ^ d ≤ 2 ^ 1000 := pow2_le d1
    have b2 : ∀ x : Int, 0 ≤ x → x ≤ 2 ^ d → x.natAbs < 2 ^ 5000 := fun x h0 h1 => by
      have h2 : x ≤ 2 ^ 1000 := Int.le_trans h1 p2
      have h4 : x.natAbs ≤ 2 ^ 1000 := by
        have : ((2 ^ 1000 : Nat) : Int) = (2 : Int) ^ 1000 := by simp
        omega
      exact Nat.lt_of_le_of_lt h4 (Nat.pow_lt_pow_right (by decide) (by decide))
    have bn : ∀ x : Int, 0 ≤ x → x < n → x.natAbs < 2 ^ 5000 := fun x h0 h1 => Nat.lt_of_lt_of_le (show x.natAbs < 2 ^ 4000 by omega) (Nat.pow_le_pow_right (by decide) (by decide))
    have cB : ∀ x ∈ cs, x.natAbs < 2 ^ 5000 := fun x hx => b2 x (pos x hx).1 (pos x hx).2
    have tB : ∀ x ∈ ts, x.natAbs < 2 ^ 5000 := fun x hx => bn x (inr x hx).1 (inr x hx).2
    refine ⟨_, (pss_cons (ps_if (PW.pt (pw_or (pt_not (pt_val (pe_callB call_isi (by rfl) T.z_isinstance (by decide +kernel) (pa_cons (pv 4) (pa_cons (pe_bltn (v := .ty "list") rfl T.z_list (by decide +kernel) rfl) pa_nil))))) (pw_or1 (pt_cmpR op_ne (pe_callB call_len_seq (by rfl) T.z_len (by decide +kernel) (pa_cons (pv 4) pa_nil)) (pe_callB call_len_seq (by rfl) T.z_len (by decide +kernel) (pa_cons (pv 1) pa_nil)) (nomark _))))) (pss_one (ps_ret pe_bl)) pss_nil) (pss_cons (ps_if (pt_cmpR (r := rNeD K) (op_neD hr.units) (pe_lc (own := [("_law_one", 6)]) (g := (gName 6)) rfl sc_law_is_sum.nd (pi_list (pv 4)) (blkOk_by (N := N_law_is_sum) (sc := defScope s_law_is_sum) (by decide +kernel)) (fun _ _ _ _ _ => (pg_name (i := 6) sc_law_is_sum.nd rfl (Or.inl rfl))) (fun _ _ _ _ _ => (pts_one (PW.pt (pw_or (pt_not (pt_val (pe_callB (r := rIsi K) call_isi (by rfl) T.z_isinstance (by decide +kernel) (pa_cons (pv 6) (pa_cons (pe_bltn (v := .ty "int") rfl T.z_int (by decide +kernel) rfl) pa_nil))))) (pw_or (pt_val (pe_callB (r := rIsi K) call_isi (by rfl) T.z_isinstance (by decide +kernel) (pa_cons (pv 6) (pa_cons (pe_bltn (v := .ty "bool") rfl T.z_bool (by decide +kernel) rfl) pa_nil)))) (pw_or1 (pt_cmpR op_lt (pv 6) pe_int (nomark _)))))))) (fun _ _ _ _ _ => (pv 6))) (pe_lst pa_nil) (nomark _)) (pss_one (ps_ret pe_bl)) pss_nil) (pss_cons (ps_set (i := 5) sc_law_is_sum.nd rfl (Or.inl rfl) (pe_callB (cr_sum rfl) (by rfl) T.z_sum (by decide +kernel) (pa_cons (pe_lc (own := [("_law_amount", 7), ("_law_goal", 8)]) (g := (gTup K 2 (gCons (gName 7) (gCons (gName 8) gNil)))) rfl sc_law_is_sum.nd (CZ.pi_z2 (fl := [false, false]) rfl (by rfl) T.z_zip (pa_cons (pv 4) (pa_cons (pv 1) pa_nil))) (blkOk_by (N := N_law_is_sum) (sc := defScope s_law_is_sum) (by decide +kernel)) (fun _ _ _ _ _ => (pg_tup rfl (pgs_cons (pg_name (i := 7) sc_law_is_sum.nd rfl (Or.inl rfl)) (pgs_cons (pg_name (i := 8) sc_law_is_sum.nd rfl (Or.inl rfl)) pgs_nil)))) (fun _ _ _ _ _ => pts_nil) (fun _ _ _ _ _ => (pe_op op_mulI (pv 7) (pv 8)))) pa_nil))) (pss_one (ps_ret (pe_and (pe_cmpR op_eq (pe_callB (cr_sum rfl) (by rfl) T.z_sum (by decide +kernel) (pa_cons (pv 4) pa_nil)) (pe_op op_shlW pe_int (pv 3)) (nomark _)) (pe_one (pe_cmpR op_eq (pe_op op_mod (pe_op op_sub (pv 5) (pe_op op_shlW (pv 2) (pv 3))) (pv 0)) pe_int (nomark _))))))))), ?_⟩
    refine ⟨_, rfl, _, _, _, _, true, rfl, .ty _, .base (.lst hc), kit_ty (by decide +kernel), _, rfl, itf rfl ?_⟩
    refine ⟨_, rfl, c, _, rfl, .inl (SqL.of hc), _, rfl, a, _, rfl, .inl (SqL.of ha), rfl, _, rfl, itf (by rw [List.length_map, List.length_map, l]; simp) ?_⟩
    refine ⟨_, rfl, c, rfl, ⟨_, SqL.of hc⟩, fun D hD => ?_⟩
    refine lc_filt (walk_list (xs := cs.map V.int)) cs (fun _ => false) V.int (by rw [List.length_map]) (by rw [List.length_map]; omega) hD (fun Hx ex => SqL.of (ex _ _ hc)) ?_ ?_
    · rintro i x t Hx _ R S ht ex ⟨rfl, hx⟩ kY kN
      obtain ⟨t', ht', rfl⟩ := map_get hx
      obtain rfl : t' = t := Option.some.inj (ht'.symm.trans ht)
      have t0 := pos t' (List.mem_of_getElem? ht)
      exact ⟨rfl, _, rfl, _, _, _, _, true, rfl, .ty _, .base (.int _), kit_ty (by decide +kernel), _, rfl, itf rfl ⟨_, rfl, _, _, _, _, false, rfl, .ty _, .base (.int _), kit_ty (by decide +kernel), _, rfl, itf rfl ⟨_, rfl, _, _, rfl, rfl, _, rfl, itf (decide_eq_false (by omega)) (kN _ exr rfl)⟩⟩⟩
    intro H1 e1 hD1
    refine ⟨slen rfl, ?_⟩
    (intro en nen; generalize hGen : upd _ en _ = H2; have eH2 := exG hGen nen; have hen := atG hGen; clear hGen)
    have E2 := ext e1 eH2
    refine ⟨_, _, .lst (SqL.of (eH2 _ _ hD1)) (by rw [filter_no]; exact .nil), .lst (SqL.of hen) .nil, (sh_list (n := 59) (ds := []) (fun _ h => nomatch h)).ok, (sh_list (n := 59) (ds := []) (fun _ h => nomatch h)).ok, _, rfl, itf (eqv_ne0 []) ?_⟩
    refine ⟨_, rfl, _, rfl, [c, a], rfl, rfl, all2 (sqL (E2 _ _ hc)) (sqL (E2 _ _ ha)), fun D2 hD2 => ?_⟩
    refine lc_vals (CZ.walk_rows (xss := [cs.map V.int, ts.map V.int]) (n := ts.length) (lens2 (by rw [List.length_map, l]) (by rw [List.length_map]))) ((List.zipWith (fun w x => w * x) cs ts).map V.int) (by rw [List.length_map, List.length_zipWith, l, Nat.min_self]) (by omega) hD2 (fun H3 e => .cons (sqL (e _ _ (E2 _ _ hc))) (.cons (sqL (e _ _ (E2 _ _ ha))) .nil)) ?_ (gmono_tup (gmono_cons gmono_name (gmono_cons gmono_name gmono_nil))) ?_
    · intro j y H6 H7 R hj e yy kk
      obtain ⟨Tb, p, d, rfl, hTb, rfl, hp, hdd⟩ := yints2 yy
      refine ⟨Tb, _, rfl, SqT.of upd_same, rfl, _, _, rfl, _, _, rfl, rfl, ?_⟩
      refine ⟨rfl, _, rfl, _, rfl, _, _, rfl, rfl, (wide_mul (cB p (List.mem_of_getElem? hp)) (tB d (List.mem_of_getElem? hdd)) (by decide) (by decide) (by decide)).ok, ?_⟩
      refine kk _ _ (exn hTb) ?_
      rw [List.getElem?_map, List.getElem?_zipWith, hp, hdd]
      rfl
    intro H3 e3 hD3
    refine ⟨D2, _, rfl, SqL.of hD3, ?_⟩
    have E3 := ext E2 e3
    dsimp only [gName]
    refine ⟨_, rfl, c, cs, rfl, SqL.of (E3 _ _ hc), _, rfl, _, _, rfl, rfl, shl_ok (n := 1) (by decide) (by omega), rfl, _, rfl, itt ?_ ?_⟩
    · show decide (V.int cs.sum = V.int (1 * 2 ^ (d : Int).toNat)) = true
      rw [esum, Int.one_mul, Int.toNat_natCast]
      simp
    (repeat (first | refine ⟨rfl, ?_⟩ | refine ⟨_, rfl, ?_⟩ | refine ⟨_, _, rfl, rfl, ?_⟩ | refine ⟨_, _, rfl, ?_⟩ | refine ⟨slen rfl, ?_⟩ | refine ⟨⟨by decide, by decide +kernel⟩, ?_⟩ | refine ⟨⟨by decide, by decide, by decide⟩, ?_⟩ | refine ⟨(by show (0 : Int) < _; first | decide | assumption | omega), ?_⟩ | refine ⟨mul_ok (by first | exact .inr (by decide) | exact .inl (by decide)), ?_⟩))
    refine ⟨shl_ok (n := 4000) (by omega) (by omega), _, _, rfl, rfl, _, rfl, _, _, rfl, rfl, (by show 0 < n; omega), rfl, ?_⟩
    refine (congrArg (fun b => Q (V.bl b) H3) (decide_eq_true (congrArg V.int ?_))).mpr (k _ E3)
    have e9 : p * 2 ^ (d : Int).toNat = 2 ^ d * p := by rw [Int.toNat_natCast, Int.mul_comm]
    show ((List.zipWith (fun w x => w * x) cs ts).sum - p * 2 ^ (d : Int).toNat) % n = 0
    rw [e9]
    exact Int.emod_eq_zero_of_dvd dv
end

def optV : Option Nat → V
  | some c => .int (c : Nat)
  | none => .non
def optD : Option Nat → PyData
  | some c => .int (c : Nat)
  | none => .none
theorem dp_opt {K : PySem.W.Frag} {H : Hp} : ∀ o, Dp K H (optV o) (optD o)
  | some _ => .int _
  | none => .non
theorem sh_opt : ∀ o, Sh 60 (optD o)
  | some _ => sh_int _
  | none => sh_none
theorem Sr5.app {s D : Addr} {H : Hp} {o : HO} {m : Nat} (h : Sr5 H s m) (n : D ≠ s) : Sr5 (upd H D o) s m := by
  obtain ⟨a, b, c, z, q⟩ := h
  exact ⟨a, b, c, by rw [upd_ne n.symm]; exact z, q⟩
theorem XB.app5 {s D : Addr} {H H2 : Hp} {o : HO} (xb : XB s H H2) (hD : H D = none) : XB s H (L2.upd H2 D o) := fun c u n z => by
  rw [upd_ne (ne_of_none z hD)]
  exact xb c u n z
theorem use_min {n p : Int} {q : Bool × Addr} {ts : List Int} {H : Hp} {Q : VK} {E : XK} (n0 : 0 < n) (n2 : n ≤ 2000) (p0 : 0 ≤ p) (p1 : p < n) (hq : SqH H q (ts.map V.int)) (ne : ts ≠ []) (lt : ts.length ≤ 100000) (inr : ∀ t ∈ ts, 0 ≤ t ∧ t < n) (nod : ts.Nodup)
    (k : ∀ o H2, MinC n ts p (Builtin.Int.intBits n) o → Ex H H2 → Q (optV o) H2) : sp_min_calls_on_ring [.int n, .ref q.2, .int p] H Q E := by
  obtain ⟨m, rfl⟩ : ∃ m : Nat, n = (m : Int) := ⟨n.toNat, by omega⟩
  obtain ⟨r, rfl⟩ : ∃ m : Nat, p = (m : Int) := ⟨p.toNat, by omega⟩
  have pm : r < m := by omega
  refine ⟨m, r, q, ts, rfl, by omega, pm, hq, ne, lt, inr, nod, fun c H2 hc hit no e => ?_, fun no H2 e => ?_⟩
  · refine k (some c) H2 ⟨hc, (bit_hit pm inr).mp hit, fun d hd h => ?_⟩ e
    have := no d hd
    rw [(bit_hit pm inr).mpr h] at this
    cases this
  · refine k none H2 (fun d hd h => ?_) e
    have := no d hd
    rw [(bit_hit pm inr).mpr h] at this
    cases this
theorem same_eqv {o u : Option Nat} (h : o = u) : (!PyData.eqv (optD o) (optD u)) = false := by rw [h]; exact eqv_same (sh_opt u)
section
variable {P : Program} {w : World} {K : PySem.W.Frag} {mg : Str → Option Value} {base : Heap}
def sp_law_targets : Sp := fun vs H Q _ => ∃ (s : Addr) (n b : Int) (m : Nat), vs = [.ref s, .int n, .int b] ∧ Sr5 H s (m + 401) ∧ 0 < n ∧ 1 ≤ b ∧ b ≤ 100 ∧
  ∀ (l : Addr) (ts : List Int) H2, H l = none → H2 l = some (.lst (ts.map V.int)) → ts ≠ [] → ts.length ≤ 100 → (∀ t ∈ ts, 0 ≤ t ∧ t < n) → ts.Nodup → XB s H H2 → Sr5 H2 s m → Q (.ref l) H2
theorem ok_law_targets (T : TX K mg) : FnOk P w K mg base CX0 3 T.f_law_targets T.fd_law_targets ["_law_source_here", "_law_ring", "_law_bound"] sp_law_targets := by
  refine T.F_law_targets.ok sc_law_targets (fun vs H Q E h => ?_) (fun cdv A outer s H vs Q E hr h => ?_)
  · obtain ⟨s, n, b, m, rfl, _⟩ := h
    rfl
  · obtain ⟨s, n, b, m, rfl, hs, n0, b1, b2, k⟩ := h
    refine ⟨_, (pss_cons (ps_set (i := 3) sc_law_targets.nd rfl (Or.inl rfl) (pe_lst pa_nil)) (pss_cons (ps_for PassesOwn.never rfl (pi_range1 rfl T.z_range (pa_cons (pe_op op_add pe_int (pe_call (ok_law_take T) (hr.mono (by decide)) rfl T.m_law_take T.F_law_take.kp T.b_law_take .nil pass0 (pa_cons (pv 0) (pa_cons (pv 2) pa_nil)))) pa_nil)) (pg_name (i := 4) sc_law_targets.nd rfl (Or.inl rfl)) (pss_cons (ps_set (i := 5) sc_law_targets.nd rfl (Or.inl rfl) (pe_call (ok_law_large T) hr rfl T.m_law_large T.F_law_large.kp T.b_law_large .nil pass0 (pa_cons (pv 0) (pa_cons (pv 1) pa_nil)))) (pss_one (ps_if (pt_cmpR op_notIn_seq (pv 5) (pv 3) rfl) (pss_one (ps_expr (pe_bm PySem.F.plainAttrs_list PySem.F.slot_list_append PySem.F.type_list_append mt_append (pv 3) (pa_cons (pv 5) pa_nil)))) pss_nil)))) (pss_one (ps_ret (pv 3))))), ?_⟩
    refine ⟨slen rfl, ?_⟩
    (intro fl nfl; generalize hGfl : upd _ fl _ = H1; have eH1 := exG hGfl nfl; have hfl := atG hGfl; clear hGfl)
    have fls : fl ≠ s := hs.ne nfl
    refine ⟨_, rfl, _, rfl, s, b, m + 400, rfl, hs.mono eH1, by omega, Nat.lt_of_le_of_lt (show b.natAbs ≤ 100 by omega) (by decide +kernel), fun r H2 r0 r1 xb2 src2 => ?_⟩
    refine ⟨_, _, rfl, rfl, _, rfl, by omega, by omega, ?_⟩
    have XB2 : XB s H H2 := (XB.of eH1).trans xb2
    refine for_it walk_range (fun i σ Hx => ∃ (y4 y5 : Option V) (ts : List Int), σ = [some (.ref s), some (.int n), some (.int b), some (.ref fl), y4, y5] ∧ Hx fl = some (.lst (ts.map V.int)) ∧ ts.length ≤ i ∧ (1 ≤ i → ts ≠ []) ∧ (∀ t ∈ ts, 0 ≤ t ∧ t < n) ∧ ts.Nodup ∧ XB s H Hx ∧ Sr5 Hx s (m + 4 * (100 - i))) ⟨_, _, [], rfl, xb2 _ _ fls hfl, by simp, fun z => absurd z (by omega), by simp, by simp, XB2, src2.less (by omega)⟩ (fun _ _ _ _ _ => True.intro) ?_ ?_
    · rintro i x σ _ Ha hi ⟨y4, y5, ts, rfl, hla, lt, ne, inr, nod, xba, srca⟩ ⟨rfl, hx⟩
      have hi2 : i < (1 + r).toNat := hi
      refine ⟨_, rfl, _, rfl, s, n, m + 4 * (100 - (i + 1)), rfl, srca.less (by omega), n0, fun p Hb p0 p1 xbb srcb => ?_⟩
      have hlb := xbb _ _ fls hla
      refine ⟨_, rfl, _, rfl, fl, _, rfl, .inl (SqL.of hlb), rfl, flat_ints _, _, rfl, ?_⟩
      rw [in_ints]
      by_cases hm : p ∈ ts
      · refine itf (by simp [hm]) ?_
        exact ⟨_, _, ts, rfl, hlb, by omega, (fun _ z => by rw [z] at hm; cases hm), inr, nod, xba.trans xbb, srcb⟩
      · refine itt (by simp only [decide_eq_false hm]; rfl) ?_
        refine ⟨_, rfl, .inl ⟨rfl, _, SqL.of hlb⟩, _, rfl, fl, _, _, rfl, rfl, hlb, ?_, ?_⟩
        · rw [List.length_map]
          exact Nat.lt_of_le_of_lt (show ts.length ≤ 1000 by omega) (by decide)
        refine ⟨_, _, ts ++ [p], rfl, ?_, by rw [List.length_append]; show _ + 1 ≤ _; omega, fun _ => by simp, fun g hg => ?_, ?_, (xba.trans xbb).app5 nfl, srcb.app fls⟩
        · rw [upd_same, List.map_append]
          rfl
        · rcases List.mem_append.mp hg with h | h
          · exact inr g h
          · rw [List.mem_singleton.mp h]
            exact ⟨p0, p1⟩
        · rw [List.nodup_append]
          exact ⟨nod, by simp, fun a ha b hb z => hm (by rw [← List.mem_singleton.mp hb, ← z]; exact ha)⟩
    · rintro σ Ha ⟨y4, y5, ts, rfl, hla, lt, ne, inr, nod, xba, srca⟩
      have lt : ts.length ≤ (1 + r).toNat := lt
      exact ⟨_, rfl, k fl ts _ nfl hla (ne (by show 1 ≤ (1 + r).toNat; omega)) (by omega) inr nod xba (srca.less (by omega))⟩
end

theorem hit_one {n a p : Int} {e : Nat} : Hit n [a] p e ↔ n ∣ 2 ^ e * a - 2 ^ e * p := by
  constructor
  · rintro ⟨v, ⟨l, l1, l2, l3⟩, d⟩
    have : l = List.replicate (2 ^ e) a := by
      rw [← l1]
      exact List.eq_replicate_iff.mpr ⟨rfl, fun b hb => by simpa using l2 b hb⟩
    rw [this, sum_pad] at l3
    rw [← l3] at d
    simpa using d
  · intro d
    exact ⟨_, ⟨List.replicate (2 ^ e) a, by simp, fun x hx => by rw [(List.mem_replicate.mp hx).2]; exact List.mem_cons_self, rfl⟩, by rw [sum_pad]; simpa using d⟩
/-- one or two targets -/
def OneTwo (ts : List Int) (a g : Int) : Prop := (ts = [a] ∧ g = 0) ∨ ∃ b, ts = [a, b] ∧ g = b - a ∧ g ≠ 0
theorem hit_totals {n p a g : Int} {ts : List Int} {e : Nat} (n0 : 0 < n) (h : OneTwo ts a g) : Hit n ts p e ↔ (2 ^ e * p) % n ∈ (placesI ((if g ≠ 0 then 2 ^ e else 0) + 1)).map fun j => (a * 2 ^ e + j * g) % n := by
  have p2 : (0 : Int) < 2 ^ e := Int.pow_pos (by decide)
  rw [List.mem_map]
  rcases h with ⟨rfl, rfl⟩ | ⟨b, rfl, rfl, g0⟩
  · rw [hit_one]
    constructor
    · intro d
      refine ⟨0, mem_places.mpr ⟨by decide, by simp⟩, ?_⟩
      rw [Int.mul_zero, Int.add_zero]
      exact emod_eq_iff.mpr (by rw [Int.mul_comm a]; exact d)
    · rintro ⟨j, _, e2⟩
      rw [Int.mul_zero, Int.add_zero] at e2
      have := emod_eq_iff.mp e2
      rwa [Int.mul_comm a] at this
  · rw [hit_two, if_pos g0]
    constructor
    · rintro ⟨j, j1, d⟩
      refine ⟨(j : Int), mem_places.mpr ⟨by omega, ?_⟩, ?_⟩
      · have : ((2 ^ e : Nat) : Int) = (2 : Int) ^ e := by simp
        omega
      · exact emod_eq_iff.mpr ((congrArg (n ∣ ·) (by grind)).mp d)
    · rintro ⟨j, hj, e2⟩
      obtain ⟨j0, j1⟩ := mem_places.mp hj
      refine ⟨j.toNat, ?_, ?_⟩
      · have : ((2 ^ e : Nat) : Int) = (2 : Int) ^ e := by simp
        omega
      · rw [Int.toNat_of_nonneg j0]
        have := emod_eq_iff.mp e2
        exact (congrArg (n ∣ ·) (by grind)).mp this
theorem seqIx {r : Int} {n : Nat} (h0 : 0 ≤ r) (h1 : r < n) (hn : n < 2 ^ 62) : seqIndex? r n = some r.toNat := by
  unfold seqIndex?
  rw [if_neg (show ¬ r < 0 by omega)]
  dsimp only
  rw [if_pos (by rw [Bool.and_eq_true, decide_eq_true_iff, decide_eq_true_iff]; omega)]
theorem erase_map (ys : List Int) (k : Nat) : (ys.map V.int).eraseIdx k = (ys.eraseIdx k).map V.int := by
  induction ys generalizing k with
  | nil => rfl
  | cons a ys ih =>
    cases k with
    | zero => rfl
    | succ k =>
      show V.int a :: (ys.map V.int).eraseIdx k = V.int a :: (ys.eraseIdx k).map V.int
      rw [ih]
theorem perm_at {α : Type} : ∀ {ys : List α} {k : Nat} (h : k < ys.length), (ys[k] :: ys.eraseIdx k).Perm ys
  | a :: ys, 0, _ => List.Perm.refl _
  | a :: ys, k + 1, h => by
    have ih := perm_at (ys := ys) (k := k) (by simpa using h)
    show ((ys[k]'(by simpa using h)) :: a :: ys.eraseIdx k).Perm (a :: ys)
    exact (List.Perm.swap _ _ _).trans (ih.cons a)
theorem one_at {ts : List Int} {a g : Int} (h : OneTwo ts a g) : (ts.map V.int)[0]? = some (V.int a) ∧ atI (ts.map V.int) (-1) = some (V.int (a + g)) := by
  rcases h with ⟨rfl, rfl⟩ | ⟨b, rfl, rfl, _⟩
  · exact ⟨rfl, by rw [Int.add_zero]; exact atI_fin [] _⟩
  · exact ⟨rfl, by rw [show a + (b - a) = b by omega]; exact atI_fin [V.int a] _⟩
section
variable {P : Program} {w : World} {K : PySem.W.Frag} {mg : Str → Option Value} {base : Heap}
def sp_law_least : Sp := fun vs H Q _ => ∃ (n p : Int) (l : Addr) (ts : List Int) (a g : Int), vs = [.int n, .ref l, .int p] ∧ 1 ≤ n ∧ n ≤ 2000 ∧ 0 ≤ p ∧ p < n ∧ H l = some (.lst (ts.map V.int)) ∧ OneTwo ts a g ∧ (∀ t ∈ ts, 0 ≤ t ∧ t < n) ∧
  ∀ o H2, MinC n ts p (Builtin.Int.intBits n) o → Ex H H2 → Q (optV o) H2
theorem ok_law_least (T : TX K mg) : FnOk P w K mg base CX0 1 T.f_law_least T.fd_law_least ["_law_ring", "_law_goals", "_law_spot"] sp_law_least := by
  refine T.F_law_least.ok sc_law_least (fun vs H Q E h => ?_) (fun cdv A outer s H vs Q E hr h => ?_)
  · obtain ⟨n, p, l, ts, a, g, rfl, _⟩ := h
    rfl
  · obtain ⟨n, p, l, ts, a, g, rfl, n1, n2, p0, p1, hl, one, inr, k⟩ := h
    refine ⟨_, (pss_cons (ps_set (i := 3) sc_law_least.nd rfl (Or.inr rfl) (pe_op op_sub (pe_ix ix_list (pv 1) (pe_un un_neg pe_int) (fun _ _ => rfl)) (pe_ix ix_list (pv 1) pe_int (fun _ _ => rfl)))) (pss_cons (ps_for PassesOwn.never rfl (pi_range1 rfl T.z_range (pa_cons (pe_op op_add (pe_bits (pv 0)) pe_int) pa_nil)) (pg_name (i := 4) sc_law_least.nd rfl (Or.inl rfl)) (pss_cons (ps_asg (pe_tup (pa_cons (pe_op op_shlW (pe_ix ix_list (pv 1) pe_int (fun _ _ => rfl)) (pv 4)) (pa_cons (pe_op op_mulI (pe_op op_shlW pe_int (pv 4)) (pe_callTy call_int1 (by rfl) T.z_int (by decide +kernel) (pa_cons (pe_cmpR op_ne (pv 3) pe_int (nomark _)) pa_nil))) pa_nil))) (pg_tup rfl (pgs_cons (pg_name (i := 5) sc_law_least.nd rfl (Or.inr rfl)) (pgs_cons (pg_name (i := 6) sc_law_least.nd rfl (Or.inl rfl)) pgs_nil)))) (pss_cons (ps_setLc (own := [("_law_j", 8)]) (g := (gName 8)) (i := 7) rfl sc_law_least.nd rfl rfl (sw_true rfl rfl rfl (by decide +kernel)) (pi_range1 rfl T.z_range (pa_cons (pe_op op_add (pv 6) pe_int) pa_nil)) (blkOk_by (N := N_law_least) (sc := defScope s_law_least) (by decide +kernel)) (fun _ _ _ _ _ => (pg_name (i := 8) sc_law_least.nd rfl (Or.inl rfl))) (fun _ _ _ _ _ => pts_nil) (fun _ _ _ _ _ => (pe_op op_mod (pe_op op_add (pv 5) (pe_op op_mulI (pv 8) (pv 3))) (pv 0)))) (pss_one (ps_if (pt_cmpR op_in_seq (pe_op op_mod (pe_op op_shlW (pv 2) (pv 4)) (pv 0)) (pv 7) rfl) (pss_one (ps_ret (pv 4))) pss_nil))))) (pss_one (ps_ret pe_non)))), ?_⟩
    obtain ⟨ga, gl⟩ := one_at one
    refine ⟨_, rfl, 1, rfl, l, _, _, _, rfl, rfl, SqL.of hl, gl, _, rfl, l, _, _, _, rfl, rfl, SqL.of hl, L2.atI_nat (j := 0) ga, _, _, rfl, rfl, ?_⟩
    have n0 : 0 < n := by omega
    have eg : a + g - a = g := by omega
    dsimp only
    rw [eg]
    dsimp only [gName]
    have b11 : Builtin.Int.intBits n ≤ 11 := by
      unfold Builtin.Int.intBits
      split
      · omega
      · by_cases z : n.natAbs = 0
        · rw [z]
          decide
        · have : n.natAbs.log2 < 11 := (Nat.log2_lt z).mpr (Nat.lt_of_le_of_lt (show n.natAbs ≤ 2000 by omega) (by decide))
          omega
    have a1 : 0 ≤ a ∧ a < n := by
      rcases one with ⟨rfl, _⟩ | ⟨b, rfl, _⟩
      · exact inr a (by simp)
      · exact inr a (by simp)
    have g1 : -2000 ≤ g ∧ g ≤ 2000 := by
      rcases one with ⟨rfl, rfl⟩ | ⟨b, rfl, rfl, _⟩
      · decide
      · have := inr b (by simp)
        omega
    refine ⟨_, rfl, n, rfl, _, _, rfl, rfl, _, rfl, by omega, by omega, ?_⟩
    refine for_it walk_range (fun i σ H2 => ∃ (y4 y5 y6 y7 y8 : Option V), σ = [some (.int n), some (.ref l), some (.int p), some (.int g), y4, y5, y6, y7, y8] ∧ Ex H H2 ∧ ∀ d, d < i → ¬ Hit n ts p d) ⟨_, _, _, _, _, rfl, exr, fun d hd => absurd hd (Nat.not_lt_zero d)⟩ (fun _ _ _ _ _ => True.intro) ?_ ?_
    · rintro i x σ _ H2 hi ⟨y4, y5, y6, y7, y8, rfl, e2, no⟩ ⟨rfl, hx⟩
      obtain rfl : x = .int (i : Int) := hx.trans (congrArg V.int (Int.zero_add _))
      have i11 : i ≤ 11 := by
        have : i < ((Builtin.Int.intBits n : Nat) + 1 : Int).toNat := hi
        omega
      have ib : i ≤ Builtin.Int.intBits n := by
        have : i < ((Builtin.Int.intBits n : Nat) + 1 : Int).toNat := hi
        omega
      have hl2 := e2 _ _ hl
      dsimp only [gName]
      refine ⟨_, rfl, l, _, _, _, rfl, rfl, SqL.of hl2, L2.atI_nat (j := 0) ga, _, rfl, _, _, rfl, rfl, shl_ok (n := 20) (Nat.lt_of_le_of_lt (show a.natAbs ≤ 2000 by omega) (by decide)) (by omega), ?_⟩
      refine ⟨_, rfl, _, _, rfl, rfl, shl_ok (n := 1) (by decide) (by omega), _, rfl, rfl, ?_⟩
      refine .inr ⟨_, rfl, ?_⟩
      have espan : (1 : Int) * 2 ^ (i : Int).toNat * (if (!decide (V.int g = V.int 0)) = true then (1 : Int) else 0) = if g ≠ 0 then 2 ^ i else 0 := by
        rw [Int.one_mul, Int.toNat_natCast]
        by_cases z : g = 0
        · simp [z]
        · simp [z]
      have p11 : (2 : Int) ^ i ≤ 2048 := by
        have := pow2_le i11
        have e11 : (2 : Int) ^ 11 = 2048 := by decide
        omega
      have p1 : (1 : Int) ≤ 2 ^ i := pow2_pos i
      refine ⟨_, _, rfl, rfl, mul_ok (.inr ⟨by split <;> decide, by split <;> decide⟩), ?_⟩
      dsimp only
      rw [espan]
      have ht := fun e => hit_totals (p := p) (e := e) n0 one
      have sp0 : 0 ≤ (if g ≠ 0 then (2 : Int) ^ i else 0) ∧ (if g ≠ 0 then (2 : Int) ^ i else 0) ≤ 2048 := by split <;> omega
      have hti := ht i
      generalize (if g ≠ 0 then (2 : Int) ^ i else 0) = sp at sp0 hti
      refine ⟨by show 2 ≤ sizeLine; decide, fun tq htq => ?_⟩
      generalize hG3 : upd H2 tq _ = H2t
      have et := exG hG3 htq
      have htqt := atG hG3
      clear hG3
      refine ⟨tq, _, rfl, SqT.of htqt, rfl, _, _, rfl, _, _, rfl, rfl, ?_⟩
      try dsimp only [gName]
      refine ⟨_, rfl, _, _, rfl, rfl, _, rfl, by omega, by omega, fun D hD => ?_⟩
      have lp : (placesI (sp + 1)).length = (sp + 1).toNat := by unfold placesI; rw [List.length_map, List.length_range]
      refine lc_vals walk_range (((placesI (sp + 1)).map fun j => (a * 2 ^ i + j * g) % n).map V.int) (by rw [List.length_map, List.length_map, lp]) (by omega) hD (fun _ _ => True.intro) ?_ gmono_name ?_
      · rintro j x Hx _ R hj ex ⟨rfl, hx⟩ kk
        obtain rfl : x = .int (j : Int) := hx.trans (congrArg V.int (Int.zero_add _))
        have hj2 : j < (sp + 1).toNat := by omega
        have hjp : (placesI (sp + 1))[j]? = some (j : Int) := by
          unfold placesI
          rw [List.getElem?_map, List.getElem?_range hj2]
          rfl
        refine ⟨rfl, _, rfl, _, rfl, _, rfl, _, _, rfl, rfl, mul_ok (.inr ⟨by omega, by omega⟩), _, _, rfl, rfl, _, rfl, _, _, rfl, rfl, n0, kk _ _ exr ?_⟩
        rw [List.getElem?_map, List.getElem?_map, hjp]
        dsimp only
        rw [Int.toNat_natCast]
        rfl
      intro H3 e3 hD3
      have E3 := ext e2 (ext et e3)
      dsimp only [gName]
      refine ⟨_, rfl, _, rfl, _, _, rfl, rfl, shl_ok (n := 20) (Nat.lt_of_le_of_lt (show p.natAbs ≤ 2000 by omega) (by decide)) (by omega), _, rfl, _, _, rfl, rfl, n0, _, rfl, D, _, rfl, .inl (SqL.of hD3), rfl, flat_ints _, _, rfl, ?_⟩
      rw [in_ints]
      have ep : p * 2 ^ (i : Int).toNat % n = 2 ^ i * p % n := by rw [Int.toNat_natCast, Int.mul_comm]
      by_cases hm : 2 ^ i * p % n ∈ (placesI (sp + 1)).map fun j => (a * 2 ^ i + j * g) % n
      · refine itt (by show decide (p * 2 ^ (i : Int).toNat % n ∈ _) = true; rw [ep]; exact decide_eq_true hm) ⟨_, rfl, k (some i) H3 ⟨ib, hti.mpr hm, no⟩ E3⟩
      · refine itf (by show decide (p * 2 ^ (i : Int).toNat % n ∈ _) = false; rw [ep]; exact decide_eq_false hm) ⟨_, _, _, _, _, rfl, E3, fun d hd h => ?_⟩
        by_cases z : d = i
        · subst z
          exact hm (hti.mp h)
        · exact no d (by omega) h
    · rintro σ H2 ⟨y4, y5, y6, y7, y8, rfl, e2, no⟩
      exact k none H2 (fun d hd h => no d (by omega) h) e2
end

section
variable {P : Program} {w : World} {K : PySem.W.Frag} {mg : Str → Option Value} {base : Heap}
def sp_law_long_scene : Sp := fun vs H Q _ => ∃ (s : Addr) (m : Nat), vs = [.ref s] ∧ Sr5 H s (m + 8) ∧
  ∀ (n p a g : Int) (ts : List Int) (l q : Addr) H2, 1 ≤ n → n ≤ 2000 → 0 ≤ p → p < n → OneTwo ts a g → (∀ t ∈ ts, 0 ≤ t ∧ t < n) → H2 l = some (.lst (ts.map V.int)) → H2 q = some (.tup [.int n, .ref l, .int p]) → XB s H H2 → Sr5 H2 s m → l ≠ s → Q (.ref q) H2
theorem ok_law_long_scene (T : TX K mg) : FnOk P w K mg base CX0 2 T.f_law_long_scene T.fd_law_long_scene ["_law_source_here"] sp_law_long_scene := by
  refine T.F_law_long_scene.ok sc_law_long_scene (fun vs H Q E h => ?_) (fun cdv A outer s H vs Q E hr h => ?_)
  · obtain ⟨s, m, rfl, _⟩ := h
    rfl
  · obtain ⟨s, m, rfl, hs, k⟩ := h
    refine ⟨_, (pss_cons (ps_set (i := 1) sc_law_long_scene.nd rfl (Or.inl rfl) (pe_ix ix_list (pe_lst (pa_cons pe_int (pa_cons pe_int (pa_cons pe_int (pa_cons pe_int (pa_cons pe_int (pa_cons pe_int (pa_cons pe_int (pa_cons (pe_op op_add pe_int (pe_call (ok_law_take T) hr rfl T.m_law_take T.F_law_take.kp T.b_law_take .nil pass0 (pa_cons (pv 0) (pa_cons pe_int pa_nil)))) pa_nil))))))))) (pe_call (ok_law_take T) hr rfl T.m_law_take T.F_law_take.kp T.b_law_take .nil pass0 (pa_cons (pv 0) (pa_cons pe_int pa_nil))) (fun _ _ => rfl))) (pss_cons (ps_set (i := 2) sc_law_long_scene.nd rfl (Or.inl rfl) (pe_call (ok_law_take T) hr rfl T.m_law_take T.F_law_take.kp T.b_law_take .nil pass0 (pa_cons (pv 0) (pa_cons (pv 1) pa_nil)))) (pss_cons (ps_set (i := 3) sc_law_long_scene.nd rfl (Or.inl rfl) (pe_lst (pa_cons (pe_lst (pa_cons (pv 2) pa_nil)) (pa_cons (pe_lst (pa_cons (pv 2) (pa_cons (pe_op op_mod (pe_op op_add (pe_op op_add (pv 2) pe_int) (pe_call (ok_law_take T) hr rfl T.m_law_take T.F_law_take.kp T.b_law_take .nil pass0 (pa_cons (pv 0) (pa_cons (pe_op op_sub (pv 1) pe_int) pa_nil)))) (pv 1)) pa_nil))) (pa_cons (pe_lst (pa_cons (pv 2) (pa_cons (pe_op op_mod (pe_op op_add (pv 2) pe_int) (pv 1)) pa_nil))) pa_nil))))) (pss_cons (ps_set (i := 4) sc_law_long_scene.nd rfl (Or.inl rfl) (pe_lst (pa_cons (pe_call (ok_law_take T) hr rfl T.m_law_take T.F_law_take.kp T.b_law_take .nil pass0 (pa_cons (pv 0) (pa_cons (pv 1) pa_nil))) (pa_cons (pe_op op_mod (pe_op op_add (pe_op op_add (pv 2) pe_int) (pe_op op_mulI pe_int (pe_call (ok_law_take T) hr rfl T.m_law_take T.F_law_take.kp T.b_law_take .nil pass0 (pa_cons (pv 0) (pa_cons pe_int pa_nil))))) (pv 1)) (pa_cons (pe_op op_mod (pe_op op_add (pe_op op_add (pv 2) (pe_op op_fdivW (pv 1) pe_int)) pe_int) (pv 1)) pa_nil))))) (pss_one (ps_ret (pe_tup (pa_cons (pv 1) (pa_cons (pe_ix ix_list (pv 3) (pe_call (ok_law_take T) hr rfl T.m_law_take T.F_law_take.kp T.b_law_take .nil pass0 (pa_cons (pv 0) (pa_cons pe_int pa_nil))) (fun _ _ => rfl)) (pa_cons (pe_ix ix_list (pv 4) (pe_call (ok_law_take T) hr rfl T.m_law_take T.F_law_take.kp T.b_law_take .nil pass0 (pa_cons (pv 0) (pa_cons pe_int pa_nil))) (fun _ _ => rfl)) pa_nil)))))))))), ?_⟩
    refine ⟨_, rfl, s, 1745, m + 7, rfl, hs, by decide, by decide +kernel, fun r1 H1 r10 r11 xb1 sr1 => ⟨_, _, rfl, rfl, by show 8 ≤ sizeLine; decide, fun l0 hl0 => ?_⟩⟩
    have nl0 := sr1.ne hl0
    refine ⟨_, rfl, s, 8, m + 6, rfl, sr1.new hl0, by decide, by decide +kernel, fun r2 H2 r20 r21 xb2 sr2 => ?_⟩
    obtain ⟨n, mv, gv⟩ := at_ex (xs := [256, 512, 1024, 1999, 299, 768, 1792, 256 + r1]) r20 r21
    refine ⟨l0, _, _, _, rfl, rfl, SqL.of (xb2 _ _ nl0 upd_same), gv, ?_⟩
    have n2 : 256 ≤ n ∧ n ≤ 2000 := by
      simp only [List.mem_cons, List.not_mem_nil, or_false] at mv
      rcases mv with rfl | rfl | rfl | rfl | rfl | rfl | rfl | rfl <;> omega
    have x12 : XB s H H2 := xb1.trans (XB.trans (XB.of (exn hl0)) xb2)
    have n0 : 0 < n := by omega
    clear gv mv
    dsimp only [gName]
    refine ⟨_, rfl, _, rfl, s, n, m + 5, rfl, sr2, n0, Nat.lt_of_le_of_lt (show n.natAbs ≤ 2000 by omega) (by decide +kernel), fun a H3 a0 a1 xb3 sr3 => ?_⟩
    dsimp only [gName]
    refine ⟨_, rfl, slen rfl, ?_⟩
    (intro l1 nl1; generalize hGl1 : upd _ l1 _ = H4; have eH4 := exG hGl1 nl1; have hl1 := atG hGl1; clear hGl1)
    have nl1 := sr3.ne nl1
    have sr4 := sr3.mono eH4
    refine ⟨_, rfl, _, rfl, _, _, rfl, rfl, _, rfl, _, rfl, _, _, rfl, rfl, s, n - 1, m + 4, rfl, sr4, by omega, Nat.lt_of_le_of_lt (show (n - 1).natAbs ≤ 2000 by omega) (by decide +kernel), fun r3 H5 r30 r31 xb5 sr5 => ⟨_, _, rfl, rfl, _, rfl, _, _, rfl, rfl, n0, slen rfl, ?_⟩⟩
    have hl1 := xb5 _ _ nl1 hl1
    (intro l2 nl2; generalize hGl2 : upd _ l2 _ = H6; have eH6 := exG hGl2 nl2; have hl2 := atG hGl2; clear hGl2)
    have nl2' := sr5.ne nl2
    have sr6 := sr5.mono eH6
    refine ⟨_, rfl, _, rfl, _, _, rfl, rfl, _, rfl, _, _, rfl, rfl, n0, slen rfl, ?_⟩
    (intro l3 nl3; generalize hGl3 : upd _ l3 _ = H7; have eH7 := exG hGl3 nl3; have hl3 := atG hGl3; clear hGl3)
    have nl3' := sr6.ne nl3
    refine ⟨slen rfl, ?_⟩
    (intro L nL; generalize hGL : upd _ L _ = H8; have eH8 := exG hGL nL; have hL := atG hGL; clear hGL)
    have nL' := (sr6.mono eH7).ne nL
    have sr8 := (sr6.mono eH7).mono eH8
    have h81 := eH8 _ _ (eH7 _ _ (eH6 _ _ hl1))
    have h82 := eH8 _ _ (eH7 _ _ hl2)
    have h83 := eH8 _ _ hl3
    have x28 : XB s H H8 := (x12.trans xb3).trans (((XB.of eH4).trans xb5).trans (XB.of (ext eH6 (ext eH7 eH8))))
    dsimp only [gName]
    refine ⟨_, rfl, _, rfl, s, n, m + 3, rfl, sr8, n0, Nat.lt_of_le_of_lt (show n.natAbs ≤ 2000 by omega) (by decide +kernel), fun r4 H9 r40 r41 xb9 sr9 => ?_⟩
    refine ⟨_, rfl, _, _, rfl, rfl, _, rfl, s, 99, m + 2, rfl, sr9, by decide, by decide +kernel, fun r5 H10 r50 r51 xb10 sr10 => ⟨_, _, rfl, rfl, mul_ok (.inl (by decide)), _, _, rfl, rfl, _, rfl, _, _, rfl, rfl, n0, ?_⟩⟩
    refine ⟨_, rfl, _, rfl, _, _, rfl, rfl, ⟨by decide, by decide +kernel⟩, _, _, rfl, rfl, _, _, rfl, rfl, _, rfl, _, _, rfl, rfl, n0, slen rfl, ?_⟩
    have s20 := mod_lo (i := a + 1 + 2 * r5) n0
    have s21 := mod_hi (i := a + 1 + 2 * r5) n0
    have s30 := mod_lo (i := a + n / 2 + 3) n0
    have s31 := mod_hi (i := a + n / 2 + 3) n0
    dsimp only
    generalize (a + 1 + 2 * r5) % n = v2 at s20 s21
    generalize (a + n / 2 + 3) % n = v3 at s30 s31
    (intro S nS; generalize hGS : upd _ S _ = Hb; have eHb := exG hGS nS; have hS := atG hGS; clear hGS)
    have nS' := sr10.ne nS
    have srb := sr10.mono eHb
    have x8b : XB s H8 Hb := xb9.trans (xb10.trans (XB.of eHb))
    dsimp only [gName]
    refine ⟨_, rfl, _, rfl, _, rfl, s, 3, m + 1, rfl, srb, by decide, by decide +kernel, fun r6 Hc r60 r61 xbc src => ?_⟩
    obtain ⟨i6, hi6⟩ : ∃ i : Nat, r6 = (i : Int) := ⟨r6.toNat, by omega⟩
    have x8c := x8b.trans xbc
    have b1 := mod_lo (i := a + 1 + r3) n0
    have b2 := mod_hi (i := a + 1 + r3) n0
    have c1 := mod_lo (i := a + 1) n0
    have c2 := mod_hi (i := a + 1) n0
    have ne1 : (a + 1 + r3) % n - a ≠ 0 := fun z => by
      have h1 : (a + 1 + r3) % n = a % n := by rw [Int.emod_eq_of_lt a0 a1]; omega
      have h2 : n ≤ 1 + r3 := Int.le_of_dvd (by omega) (by have := emod_eq_iff.mp h1; rwa [show a + 1 + r3 - a = 1 + r3 by omega] at this)
      omega
    have ne2 : (a + 1) % n - a ≠ 0 := fun z => by
      have h1 : (a + 1) % n = a % n := by rw [Int.emod_eq_of_lt a0 a1]; omega
      have h2 : n ≤ 1 := Int.le_of_dvd (by omega) (by have := emod_eq_iff.mp h1; rwa [show a + 1 - a = 1 by omega] at this)
      omega
    obtain ⟨l, ts, g, gl, one, inr, hlc, nls⟩ : ∃ (l : Addr) (ts : List Int) (g : Int), atI [V.ref l1, V.ref l2, V.ref l3] r6 = some (.ref l) ∧ OneTwo ts a g ∧ (∀ t ∈ ts, 0 ≤ t ∧ t < n) ∧ Hc l = some (.lst (ts.map V.int)) ∧ l ≠ s := by
      have h6 : r6 = 0 ∨ r6 = 1 ∨ r6 = 2 := by omega
      rcases h6 with rfl | rfl | rfl
      · exact ⟨l1, [a], 0, rfl, .inl ⟨rfl, rfl⟩, fun t ht => by rw [List.mem_singleton.mp ht]; exact ⟨a0, a1⟩, x8c _ _ nl1 h81, nl1⟩
      · refine ⟨l2, [a, (a + 1 + r3) % n], _, rfl, .inr ⟨_, rfl, rfl, ne1⟩, fun t ht => ?_, x8c _ _ nl2' h82, nl2'⟩
        simp only [List.mem_cons, List.not_mem_nil, or_false] at ht
        rcases ht with rfl | rfl <;> constructor <;> assumption
      · refine ⟨l3, [a, (a + 1) % n], _, rfl, .inr ⟨_, rfl, rfl, ne2⟩, fun t ht => ?_, x8c _ _ nl3' h83, nl3'⟩
        simp only [List.mem_cons, List.not_mem_nil, or_false] at ht
        rcases ht with rfl | rfl <;> constructor <;> assumption
    refine ⟨L, _, _, _, rfl, rfl, SqL.of (x8c _ _ nL' hL), gl, ?_⟩
    refine ⟨_, rfl, _, rfl, s, 3, m, rfl, src, by decide, by decide +kernel, fun r7 Hd r70 r71 xbd srd => ?_⟩
    obtain ⟨p, mp, gp⟩ := at_ex (xs := [r4, v2, v3]) r70 r71
    have pp : 0 ≤ p ∧ p < n := by
      simp only [List.mem_cons, List.not_mem_nil, or_false] at mp
      rcases mp with rfl | rfl | rfl <;> constructor <;> assumption
    refine ⟨S, _, _, _, rfl, rfl, SqL.of (xbd _ _ nS' (xbc _ _ nS' hS)), gp, slen rfl, ?_⟩
    (intro q nq; generalize hGq : upd _ q _ = He; have eHe := exG hGq nq; have hq := atG hGq; clear hGq)
    exact k n p a g ts l q He (by omega) n2.2 pp.1 pp.2 one inr (eHe _ _ (xbd _ _ nls hlc)) hq (x28.trans (x8c.trans (xbd.trans (XB.of eHe)))) (srd.mono eHe) nls
end

/-- a mask's bits, one by one -/
def bitV (n B : Nat) : List V := (List.range n).map fun q => V.bl (B.testBit q)
theorem bitV_len (n B : Nat) : (bitV n B).length = n := by unfold bitV; rw [List.length_map, List.length_range]
theorem bitV_at {n B q : Nat} (h : q < n) : (bitV n B)[q]? = some (V.bl (B.testBit q)) := by
  unfold bitV
  rw [List.getElem?_map, List.getElem?_range h]
  rfl
theorem bitV_set {n B r : Nat} (h : r < n) : (bitV n B).set r (V.bl true) = bitV n (B ||| 2 ^ r) := by
  refine List.ext_getElem? fun i => ?_
  by_cases hi : i < n
  · rw [bitV_at hi]
    by_cases e : i = r
    · subst e
      rw [List.getElem?_set_self (by rw [bitV_len]; exact hi), Nat.testBit_or, Nat.testBit_two_pow, decide_eq_true rfl, Bool.or_true]
    · rw [List.getElem?_set_ne (fun z => e z.symm), bitV_at hi, Nat.testBit_or, Nat.testBit_two_pow, decide_eq_false (fun z => e z.symm), Bool.or_false]
  · rw [List.getElem?_eq_none (by rw [List.length_set, bitV_len]; omega), List.getElem?_eq_none (by rw [bitV_len]; omega)]
/-- places of a mask, as numbers -/
def spotsN (n B : Nat) : List Nat := (List.range n).filter fun q => B.testBit q
theorem mem_spots {n B q : Nat} : q ∈ spotsN n B ↔ q < n ∧ B.testBit q = true := by
  unfold spotsN
  rw [List.mem_filter, List.mem_range]
section
variable {P : Program} {w : World} {K : PySem.W.Frag} {mg : Str → Option Value} {base : Heap}
def sp_law_doubled : Sp := fun vs H Q _ => ∃ (n B : Nat) (a : Addr), vs = [.int n, .ref a] ∧ 0 < n ∧ n ≤ 2000 ∧ B < 2 ^ n ∧ H a = some (.lst (bitV n B)) ∧
  ∀ (l : Addr) H2, Ex H H2 → H l = none → H2 l = some (.lst (bitV n (dblN n B))) → Q (.ref l) H2
theorem ok_law_doubled (T : TX K mg) : FnOk P w K mg base CX0 1 T.f_law_doubled T.fd_law_doubled ["_law_ring", "_law_present"] sp_law_doubled := by
  refine T.F_law_doubled.ok sc_law_doubled (fun vs H Q E h => ?_) (fun cdv A outer s H vs Q E hr h => ?_)
  · obtain ⟨n, B, a, rfl, _⟩ := h
    rfl
  · obtain ⟨n, B, a, rfl, n0, n2, hB, ha, k⟩ := h
    refine ⟨_, (pss_cons (ps_set (i := 2) sc_law_doubled.nd rfl (Or.inl rfl) (pe_op op_rep (pe_lst (pa_cons pe_bl pa_nil)) (pv 0))) (pss_cons (ps_setLc (own := [("_law_spot", 6)]) (g := (gName 6)) (i := 3) rfl sc_law_doubled.nd rfl rfl (sw_true rfl rfl rfl (by decide +kernel)) (pi_range1 rfl T.z_range (pa_cons (pv 0) pa_nil)) (blkOk_by (N := N_law_doubled) (sc := defScope s_law_doubled) (by decide +kernel)) (fun _ _ _ _ _ => (pg_name (i := 6) sc_law_doubled.nd rfl (Or.inl rfl))) (fun _ _ _ _ _ => (pts_one (pt_val (pe_ix (r := rIxL K) ix_list (pv 1) (pv 6) (fun _ _ => rfl))))) (fun _ _ _ _ _ => (pv 6))) (pss_cons (ps_for PassesOwn.never rfl (pi_list (pv 3)) (pg_name (i := 4) sc_law_doubled.nd rfl (Or.inl rfl)) (pss_one (ps_for PassesOwn.never rfl (pi_list (pv 3)) (pg_name (i := 5) sc_law_doubled.nd rfl (Or.inl rfl)) (pss_one (ps_asg pe_bl (pg_sub (pv 2) (pe_op op_mod (pe_op op_add (pv 4) (pv 5)) (pv 0)) set_list)))))) (pss_one (ps_ret (pv 2)))))), ?_⟩
    refine ⟨slen rfl, fun b hb => ?_⟩
    refine ⟨_, rfl, b, _, _, rfl, rfl, upd_same, by omega, by omega, by rw [Int.toNat_natCast]; exact Nat.le_trans (show 1 * n ≤ 2000 by omega) (by decide), fun f hf => ?_⟩
    have er : (List.replicate (n : Int).toNat [V.bl false]).flatten = bitV n 0 := by
      rw [Int.toNat_natCast]
      unfold bitV
      simp [List.map_const']
    rw [er]
    generalize hG : upd (upd H b _) f _ = H1
    have e1 : Ex H H1 := by rw [← hG]; exact ext (exn hb) (exn hf)
    have hf1 : H1 f = some (.lst (bitV n 0)) := by rw [← hG]; exact upd_same
    have nf : H f = none := by
      cases z : H f with
      | none => rfl
      | some o => rw [exn hb _ _ z] at hf; cases hf
    dsimp only [gName]
    refine ⟨_, rfl, n, rfl, by omega, by omega, fun D hD => ?_⟩
    refine lc_filt walk_range (List.range n) (fun p => B.testBit p) (fun p => V.int (p : Int)) (by rw [List.length_range]; omega) (by omega) hD (fun _ _ => True.intro) ?_ ?_
    · rintro i x p Hx _ R S hp ex ⟨rfl, hx⟩ kR kS
      obtain rfl : x = .int (i : Int) := hx.trans (congrArg V.int (Int.zero_add _))
      obtain ⟨hi2, e⟩ := List.getElem?_eq_some_iff.mp hp
      rw [List.getElem_range] at e
      rw [List.length_range] at hi2
      subst e
      refine ⟨rfl, _, rfl, _, rfl, a, _, _, _, rfl, rfl, SqL.of ((ext e1 ex) _ _ ha), atI_nat (bitV_at hi2), _, rfl, ?_⟩
      by_cases h : B.testBit i = true
      · rw [h]
        exact itt rfl ⟨_, rfl, kR _ _ exr h rfl⟩
      · rw [show B.testBit i = false by simpa using h]
        exact itf rfl (kS _ exr (by simpa using h))
    intro H2 e2 hD2
    dsimp only [gName]
    have hD2 : H2 D = some (.lst ((spotsN n B).map fun (p : Nat) => V.int (p : Int))) := hD2
    refine ⟨_, rfl, D, rfl, ⟨_, SqL.of hD2⟩, ?_⟩
    have hf2 := e2 _ _ hf1
    have Df : D ≠ f := (ne_of_none hf1 hD).symm
    refine for_it (walk_list (xs := (spotsN n B).map fun (p : Nat) => V.int (p : Int))) (fun i σ Hx => ∃ (y5 y6 : Option V) (F : Nat), σ = [some (.int n), some (.ref a), some (.ref f), some (.ref D), y5, y6, none] ∧ Hx f = some (.lst (bitV n F)) ∧ (∀ q, q < n → (F.testBit q = true ↔ ∃ x ∈ (spotsN n B).take i, ∃ y ∈ spotsN n B, (x + y) % n = q)) ∧ XB f H2 Hx) ⟨_, _, 0, rfl, hf2, by simp, fun _ _ _ z => z⟩ (fun i σ Hx _ ⟨_, _, _, _, _, _, xb⟩ => SqL.of (xb _ _ Df hD2)) ?_ ?_
    · rintro i x σ _ Hx hi ⟨y5, y6, F, rfl, hfx, hF, xb⟩ ⟨rfl, hx⟩
      rw [List.getElem?_map] at hx
      obtain ⟨u, hu, rfl⟩ := Option.map_eq_some_iff.mp hx
      obtain ⟨un, uB⟩ := mem_spots.mp (List.mem_of_getElem? hu)
      dsimp only [gName]
      refine ⟨_, rfl, D, rfl, ⟨_, SqL.of (xb _ _ Df hD2)⟩, ?_⟩
      refine for_it (walk_list (xs := (spotsN n B).map fun (p : Nat) => V.int (p : Int))) (fun j σ Hy => ∃ (y6 : Option V) (F : Nat), σ = [some (.int n), some (.ref a), some (.ref f), some (.ref D), some (.int (u : Int)), y6, none] ∧ Hy f = some (.lst (bitV n F)) ∧ (∀ q, q < n → (F.testBit q = true ↔ (∃ x ∈ (spotsN n B).take i, ∃ y ∈ spotsN n B, (x + y) % n = q) ∨ ∃ y ∈ (spotsN n B).take j, (u + y) % n = q)) ∧ XB f H2 Hy) ⟨_, F, rfl, hfx, fun q hq => by rw [hF q hq]; simp, xb⟩ (fun i σ Hx _ ⟨_, _, _, _, _, xb⟩ => SqL.of (xb _ _ Df hD2)) ?_ ?_
      · rintro j x σ _ Hy hj ⟨y6, G, rfl, hfy, hG2, xby⟩ ⟨rfl, hx⟩
        rw [List.getElem?_map] at hx
        obtain ⟨v, hv, rfl⟩ := Option.map_eq_some_iff.mp hx
        obtain ⟨vn, vB⟩ := mem_spots.mp (List.mem_of_getElem? hv)
        dsimp only [gName]
        have uv : (u + v) % n < n := Nat.mod_lt _ n0
        have euv : ((u : Int) + (v : Int)) % (n : Int) = (((u + v) % n : Nat) : Int) := by rw [Int.natCast_emod, Int.natCast_add]
        refine ⟨_, rfl, _, rfl, _, rfl, _, _, rfl, rfl, _, rfl, _, _, rfl, rfl, (by show (0 : Int) < (n : Int); omega), ?_⟩
        dsimp only
        rw [euv]
        refine ⟨f, _, _, _, rfl, rfl, hfy, Evl.ixN_nat (by rw [bitV_len]; exact uv), _, G ||| 2 ^ ((u + v) % n), rfl, ?_, fun q hq => ?_, xby.trans XB.upd⟩
        · rw [bitV_set uv]
          exact upd_same
        · rw [Nat.testBit_or, Bool.or_eq_true, hG2 q hq, Nat.testBit_two_pow, decide_eq_true_iff, take_more hv]
          constructor
          · rintro ((h | ⟨y, hy, e⟩) | h)
            · exact .inl h
            · exact .inr ⟨y, List.mem_append.mpr (.inl hy), e⟩
            · exact .inr ⟨v, List.mem_append.mpr (.inr (List.mem_singleton.mpr rfl)), h⟩
          · rintro (h | ⟨y, hy, e⟩)
            · exact .inl (.inl h)
            · rcases List.mem_append.mp hy with z | z
              · exact .inl (.inr ⟨y, z, e⟩)
              · rw [List.mem_singleton.mp z] at e
                exact .inr e
      · rintro σ Hy ⟨y6, G, rfl, hfy, hG2, xby⟩
        refine ⟨_, _, G, rfl, hfy, fun q hq => ?_, xby⟩
        have hl : (spotsN n B).take ((spotsN n B).map fun (p : Nat) => V.int (p : Int)).length = spotsN n B := by rw [List.length_map]; exact List.take_length ..
        rw [hG2 q hq, take_more hu, hl]
        constructor
        · rintro (⟨x, hx, y, hy, e⟩ | ⟨y, hy, e⟩)
          · exact ⟨x, List.mem_append.mpr (.inl hx), y, hy, e⟩
          · exact ⟨u, List.mem_append.mpr (.inr (List.mem_singleton.mpr rfl)), y, hy, e⟩
        · rintro ⟨x, hx, y, hy, e⟩
          rcases List.mem_append.mp hx with z | z
          · exact .inl ⟨x, z, y, hy, e⟩
          · rw [List.mem_singleton.mp z] at e
            exact .inr ⟨y, hy, e⟩
    · rintro σ Hx ⟨y5, y6, F, rfl, hfx, hF, xb⟩
      have cf : ∀ c o, H c = some o → c ≠ f := fun c o z y => by rw [y, nf] at z; cases z
      refine ⟨_, rfl, k f Hx (fun c o z => xb _ _ (cf c o z) (e2 _ _ (e1 _ _ z))) nf ?_⟩
      rw [hfx]
      congr 2
      unfold bitV
      refine List.map_congr_left fun q hq => ?_
      have hl : (spotsN n B).take ((spotsN n B).map fun (p : Nat) => V.int (p : Int)).length = spotsN n B := by rw [List.length_map]; exact List.take_length ..
      have qn := List.mem_range.mp hq
      have h1 := hF q qn
      rw [hl] at h1
      congr 1
      rw [Bool.eq_iff_iff, h1, dbl_bit hB]
      constructor
      · rintro ⟨x, hx, y, hy, e⟩
        obtain ⟨x1, x2⟩ := mem_spots.mp hx
        obtain ⟨y1, y2⟩ := mem_spots.mp hy
        exact ⟨qn, x, y, x1, y1, x2, y2, e⟩
      · rintro ⟨_, x, y, x1, y1, x2, y2, e⟩
        exact ⟨x, mem_spots.mpr ⟨x1, x2⟩, y, mem_spots.mpr ⟨y1, y2⟩, e⟩
end
theorem last_at {α : Type} {xs : List α} {i : Nat} {v : α} (l : xs.length = i + 1) (h : xs[i]? = some v) : atI xs (-1) = some v := by
  have e : xs = xs.take i ++ [v] := by
    rw [← take_more h, ← l, List.take_length]
  rw [e]
  exact atI_fin _ _
/-- rows of bits, one for each number of calls -/
def RowsB (H : Hp) (l : Addr) (n : Nat) (ts : List Int) (d : Nat) : Prop := ∃ as : List Addr, as.length = d + 1 ∧ H l = some (.lst (as.map V.ref)) ∧ ∀ c a, as[c]? = some a → H a = some (.lst (bitV n (layN n ts c)))
theorem in_bits {ts : List Int} {q : Nat} : inV (V.int (q : Int)) (ts.map V.int) = decide ((q : Int) ∈ ts) := in_ints _ _
section
variable {P : Program} {w : World} {K : PySem.W.Frag} {mg : Str → Option Value} {base : Heap}
def sp_law_reached : Sp := fun vs H Q _ => ∃ (n d : Nat) (q : Bool × Addr) (ts : List Int), vs = [.int n, .ref q.2, .int d] ∧ 0 < n ∧ n ≤ 2000 ∧ d ≤ 40 ∧ SqH H q (ts.map V.int) ∧ (∀ t ∈ ts, 0 ≤ t ∧ t < (n : Int)) ∧
  ∀ (l : Addr) H2, Ex H H2 → H l = none → RowsB H2 l n ts d → Q (.ref l) H2
theorem ok_law_reached (T : TX K mg) : FnOk P w K mg base CX0 2 T.f_law_reached T.fd_law_reached ["_law_ring", "_law_goals", "_law_depth"] sp_law_reached := by
  refine T.F_law_reached.ok sc_law_reached (fun vs H Q E h => ?_) (fun cdv A outer s H vs Q E hr h => ?_)
  · obtain ⟨n, d, q, ts, rfl, _⟩ := h
    rfl
  · obtain ⟨n, d, q, ts, rfl, n0, n2, d40, hq, inr, k⟩ := h
    refine ⟨_, (pss_cons (ps_set (i := 3) sc_law_reached.nd rfl (Or.inl rfl) (pe_lst (pa_cons (pe_lc (own := [("_law_spot", 5)]) (g := (gName 5)) rfl sc_law_reached.nd (pi_range1 rfl T.z_range (pa_cons (pv 0) pa_nil)) (blkOk_by (N := N_law_reached) (sc := defScope s_law_reached) (by decide +kernel)) (fun _ _ _ _ _ => (pg_name (i := 5) sc_law_reached.nd rfl (Or.inl rfl))) (fun _ _ _ _ _ => pts_nil) (fun _ _ _ _ _ => (pe_cmpR (r := rIn K false) op_in_seq (pv 5) (pv 1) rfl))) pa_nil))) (pss_cons (ps_for PassesOwn.never rfl (pi_range1 rfl T.z_range (pa_cons (pv 2) pa_nil)) (pg_name (i := 4) sc_law_reached.nd rfl (Or.inl rfl)) (pss_one (ps_expr (pe_bm PySem.F.plainAttrs_list PySem.F.slot_list_append PySem.F.type_list_append mt_append (pv 3) (pa_cons (pe_call (ok_law_doubled T) hr rfl T.m_law_doubled T.F_law_doubled.kp T.b_law_doubled .nil pass0 (pa_cons (pv 0) (pa_cons (pe_ix ix_list (pv 3) (pe_un un_neg pe_int) (fun _ _ => rfl)) pa_nil))) pa_nil))))) (pss_one (ps_ret (pv 3))))), ?_⟩
    refine ⟨_, rfl, n, rfl, by omega, by omega, fun D hD => ?_⟩
    have ev : ∀ i, i < n → decide ((i : Int) ∈ ts) = (layN n ts 0).testBit i := fun i hi => by
      rw [Bool.eq_iff_iff, decide_eq_true_iff]
      show _ ↔ (bitsN ts).testBit i = true
      rw [bits_bit]
      constructor
      · exact fun h => ⟨_, h, by omega⟩
      · rintro ⟨t, ht, e⟩
        have := (inr t ht).1
        exact (show (i : Int) = t by omega) ▸ ht
    refine lc_vals walk_range (bitV n (layN n ts 0)) (by rw [bitV_len]; omega) (by omega) hD (fun _ _ => True.intro) ?_ gmono_name ?_
    · rintro i x Hx _ R hi ex ⟨rfl, hx⟩ kk
      obtain rfl : x = .int (i : Int) := hx.trans (congrArg V.int (Int.zero_add _))
      have hi2 : i < n := by omega
      refine ⟨rfl, _, rfl, _, rfl, q.2, _, rfl, sq_or (hq.mono ex), rfl, flat_ints _, ?_⟩
      rw [in_ints, ev i hi2]
      exact kk _ _ exr (bitV_at hi2)
    intro H1 e1 hD1
    refine ⟨slen rfl, ?_⟩
    (intro f nf; generalize hGf : upd _ f _ = H2; have eH2 := exG hGf nf; have hf := atG hGf; clear hGf)
    have hD2 := eH2 _ _ hD1
    dsimp only [gName]
    refine ⟨_, rfl, d, rfl, by omega, by omega, ?_⟩
    have E2 := ext e1 eH2
    have Df : D ≠ f := ne_of_none hD1 nf
    refine for_it walk_range (fun i σ Hx => ∃ (y4 : Option V) (as : List Addr), σ = [some (.int n), some (.ref q.2), some (.int d), some (.ref f), y4, none] ∧ as.length = i + 1 ∧ Hx f = some (.lst (as.map V.ref)) ∧ (∀ c a, as[c]? = some a → a ≠ f ∧ Hx a = some (.lst (bitV n (layN n ts c)))) ∧ XB f H2 Hx) ⟨_, [D], rfl, rfl, hf, fun c a e => ?_, fun _ _ _ z => z⟩ (fun _ _ _ _ _ => True.intro) ?_ ?_
    · cases c with
      | zero =>
        obtain rfl := Option.some.inj e
        exact ⟨Df, hD2⟩
      | succ c => simp at e
    · rintro i x σ _ Hx hi ⟨y4, as, rfl, la, hfx, rows, xb⟩ ⟨rfl, hx⟩
      have hi2 : i < d := by omega
      dsimp only [gName]
      obtain ⟨a, ha⟩ : ∃ a, as[i]? = some a := ⟨_, List.getElem?_eq_getElem (by omega)⟩
      obtain ⟨af, hal⟩ := rows i a ha
      have hlast : atI (as.map V.ref) (-1) = some (V.ref a) := by
        exact last_at (i := i) (by rw [List.length_map, la]) (by rw [List.getElem?_map, ha]; rfl)
      refine ⟨_, rfl, .inl ⟨rfl, _, SqL.of hfx⟩, _, rfl, _, rfl, 1, rfl, f, _, _, _, rfl, rfl, SqL.of hfx, hlast, ?_⟩
      dsimp only [tNil, List.append_nil]
      refine ⟨n, layN n ts i, a, rfl, n0, n2, lay_lt inr i, hal, fun b H4 e4 nb hb => ?_⟩
      refine ⟨f, _, _, rfl, rfl, e4 _ _ hfx, by rw [List.length_map]; exact Nat.lt_of_le_of_lt (show as.length ≤ 100 by omega) (by decide), ?_⟩
      have bf : b ≠ f := (ne_of_none hfx nb).symm
      refine ⟨_, as ++ [b], rfl, by rw [List.length_append, la]; rfl, by rw [upd_same, List.map_append]; rfl, fun c u e => ?_, xb.trans ((XB.of e4).trans XB.upd)⟩
      by_cases cc : c < as.length
      · rw [List.getElem?_append_left cc] at e
        obtain ⟨h1, h2⟩ := rows c u e
        exact ⟨h1, by rw [upd_ne h1]; exact e4 _ _ h2⟩
      · have hc : c = i + 1 := by
          have := (List.getElem?_eq_some_iff.mp e).1
          rw [List.length_append] at this
          simp at this
          omega
        subst hc
        rw [List.getElem?_append_right (by omega), la, Nat.sub_self] at e
        obtain rfl := Option.some.inj e
        exact ⟨bf, by rw [upd_ne bf]; exact hb⟩
    · rintro σ Hx ⟨y4, as, rfl, la, hfx, rows, xb⟩
      refine ⟨_, rfl, k f Hx (fun c o z => ?_) ?_ ⟨as, by omega, hfx, fun c a e => (rows c a e).2⟩⟩
      · have cf : c ≠ f := fun y => by
          have := E2 _ _ z
          rw [y] at z
          rw [e1 _ _ z] at nf
          cases nf
        exact xb _ _ cf (E2 _ _ z)
      · cases z : H f with
        | none => rfl
        | some o => rw [e1 _ _ z] at nf; cases nf
end

theorem use_sum {n p : Int} {c : Nat} {q : Bool × Addr} {ts : List Int} {H : Hp} {Q : VK} {E : XK} (n0 : 0 < n) (n2 : n ≤ 2000) (p0 : 0 ≤ p) (p1 : p < n) (hq : SqH H q (ts.map V.int)) (ne : ts ≠ []) (lt : ts.length ≤ 100000) (inr : ∀ t ∈ ts, 0 ≤ t ∧ t < n) (nod : ts.Nodup) (c40 : c ≤ 40)
    (kn : ¬ Hit n ts p c → ∀ H2, Ex H H2 → Q .non H2)
    (ky : Hit n ts p c → ∀ (l : Addr) (cs : List Int) H2, Ex H H2 → H l = none → H2 l = some (.lst (cs.map V.int)) → cs = csF n.toNat ts p.toNat c → cs.length = ts.length → (∀ x ∈ cs, 0 ≤ x ∧ x ≤ 2 ^ c) → cs.sum = 2 ^ c → n ∣ wsum cs ts - 2 ^ c * p → Q (.ref l) H2) : sp_sum_counts [.int n, .ref q.2, .int p, .int c] H Q E := by
  obtain ⟨m, rfl⟩ : ∃ m : Nat, n = (m : Int) := ⟨n.toNat, by omega⟩
  obtain ⟨r, rfl⟩ : ∃ m : Nat, p = (m : Int) := ⟨p.toNat, by omega⟩
  have pm : r < m := by omega
  refine ⟨m, c, r, q, ts, rfl, by omega, by omega, c40, pm, hq, ne, lt, inr, nod, fun no => kn fun h => ?_, fun yes => ky ((bit_hit pm inr).mp yes)⟩
  rw [(bit_hit pm inr).mpr h] at no
  cases no
theorem bits_small {n : Int} (h0 : 1 ≤ n) (h1 : n ≤ 2000) : Builtin.Int.intBits n ≤ 11 := by
  unfold Builtin.Int.intBits
  split
  · omega
  · have := (Nat.log2_lt (n := n.natAbs) (k := 11) (by omega)).mpr (by show _ < 2048; omega)
    omega
section
variable {P : Program} {w : World} {K : PySem.W.Frag} {mg : Str → Option Value} {base : Heap}
def sp_law_long_right : Sp := fun vs H Q _ => ∃ (s : Addr) (m : Nat), vs = [.ref s] ∧ Sr5 H s (m + 8) ∧ ∀ H2, Q (.bl true) H2
theorem ok_law_long_right (T : TX K mg) : FnOk P w K mg base CX0 6 T.f_law_long_right T.fd_law_long_right ["_law_source_here"] sp_law_long_right := by
  refine T.F_law_long_right.ok sc_law_long_right (fun vs H Q E h => ?_) (fun cdv A outer s H vs Q E hr h => ?_)
  · obtain ⟨s, m, rfl, _⟩ := h
    rfl
  · obtain ⟨s, m, rfl, src, k⟩ := h
    refine ⟨_, (pss_cons (ps_asg (pe_call (ok_law_long_scene T) (hr.mono (by decide)) rfl T.m_law_long_scene T.F_law_long_scene.kp T.b_law_long_scene .nil pass0 (pa_cons (pv 0) pa_nil)) (pg_tup rfl (pgs_cons (pg_name (i := 1) sc_law_long_right.nd rfl (Or.inl rfl)) (pgs_cons (pg_name (i := 2) sc_law_long_right.nd rfl (Or.inl rfl)) (pgs_cons (pg_name (i := 3) sc_law_long_right.nd rfl (Or.inl rfl)) pgs_nil))))) (pss_cons (ps_set (i := 4) sc_law_long_right.nd rfl (Or.inl rfl) (pe_call (ok_law_least T) (hr.mono (by decide)) rfl T.m_law_least T.F_law_least.kp T.b_law_least .nil pass0 (pa_cons (pv 1) (pa_cons (pv 2) (pa_cons (pv 3) pa_nil))))) (pss_cons (ps_if (pt_cmpR op_isN (pv 4) pe_non (nomark _)) (pss_one (ps_ret (pe_cmpR op_isN (pe_call (ok_sum_counts T) hr rfl T.m_sum_counts T.F_sum_counts.kp T.b_sum_counts .nil pass0 (pa_cons (pv 1) (pa_cons (pv 2) (pa_cons (pv 3) (pa_cons pe_int pa_nil))))) pe_non (nomark _)))) pss_nil) (pss_cons (ps_if (pt_not (pt_val (pe_call (ok_law_is_sum T) (hr.mono (by decide)) rfl T.m_law_is_sum T.F_law_is_sum.kp T.b_law_is_sum .nil pass0 (pa_cons (pv 1) (pa_cons (pv 2) (pa_cons (pv 3) (pa_cons (pv 4) (pa_cons (pe_call (ok_sum_counts T) hr rfl T.m_sum_counts T.F_sum_counts.kp T.b_sum_counts .nil pass0 (pa_cons (pv 1) (pa_cons (pv 2) (pa_cons (pv 3) (pa_cons (pv 4) pa_nil))))) pa_nil)))))))) (pss_one (ps_ret pe_bl)) pss_nil) (pss_one (ps_ret (pe_or (pe_cmpR op_eq (pv 4) pe_int (nomark _)) (pe_one (pe_cmpR op_isN (pe_call (ok_sum_counts T) hr rfl T.m_sum_counts T.F_sum_counts.kp T.b_sum_counts .nil pass0 (pa_cons (pv 1) (pa_cons (pv 2) (pa_cons (pv 3) (pa_cons (pe_op op_sub (pv 4) pe_int) pa_nil))))) pe_non (nomark _)))))))))), ?_⟩
    refine ⟨_, rfl, s, m, rfl, src, fun n p x g ts l q H4 n1 n2 p0 p1 one inr hl hq xb sr4 nls => ?_⟩
    refine ⟨q, _, rfl, SqT.of hq, rfl, _, _, rfl, _, _, rfl, _, _, rfl, rfl, ?_⟩
    have ne : ts ≠ [] := by rcases one with ⟨rfl, _⟩ | ⟨b, rfl, _⟩ <;> simp
    have nod : ts.Nodup := by
      rcases one with ⟨rfl, _⟩ | ⟨b, rfl, hg, hn⟩
      · simp
      · have : x ≠ b := fun e => hn (by rw [hg, e]; omega)
        simp [this]
    have lt : ts.length ≤ 2 := by rcases one with ⟨rfl, _⟩ | ⟨b, rfl, _⟩ <;> simp
    refine ⟨_, rfl, _, rfl, _, rfl, n, p, l, ts, x, g, rfl, n1, n2, p0, p1, hl, one, inr, fun o H5 mo e5 => ?_⟩
    dsimp only [gName]
    have n0 : 0 < n := by omega
    cases o with
    | none =>
      refine ⟨_, rfl, rfl, _, rfl, itt rfl ?_⟩
      refine ⟨_, rfl, _, rfl, _, rfl, ?_⟩
      have no3 : ¬ Hit n ts p 3 := fun h => by
        obtain ⟨t0, ht⟩ := List.exists_mem_of_ne_nil _ ne
        exact mo _ (Nat.le_refl _) (hit_bound n0 ht (bits_gt n0) h)
      dsimp only [tCons, tC, tNil, List.append_nil]
      refine use_sum (c := 3) (q := (false, l)) n0 n2 p0 p1 (e5 _ _ hl) ne (by omega) inr nod (by decide) (fun _ H6 e6 => ⟨rfl, k _⟩) (fun h => absurd h no3)
    | some c =>
      obtain ⟨cB, hit, least⟩ := mo
      have c40 : c ≤ 40 := by
        have : Builtin.Int.intBits n ≤ 11 := bits_small n1 n2
        omega
      refine ⟨_, rfl, rfl, _, rfl, itf rfl ?_⟩
      refine ⟨_, rfl, _, rfl, _, rfl, _, rfl, _, rfl, _, rfl, _, rfl, _, rfl, ?_⟩
      dsimp only [tNil, List.append_nil]
      refine use_sum (q := (false, l)) n0 n2 p0 p1 (e5 _ _ hl) ne (by omega) inr nod c40 (fun h => absurd hit h) (fun _ m2 cs H6 e6 nm hm ecs lcs pos esum dv => ?_)
      refine ⟨n, p, c, l, m2, ts, cs, rfl, n1, p0, p1, by omega, by omega, (ext e5 e6) _ _ hl, hm, lcs, by omega, inr, pos, esum, dv, fun H7 e7 => ?_⟩
      refine ⟨_, rfl, itf rfl ?_⟩
      refine ⟨_, rfl, rfl, _, rfl, ?_⟩
      by_cases c0 : c = 0
      · exact itt (by subst c0; rfl) (k _)
      refine itf (by show decide (V.int (c : Int) = V.int 0) = false; rw [dec_int]; exact decide_eq_false (by omega)) ?_
      refine ⟨_, rfl, _, rfl, _, rfl, _, rfl, _, _, rfl, rfl, ?_⟩
      dsimp only [tNil, List.append_nil]
      have ec : ((c : Int) - 1) = ((c - 1 : Nat) : Int) := by omega
      rw [ec]
      refine use_sum (q := (false, l)) n0 n2 p0 p1 ((ext e5 (ext e6 e7)) _ _ hl) ne (by omega) inr nod (by omega) (fun _ H8 e8 => ⟨rfl, k _⟩) (fun h => absurd h (least _ (by omega)))
end

theorem ifs_ex {c : TT} {t u : TS} {D : Ends} {σ : L2.St} {H : Hp} (h : ∀ N : L2.St → Hp → Prop, (∀ H2, Ex H H2 → N σ H2) → tIfS c t u { D with nx := N } σ H) (hR : ∀ H2, Ex H H2 → D.nx σ H2) : tIfS c t u D σ H :=
  ifs_cutG (fun σ2 H2 => σ2 = σ ∧ Ex H H2) (by rintro σ2 H2 ⟨rfl, e⟩; exact hR H2 e) (fun N hN => h N fun H2 e => hN σ H2 ⟨rfl, e⟩)
theorem sif_ex {c : TT} {t u r : TS} {D : Ends} {σ : L2.St} {H : Hp} (h : ∀ N : L2.St → Hp → Prop, (∀ H2, Ex H H2 → N σ H2) → tIfS c t u { D with nx := N } σ H) (hR : ∀ H2, Ex H H2 → r D σ H2) : tSeq (tIfS c t u) r D σ H :=
  ifs_ex (D := { D with nx := r D }) h hR

/-! ### data that repr shows, and how long the text is -/
def Shw (c : Nat) (d : PyData) : Prop := d.showable = true ∧ d.hasDict = false ∧ d.shown.length ≤ c
theorem Shw.up {c e : Nat} {d : PyData} (h : Shw c d) (l : c ≤ e) : Shw e d := ⟨h.1, h.2.1, Nat.le_trans h.2.2 l⟩
theorem shw_int {i : Int} (h : i.natAbs < 10 ^ 12) : Shw 13 (.int i) := by
  refine ⟨?_, rfl, PyData.shown_int_le h⟩
  show decide (i.natAbs.log2 < 1920) = true
  refine decide_eq_true ?_
  have : i.natAbs.log2 < 40 := by
    by_cases z : i.natAbs = 0
    · rw [z]
      decide
    · exact (Nat.log2_lt z).mpr (Nat.lt_of_lt_of_le h (by decide))
  omega
theorem shw_all {c : Nat} : ∀ {ds : List PyData}, (∀ d ∈ ds, Shw c d) → PyData.showableAll ds = true ∧ PyData.hasDictAll ds = false ∧ ((PyData.shownAll ds).map (·.length)).sum ≤ ds.length * c ∧ (PyData.shownAll ds).length = ds.length
  | [], _ => ⟨rfl, rfl, by simp [PyData.shownAll], rfl⟩
  | d :: ds, h => by
    obtain ⟨a, b, e⟩ := h d List.mem_cons_self
    obtain ⟨a2, b2, e2, l2⟩ := shw_all fun x hx => h x (List.mem_cons_of_mem _ hx)
    refine ⟨by simp only [PyData.showableAll, a, a2, Bool.and_true], by simp only [PyData.hasDictAll, b, b2, Bool.or_false], ?_, by simp only [PyData.shownAll, List.length_cons, l2]⟩
    simp only [PyData.shownAll, List.map_cons, List.sum_cons, List.length_cons, Nat.succ_mul]
    omega
theorem shw_tuple {c : Nat} {ds : List PyData} (h : ∀ d ∈ ds, Shw c d) : Shw (ds.length * (c + 2) + 3) (.tuple ds) := by
  obtain ⟨a, b, e, l⟩ := shw_all h
  refine ⟨by simpa only [PyData.showable] using a, by simpa only [PyData.hasDict] using b, ?_⟩
  have := tupleText_len_le (PyData.shownAll ds)
  simp only [PyData.shown, Nat.mul_add] at *
  omega
theorem shw_list {c : Nat} {ds : List PyData} (h : ∀ d ∈ ds, Shw c d) : Shw (ds.length * (c + 2) + 3) (.list ds) := by
  obtain ⟨a, b, e, l⟩ := shw_all h
  refine ⟨by simpa only [PyData.showable] using a, by simpa only [PyData.hasDict] using b, ?_⟩
  have := listText_len_le (PyData.shownAll ds)
  simp only [PyData.shown, Nat.mul_add] at *
  omega
theorem shw_ints {ps : List Int} (h : ∀ x ∈ ps, x.natAbs < 10 ^ 12) : Shw (ps.length * 15 + 3) (iT ps) := by
  have := shw_tuple (c := 13) (ds := ps.map PyData.int) fun d hd => by
    obtain ⟨i, hi, rfl⟩ := List.mem_map.mp hd
    exact shw_int (h i hi)
  rw [List.length_map] at this
  exact this
theorem shw_big {i : Int} (h : i.natAbs.log2 < 1920) : Shw 1921 (.int i) := ⟨decide_eq_true h, rfl, int_text_len_1921 h⟩

/-- a list or tuple of ints as data -/
def gI (b : Bool) (ts : List Int) : PyData := if b = true then .tuple (ts.map .int) else .list (ts.map .int)
theorem gI_dp {K : PySem.W.Frag} {H : Hp} {q : Bool × Addr} {ts : List Int} (h : SqH H q (ts.map V.int)) : Dp K H (.ref q.2) (gI q.1 ts) := by
  obtain ⟨b, a⟩ := q
  cases b with
  | true => exact .tup (SqT.of (show H a = some (.tup (ts.map V.int)) from h)) (dpall_ints ts)
  | false => exact .lst (SqL.of (show H a = some (.lst (ts.map V.int)) from h)) (dpall_ints ts)
theorem gI_shw {b : Bool} {ts : List Int} (h : ∀ x ∈ ts, x.natAbs < 10 ^ 12) (l : ts.length ≤ 1000) : Shw 100000 (gI b ts) ∧ (gI b ts).depth ≤ 60 := by
  have a : ∀ d ∈ ts.map PyData.int, Shw 13 d := fun d hd => by
    obtain ⟨t, ht, rfl⟩ := List.mem_map.mp hd
    exact shw_int (h t ht)
  have e : ∀ d ∈ ts.map PyData.int, Sh 59 d := fun d hd => by
    obtain ⟨t, ht, rfl⟩ := List.mem_map.mp hd
    exact sh_int t
  unfold gI
  cases b with
  | true => exact ⟨(shw_tuple a).up (by rw [List.length_map]; omega), (sh_tuple e).2⟩
  | false => exact ⟨(shw_list a).up (by rw [List.length_map]; omega), (sh_list e).2⟩
theorem sh_opt_ok (o : Option Nat) : SeqAt.shaped (optD o) = true := (sh_opt o).ok
theorem optI_get (o : Option Nat) : (o.map fun d : Nat => V.int (d : Int)).getD .non = optV o := by cases o <;> rfl
theorem min_lk {n p : Int} {ts : List Int} {fs : List (Int × Nat)} {o : Option Nat} (n0 : 0 < n) (ne : ts ≠ []) (hfs : ∀ c, lkI fs p = some c ↔ Least n ts p c) (m : MinC n ts p (Builtin.Int.intBits n) o) : lkI fs p = o := by
  cases o with
  | some c =>
    obtain ⟨_, h1, h2⟩ := m
    exact (hfs c).mpr ⟨h1, h2⟩
  | none =>
    cases e : lkI fs p with
    | none => rfl
    | some c =>
      obtain ⟨t0, ht⟩ := List.exists_mem_of_ne_nil _ ne
      exact absurd (hit_bound n0 ht (bits_gt n0) ((hfs c).mp e).1) (m _ (Nat.le_refl _))

section
variable {P : Program} {w : World} {K : PySem.W.Frag} {mg : Str → Option Value} {base : Heap}
theorem kb_sum_counts_3210 {K : PySem.W.Frag} {mg : Str → Option Value} (T : TX K mg) : KBn K T.fd_sum_counts ["size", "targets", "place", "calls"] 0 ["calls", "place", "targets", "size"] (fun us ws => pick [3, 2, 1, 0] (us ++ ws)) (fun vs zs => pick [3, 2, 1, 0] (vs ++ zs)) :=
  kbn_of T.F_sum_counts 0 ["calls", "place", "targets", "size"] [3, 2, 1, 0] fun _ _ _ _ _ _ us ws h1 h2 => match us, ws, h1, h2 with | [], [_, _, _, _], _, _ => rfl
def sp_law_right : Sp := fun vs H Q _ => ∃ (n p : Int) (c : Nat) (q : Bool × Addr) (ts : List Int) (due : Bool), vs = [.int n, .ref q.2, .int p, .int c, .bl due] ∧ 1 ≤ n ∧ n ≤ 2000 ∧ 0 ≤ p ∧ p < n ∧ c ≤ 40 ∧ SqH H q (ts.map V.int) ∧ ts ≠ [] ∧ ts.length ≤ 100 ∧ (∀ t ∈ ts, 0 ≤ t ∧ t < n) ∧ ts.Nodup ∧ (due = true ↔ Hit n ts p c) ∧ ∀ H2, Ex H H2 → Q (.bl true) H2
theorem ok_law_right (T : TX K mg) : CG.FnOkG P w K mg base 6 T.f_law_right T.fd_law_right ["_law_ring", "_law_goals", "_law_spot", "_law_depth", "_law_due"] sp_law_right := by
  refine CG.okG T.F_law_right sc_law_right (fun vs H Q E h => ?_) (fun cdv A outer s H vs Q E gd hr h => ?_)
  · obtain ⟨n, p, c, q, ts, due, rfl, _⟩ := h
    rfl
  · obtain ⟨n, p, c, q, ts, due, rfl, n1, n2, p0, p1, c40, hq, ne, lt, inr, nod, hdue, k⟩ := h
    refine ⟨_, (pss_cons (ps_set (i := 5) sc_law_right.nd rfl (Or.inl rfl) (pe_callB (CG.cr_repr gd (u65 hr)) (by rfl) T.z_repr (by decide +kernel) (pa_cons (pv 1) pa_nil))) (pss_cons (ps_set (i := 6) sc_law_right.nd rfl (Or.inl rfl) (pe_call (ok_sum_counts T) hr rfl T.m_sum_counts T.F_sum_counts.kp T.b_sum_counts .nil pass0 (pa_cons (pv 0) (pa_cons (pv 1) (pa_cons (pv 2) (pa_cons (pv 3) pa_nil)))))) (pss_cons (ps_if (pt_not (pt_val (pv 4))) (pss_one (ps_ret (pe_and (pe_cmpR op_isN (pv 6) pe_non (nomark _)) (pe_one (pe_cmpR op_eq (pe_callB (CG.cr_repr gd (u65 hr)) (by rfl) T.z_repr (by decide +kernel) (pa_cons (pv 1) pa_nil)) (pv 5) (nomark _)))))) pss_nil) (pss_cons (ps_if (pt_not (pt_val (pe_call (ok_law_is_sum T) (hr.mono (by decide)) rfl T.m_law_is_sum T.F_law_is_sum.kp T.b_law_is_sum .nil pass0 (pa_cons (pv 0) (pa_cons (pe_callTy call_list_of (by rfl) T.z_list (by decide +kernel) (pa_cons (pv 1) pa_nil)) (pa_cons (pv 2) (pa_cons (pv 3) (pa_cons (pv 6) pa_nil)))))))) (pss_one (ps_ret pe_bl)) pss_nil) (pss_cons (ps_set (i := 7) sc_law_right.nd rfl (Or.inl rfl) (pe_callTy call_list_of (by rfl) T.z_list (by decide +kernel) (pa_cons (pv 6) pa_nil))) (pss_cons (ps_expr (pe_bm PySem.F.plainAttrs_list PySem.F.slot_list_append PySem.F.type_list_append mt_append (pv 6) (pa_cons pe_int pa_nil))) (pss_cons (ps_if (pt_cmpR (r := rNeD K) (op_neD hr.units) (pe_callKw (ok_sum_counts T) hr rfl T.m_sum_counts T.F_sum_counts.kp (kb_sum_counts_3210 T) pass0 (pk_cons (pv 3) (pk_cons (pv 2) (pk_cons (pv 1) (pk_cons (pv 0) pk_nil))))) (pv 7) (nomark _)) (pss_one (ps_ret pe_bl)) pss_nil) (pss_one (ps_ret (pe_cmpR op_eq (pe_callB (CG.cr_repr gd (u65 hr)) (by rfl) T.z_repr (by decide +kernel) (pa_cons (pv 1) pa_nil)) (pv 5) (nomark _))))))))))), ?_⟩
    have n0 : 0 < n := by omega
    obtain ⟨shw, dp60⟩ := gI_shw (b := q.1) (ts := ts) (fun x hx => Nat.lt_of_le_of_lt (show x.natAbs ≤ 2000 by have := inr x hx; omega) (by decide)) (by omega)
    refine ⟨_, rfl, q.2, gI q.1 ts, rfl, gI_dp hq, shw.1, shw.2.1, Nat.le_trans shw.2.2 (by decide), dp60, ?_⟩
    dsimp only [gName]
    refine ⟨_, rfl, _, rfl, _, rfl, _, rfl, ?_⟩
    dsimp only [tNil, List.append_nil]
    refine use_sum n0 n2 p0 p1 hq ne (by omega) inr nod c40 (fun hn H1 e1 => ?_) (fun hy m cs H1 e1 nm hm ecs lcs pos esum dv => ?_)
    · obtain rfl : due = false := by
        cases due with
        | false => rfl
        | true => exact absurd (hdue.mp rfl) hn
      dsimp only [gName]
      refine ⟨_, rfl, _, rfl, itt rfl ?_⟩
      refine ⟨_, rfl, rfl, _, rfl, itt rfl ?_⟩
      refine ⟨_, rfl, q.2, gI q.1 ts, rfl, gI_dp (hq.mono e1), shw.1, shw.2.1, Nat.le_trans shw.2.2 (by decide), dp60, _, rfl, rfl, ?_⟩
      exact (congrArg (fun b => Q (V.bl b) H1) (decide_eq_true rfl)).mpr (k _ e1)
    · obtain rfl : due = true := hdue.mpr hy
      dsimp only [gName]
      refine ⟨_, rfl, _, rfl, itf rfl ?_⟩
      refine ⟨_, rfl, _, rfl, ?_⟩
      dsimp only [tNil]
      refine ⟨q.2, ts.map V.int, rfl, sq_or (hq.mono e1), fun g hg => ?_⟩
      generalize hG : upd H1 g _ = H2
      have e2 := exG hG hg
      have hg2 := atG hG
      clear hG
      refine ⟨_, rfl, _, rfl, _, rfl, ?_⟩
      dsimp only [tNil, List.append_nil]
      refine ⟨n, p, c, g, m, ts, cs, rfl, n1, p0, p1, by omega, by omega, hg2, e2 _ _ hm, lcs, by omega, inr, pos, esum, dv, fun H3 e3 => ?_⟩
      refine ⟨_, rfl, itf rfl ?_⟩
      have e13 := ext e2 e3
      have hm3 := e13 _ _ hm
      refine ⟨_, rfl, m, cs.map V.int, rfl, .inl (SqL.of hm3), fun w0 hw0 => ?_⟩
      generalize hG : upd H3 w0 _ = H4
      have e4 := exG hG hw0
      have hw4 := atG hG
      clear hG
      have hm4 := e4 _ _ hm3
      have wm : w0 ≠ m := (ne_of_none hm3 hw0).symm
      dsimp only [gName]
      refine ⟨_, rfl, .inl ⟨rfl, _, SqL.of hm4⟩, m, _, _, rfl, rfl, hm4, by rw [List.length_map]; exact Nat.lt_of_le_of_lt (show cs.length ≤ 100 by omega) (by decide), ?_⟩
      generalize hG : upd H4 m _ = H5
      have x5 : XB m H4 H5 := by rw [← hG]; exact XB.upd
      clear hG
      have E5 : Ex H H5 := fun a o z => by
        have am : a ≠ m := ne_of_none z nm
        exact x5 _ _ am ((ext e1 (ext e13 e4)) _ _ z)
      have hw5 := x5 _ _ wm hw4
      refine ⟨_, rfl, _, rfl, _, rfl, _, rfl, rfl, ?_⟩
      show sp_sum_counts [_, _, _, _] _ _ _
      refine use_sum n0 n2 p0 p1 (hq.mono E5) ne (by omega) inr nod c40 (fun hn => absurd hy hn) (fun _ m2 cs2 H6 e6 nm2 hm2 ecs2 _ _ _ _ => ?_)
      rw [← ecs] at ecs2
      subst ecs2
      refine ⟨_, rfl, _, _, .lst (SqL.of hm2) (dpall_ints cs2), .lst (SqL.of (e6 _ _ hw5)) (dpall_ints cs2), ?_⟩
      have shL : Sh 60 (.list (cs2.map PyData.int)) := sh_list (n := 59) fun d hd => by
        obtain ⟨x, _, rfl⟩ := List.mem_map.mp hd
        exact sh_int x
      refine ⟨shL.ok, shL.ok, _, rfl, itf (eqv_same shL) ?_⟩
      have hq6 := hq.mono (ext E5 e6)
      refine ⟨_, rfl, q.2, gI q.1 ts, rfl, gI_dp hq6, shw.1, shw.2.1, Nat.le_trans shw.2.2 (by decide), dp60, _, rfl, rfl, ?_⟩
      exact (congrArg (fun b => Q (V.bl b) H6) (decide_eq_true rfl)).mpr (k _ (ext E5 e6))
end

def rIxQ (K : PySem.W.Frag) : R2 := fun x y H Q => ∃ (q : Bool × Addr) (xs : List V) (i : Int) (v : V), x = .ref q.2 ∧ y = .int i ∧ CZ.SqK K H q xs ∧ atI xs i = some v ∧ Q v H
theorem ix_q {X : Cx} : IxR X (rIxQ X.K) := by
  intro value slice pins s σ H x y v u Q I rx ry h hsub
  obtain ⟨⟨b, a⟩, xs, i, z, rfl, rfl, hq, hz, q⟩ := h
  cases b
  · exact ix_list value slice pins s σ H _ _ v u Q I rx ry ⟨a, xs, i, z, rfl, rfl, hq, hz, q⟩ hsub
  · exact ix_tup value slice pins s σ H _ _ v u Q I rx ry ⟨a, xs, i, z, rfl, rfl, hq, hz, q⟩ hsub

/-- a cut list of ints is one -/
theorem cut_map (ns : List Int) (lo hi : Option Int) : ∃ ms : List Int, cutV (ns.map V.int) lo hi = ms.map V.int := by
  refine ⟨(ns.drop (HT.sIx (ns.map V.int).length 0 lo)).take (HT.sIx (ns.map V.int).length (ns.map V.int).length hi - HT.sIx (ns.map V.int).length 0 lo), ?_⟩
  unfold cutV
  rw [List.map_take, List.map_drop]
theorem cut_len (xs : List V) (lo hi : Option Int) : (cutV xs lo hi).length ≤ xs.length := by
  unfold cutV
  rw [List.length_take, List.length_drop]
  omega
theorem sql_keep {K : PySem.W.Frag} {H1 H2 H3 : Hp} {s a : Addr} {xs : List V} (h : SqL K H1 a xs) (hs : H1 s = none) (e : Ex H1 H2) (xb : XB s H2 H3) : SqL K H3 a xs := by
  rcases h with h | h
  · refine .inl ?_
    rcases h with h | ⟨o, h⟩
    · exact .inl (xb _ _ (ne_of_none h hs) (e _ _ h))
    · exact .inr ⟨o, xb _ _ (ne_of_none h hs) (e _ _ h)⟩
  · exact .inr h
theorem last_int (ns : List Int) : ∃ z : Int, atI ([V.int 0] ++ ns.map V.int) (-1) = some (V.int z) := by
  have e : [V.int 0] ++ ns.map V.int = (0 :: ns).map V.int := rfl
  rw [e]
  have hne : (0 :: ns) ≠ [] := by simp
  refine ⟨(0 :: ns).getLast hne, ?_⟩
  have q := atI_fin ((0 :: ns).dropLast.map V.int) (V.int ((0 :: ns).getLast hne))
  have e3 : (0 :: ns).dropLast.map V.int ++ [V.int ((0 :: ns).getLast hne)] = (0 :: ns).map V.int := by
    rw [show [V.int ((0 :: ns).getLast hne)] = [(0 :: ns).getLast hne].map V.int from rfl, ← List.map_append, List.dropLast_concat_getLast]
  rw [e3] at q
  exact q
theorem last_in {ts : List Int} (ne : ts ≠ []) : ∃ v, v ∈ ts ∧ atI (ts.map V.int) (-1) = some (V.int v) := by
  refine ⟨ts.getLast ne, List.getLast_mem ne, ?_⟩
  have q := atI_fin (ts.dropLast.map V.int) (V.int (ts.getLast ne))
  rw [show [V.int (ts.getLast ne)] = [ts.getLast ne].map V.int from rfl, ← List.map_append, List.dropLast_concat_getLast] at q
  exact q
theorem inV_bl (f : Nat → Bool) (m : Nat) : inV (V.bl true) ((List.range m).map fun c => V.bl (f c)) = (List.range m).any f := by
  have : ∀ l : List Nat, inV (V.bl true) (l.map fun c => V.bl (f c)) = l.any f := fun l => by
    induction l with
    | nil => rfl
    | cons a l ih =>
      show (eqV (V.bl (f a)) (V.bl true) || inV _ _) = _
      rw [List.any_cons, ih]
      congr 1
      cases f a <;> rfl
  exact this _
theorem flat_bls (f : Nat → Bool) (l : List Nat) : (l.map fun c => V.bl (f c)).all flatV = true := by
  induction l with
  | nil => rfl
  | cons a l ih => exact ih

section
variable {P : Program} {w : World} {K : PySem.W.Frag} {mg : Str → Option Value} {base : Heap}
def sp_law (K : PySem.W.Frag) : Sp := fun vs H Q _ => ∃ (a : Addr) (ns : List Int), vs = [.ref a] ∧ SqL K H a (ns.map V.int) ∧ ns.length ≤ 63 ∧ ∀ H2, Q (.bl true) H2
theorem ok_law (T : TX K mg) : CG.FnOkG P w K mg base 7 T.f_law T.fd_law ["_law_script"] (sp_law K) := by
  refine CG.okG T.F_law sc_law (fun vs H Q E h => ?_) (fun cdv A outer s H vs Q E gd hr h => ?_)
  · obtain ⟨a, ns, rfl, _⟩ := h
    rfl
  · obtain ⟨a, ns, rfl, hS, hlen, k⟩ := h
    refine ⟨_, (pss_cons (ps_for PassesOwn.never rfl (pi_list (pe_op (r := rCatR K) op_catR (pe_lst (pa_cons (pe_call (ok_law_cell_at T) (hr.mono (by decide)) rfl T.m_law_cell_at T.F_law_cell_at.kp T.b_law_cell_at .nil pass0 (pa_cons (pv 0) (pa_cons pe_int pa_nil))) pa_nil)) (pe_slice sl_list (pv 0) (po_some pe_int) (po_some pe_int)))) (pg_name (i := 1) sc_law.nd rfl (Or.inl rfl)) (pss_cons (ps_set (i := 2) sc_law.nd rfl (Or.inl rfl) (pe_call (ok_law_source T) (hr.mono (by decide)) rfl T.m_law_source T.F_law_source.kp T.b_law_source .nil pass0 (pa_cons (pv 1) pa_nil))) (pss_cons (ps_set (i := 3) sc_law.nd rfl (Or.inr rfl) (pe_op op_add pe_int (pe_call (ok_law_take T) (hr.mono (by decide)) rfl T.m_law_take T.F_law_take.kp T.b_law_take .nil pass0 (pa_cons (pv 2) (pa_cons (pe_ix ix_list (pe_lst (pa_cons pe_int (pa_cons pe_int (pa_cons pe_int (pa_cons pe_int (pa_cons pe_int (pa_cons pe_int (pa_cons pe_int (pa_cons pe_int pa_nil))))))))) (pe_call (ok_law_take T) (hr.mono (by decide)) rfl T.m_law_take T.F_law_take.kp T.b_law_take .nil pass0 (pa_cons (pv 2) (pa_cons pe_int pa_nil))) (fun _ _ => rfl)) pa_nil))))) (pss_cons (ps_set (i := 4) sc_law.nd rfl (Or.inl rfl) (pe_call (ok_law_targets T) (hr.mono (by decide)) rfl T.m_law_targets T.F_law_targets.kp T.b_law_targets .nil pass0 (pa_cons (pv 2) (pa_cons (pv 3) (pa_cons (pe_ix ix_list (pe_lst (pa_cons (pe_ix ix_list (pe_lst (pa_cons pe_int (pa_cons pe_int (pa_cons pe_int (pa_cons pe_int pa_nil))))) (pe_call (ok_law_take T) (hr.mono (by decide)) rfl T.m_law_take T.F_law_take.kp T.b_law_take .nil pass0 (pa_cons (pv 2) (pa_cons pe_int pa_nil))) (fun _ _ => rfl)) (pa_cons pe_int pa_nil))) (pe_callTy call_int1 (by rfl) T.z_int (by decide +kernel) (pa_cons (pe_cmpR op_gt (pv 3) pe_int (nomark _)) pa_nil)) (fun _ _ => rfl)) pa_nil))))) (pss_cons (ps_set (i := 4) sc_law.nd rfl (Or.inl rfl) (pe_ix ix_list (pe_lst (pa_cons (pv 4) (pa_cons (pe_callTy call_tuple_q (by rfl) T.z_tuple (by decide +kernel) (pa_cons (pv 4) pa_nil)) pa_nil))) (pe_call (ok_law_take T) (hr.mono (by decide)) rfl T.m_law_take T.F_law_take.kp T.b_law_take .nil pass0 (pa_cons (pv 2) (pa_cons pe_int pa_nil))) (fun _ _ => rfl))) (pss_cons (ps_set (i := 5) sc_law.nd rfl (Or.inl rfl) (pe_ix ix_list (pe_lst (pa_cons (pe_call (ok_law_take T) (hr.mono (by decide)) rfl T.m_law_take T.F_law_take.kp T.b_law_take .nil pass0 (pa_cons (pv 2) (pa_cons pe_int pa_nil))) (pa_cons (pe_call (ok_law_take T) (hr.mono (by decide)) rfl T.m_law_take T.F_law_take.kp T.b_law_take .nil pass0 (pa_cons (pv 2) (pa_cons pe_int pa_nil))) pa_nil))) (pe_callTy call_int1 (by rfl) T.z_int (by decide +kernel) (pa_cons (pe_cmpR op_gt (pv 3) pe_int (nomark _)) pa_nil)) (fun _ _ => rfl))) (pss_cons (ps_set (i := 6) sc_law.nd rfl (Or.inr rfl) (pe_call (ok_law_reached T) (hr.mono (by decide)) rfl T.m_law_reached T.F_law_reached.kp T.b_law_reached .nil pass0 (pa_cons (pv 3) (pa_cons (pv 4) (pa_cons (pv 5) pa_nil))))) (pss_cons (ps_for PassesOwn.never rfl (pi_range1 rfl T.z_range (pa_cons pe_int pa_nil)) (pg_name (i := 7) sc_law.nd rfl (Or.inl rfl)) (pss_cons (ps_set (i := 8) sc_law.nd rfl (Or.inr rfl) (pe_ix ix_list (pe_lst (pa_cons (pe_call (ok_law_take T) (hr.mono (by decide)) rfl T.m_law_take T.F_law_take.kp T.b_law_take .nil pass0 (pa_cons (pv 2) (pa_cons (pv 3) pa_nil))) (pa_cons (pe_ix (r := rIxQ K) ix_q (pv 4) pe_int (fun _ _ => rfl)) pa_nil))) (pe_callTy call_int1 (by rfl) T.z_int (by decide +kernel) (pa_cons (pe_cmpR op_eq (pv 7) pe_int (nomark _)) pa_nil)) (fun _ _ => rfl))) (pss_cons (ps_setLc (own := [("_law_number", 10)]) (g := (gName 10)) (i := 9) rfl sc_law.nd rfl rfl (sw_true rfl rfl rfl (by decide +kernel)) (pi_range1 rfl T.z_range (pa_cons (pe_op op_add (pv 5) pe_int) pa_nil)) (blkOk_by (N := N_law) (sc := defScope s_law) (by decide +kernel)) (fun _ _ _ _ _ => (pg_name (i := 10) sc_law.nd rfl (Or.inl rfl))) (fun _ _ _ _ _ => pts_nil) (fun _ _ _ _ _ => (pe_ix (r := rIxL K) ix_list (pe_ix (r := rIxL K) ix_list (pv 6) (pv 10) (fun _ _ => rfl)) (pe_op op_mod (pe_op op_shlW (pv 8) (pv 10)) (pv 3)) (fun _ _ => rfl)))) (pss_cons (ps_for PassesOwn.never rfl (CE.pi_e rfl T.z_enumerate (pa_cons (pv 9) pa_nil)) (pg_tup rfl (pgs_cons (pg_name (i := 10) sc_law.nd rfl (Or.inl rfl)) (pgs_cons (pg_name (i := 11) sc_law.nd rfl (Or.inl rfl)) pgs_nil))) (pss_one (ps_if (pt_not (pt_val (CG.pe_callG (ok_law_right T) gd hr rfl T.m_law_right T.F_law_right.kp T.b_law_right .nil pass0 (pa_cons (pv 3) (pa_cons (pv 4) (pa_cons (pv 8) (pa_cons (pv 10) (pa_cons (pv 11) pa_nil)))))))) (pss_one (ps_ret pe_bl)) pss_nil))) (pss_cons (ps_set (i := 12) sc_law.nd rfl (Or.inl rfl) (pe_call (ok_min_calls_on_ring T) (hr.mono (by decide)) rfl T.m_min_calls_on_ring T.F_min_calls_on_ring.kp T.b_min_calls_on_ring .nil pass0 (pa_cons (pv 3) (pa_cons (pv 4) (pa_cons (pv 8) pa_nil))))) (pss_one (ps_if (PW.pt (pw_or (pt_cmpR op_ne (pe_and (pe_cmpR op_notN (pv 12) pe_non (nomark _)) (pe_one (pe_cmpR op_le (pv 12) (pv 5) (nomark _)))) (pe_cmpR op_in_seq pe_bl (pv 9) rfl) (nomark _)) (pw_or1 (PW.pt (pw_and (pt_cmpR op_in_seq pe_bl (pv 9) rfl) (pw_and1 (pt_cmpR (r := rNeD K) (op_neD hr.units) (pv 12) (pe_bm PySem.F.plainAttrs_list PySem.F.slot_list_index PySem.F.type_list_index mt_index (pv 9) (pa_cons pe_bl pa_nil)) (nomark _)))))))) (pss_one (ps_ret pe_bl)) pss_nil))))))) (pss_cons (ps_set (i := 8) sc_law.nd rfl (Or.inr rfl) (pe_ix (r := rIxQ K) ix_q (pv 4) (pe_un un_neg pe_int) (fun _ _ => rfl))) (pss_one (ps_if (pt_not (pt_val (CG.pe_callG (ok_law_right T) gd hr rfl T.m_law_right T.F_law_right.kp T.b_law_right .nil pass0 (pa_cons (pv 3) (pa_cons (pv 4) (pa_cons (pv 8) (pa_cons (pe_ix ix_list (pe_lst (pa_cons pe_int (pa_cons pe_int pa_nil))) (pe_callTy call_int1 (by rfl) T.z_int (by decide +kernel) (pa_cons (pe_cmpR op_gt (pv 3) pe_int (nomark _)) pa_nil)) (fun _ _ => rfl)) (pa_cons pe_bl pa_nil)))))))) (pss_one (ps_ret pe_bl)) pss_nil))))))))))) (pss_one (ps_ret (pe_call (ok_law_long_right T) hr rfl T.m_law_long_right T.F_law_long_right.kp T.b_law_long_right .nil pass0 (pa_cons (pe_call (ok_law_source T) (hr.mono (by decide)) rfl T.m_law_source T.F_law_source.kp T.b_law_source .nil pass0 (pa_cons (pe_ix ix_list (pe_op (r := rCatR K) op_catR (pe_lst (pa_cons pe_int pa_nil)) (pv 0)) (pe_un un_neg pe_int) (fun _ _ => rfl)) pa_nil)) pa_nil))))), ?_⟩
    refine ⟨_, rfl, a, ns, 0, rfl, hS, by decide, fun i0 => ⟨by show 1 ≤ sizeLine; decide, fun b hb => ?_⟩⟩
    have e1 := exn (o := .lst [.int i0]) hb
    refine ⟨_, rfl, 1, rfl, 4, rfl, a, _, rfl, Evl.ex_l e1 hS, fun c hc => ?_⟩
    obtain ⟨ms, em⟩ := cut_map ns (some 1) (some 4)
    have ml : (ms.map V.int).length ≤ 63 := by
      rw [← em]
      exact Nat.le_trans (cut_len _ _ _) (by rw [List.length_map]; exact hlen)
    rw [em] at *
    refine ⟨b, c, _, _, rfl, rfl, SqL.of (exn hc _ _ upd_same), SqL.of upd_same, ?_, fun d hd => ?_⟩
    · exact Nat.le_trans (show 1 + _ ≤ 64 by omega) (by decide)
    have eAll : Ex H (upd (upd (upd H b (.lst [.int i0])) c (.lst (ms.map V.int))) d (.lst ([V.int i0] ++ ms.map V.int))) := ext e1 (ext (exn hc) (exn hd))
    refine ⟨d, rfl, ⟨_, SqL.of upd_same⟩, ?_⟩
    refine for_it (walk_list (xs := (i0 :: ms).map V.int)) (fun i σ Hx => (∃ y1 y2 y3 y4 y5 y6 y7 y8 y9 y10 y11 y12, σ = [some (.ref a), y1, y2, y3, y4, y5, y6, y7, y8, y9, y10, y11, y12]) ∧ Hx d = some (.lst ((i0 :: ms).map V.int)) ∧ SqL K Hx a (ns.map V.int)) ⟨⟨_, _, _, _, _, _, _, _, _, _, _, _, rfl⟩, upd_same, Evl.ex_l eAll hS⟩ (fun i σ H _ p => SqL.of p.2.1) ?_ ?_
    · rintro i x σ _ H1 hi ⟨⟨y1, y2, y3, y4, y5, y6, y7, y8, y9, y10, y11, y12, rfl⟩, hd1, hS1⟩ ⟨rfl, hx⟩
      obtain ⟨n, _, rfl⟩ := map_get hx
      dsimp only [gName]
      refine ⟨_, rfl, _, rfl, fun H2 s e2 hs src => ?_⟩
      have nd : d ≠ s := ne_of_none hd1 hs
      dsimp only [gName]
      refine ⟨_, rfl, by show 8 ≤ sizeLine; decide, fun l0 hl0 => ?_⟩
      have nl0 := src.ne hl0
      refine ⟨_, rfl, s, 8, 900002, rfl, (src.less (by decide)).new hl0, by decide, by decide +kernel, fun r1 H3 r10 r11 xb3 sr3 => ?_⟩
      obtain ⟨v1, mv1, gv1⟩ := at_ex (xs := [60, 60, 60, 20, 20, 20, 60, 2000]) r10 r11
      have v1b : 20 ≤ v1 ∧ v1 ≤ 2000 := by
        simp only [List.mem_cons, List.not_mem_nil, or_false] at mv1
        rcases mv1 with rfl | rfl | rfl | rfl | rfl | rfl | rfl | rfl <;> decide
      refine ⟨l0, _, _, _, rfl, rfl, SqL.of (xb3 _ _ nl0 upd_same), gv1, s, v1, 900001, rfl, sr3, by omega, Nat.lt_of_le_of_lt (show v1.natAbs ≤ 2000 by omega) (by decide +kernel), fun r2 H4 r20 r21 xb4 sr4 => ⟨_, _, rfl, rfl, ?_⟩⟩
      have x24 : XB s H2 H4 := (XB.of (exn hl0)).trans (xb3.trans xb4)
      dsimp only [gName]
      refine ⟨_, rfl, _, rfl, by show 4 ≤ sizeLine; decide, fun l1 hl1 => ?_⟩
      have nl1 := sr4.ne hl1
      refine ⟨_, rfl, s, 4, 900000, rfl, sr4.new hl1, by decide, by decide +kernel, fun r3 H5 r30 r31 xb5 sr5 => ?_⟩
      obtain ⟨v2, mv2, gv2⟩ := at_ex (xs := [6, 6, 6, 40]) r30 r31
      have v2b : 2 ≤ v2 ∧ v2 ≤ 40 := by
        simp only [List.mem_cons, List.not_mem_nil, or_false] at mv2
        rcases mv2 with rfl | rfl | rfl | rfl <;> decide
      refine ⟨l1, _, _, _, rfl, rfl, SqL.of (xb5 _ _ nl1 upd_same), gv2, ?_⟩
      dsimp only [tCons, tC]
      refine ⟨slen rfl, fun l2 hl2 => ?_⟩
      have nl2 := sr5.ne hl2
      generalize hG : upd H5 l2 _ = H6
      have e6 := exG hG hl2
      have hl26 := atG hG
      clear hG
      refine ⟨_, rfl, _, _, rfl, rfl, ?_⟩
      dsimp only [tNil]
      refine .inr ⟨_, rfl, ?_⟩
      obtain ⟨v3, hv3, gv3⟩ : ∃ v3 : Int, (2 ≤ v3 ∧ v3 ≤ 40) ∧ atI [V.int v2, V.int 2] (if decide (60 < 1 + r2) = true then (1 : Int) else 0) = some (V.int v3) := by
        by_cases c : 60 < 1 + r2
        · exact ⟨2, by decide, by rw [if_pos (decide_eq_true c)]; rfl⟩
        · exact ⟨v2, v2b, by rw [if_neg (by simpa using c)]; rfl⟩
      refine ⟨l2, _, _, _, rfl, rfl, SqL.of hl26, gv3, ?_⟩
      have sr6 := sr5.mono e6
      refine ⟨s, 1 + r2, v3, 899000, rfl, sr6.less (by decide), by omega, by omega, by omega, fun q ts H7 nq hq ne lt inr nod xb7 sr7 => ?_⟩
      have nqs := sr6.ne nq
      have x27 : XB s H2 H7 := x24.trans ((XB.of (exn hl1)).trans (xb5.trans ((XB.of e6).trans xb7)))
      dsimp only [gName]
      show tSeq _ _ _ [_, _, _, _, _, _, _, _, _, _, _, _, _] _
      refine ⟨_, rfl, _, rfl, (false, q), ts.map V.int, rfl, hq, fun tg H8 e8 htg8 => ?_⟩
      refine ⟨slen rfl, ?_⟩
      (intro lp nlp; generalize hGlp : upd _ lp _ = H9; have eH9 := exG hGlp nlp; have hlp := atG hGlp; clear hGlp)
      have e79 := ext e8 eH9
      have sr9 := sr7.mono e79
      have nlp := (sr7.mono e8).ne nlp
      refine ⟨_, rfl, s, 2, 800000, rfl, sr9.less (by decide), by decide, by decide +kernel, fun r4 Ha r40 r41 xba sra => ?_⟩
      have h4 : r4 = 0 ∨ r4 = 1 := by omega
      have hlpa := xba _ _ nlp hlp
      have x2a : XB s H2 Ha := x27.trans ((XB.of e79).trans xba)
      obtain ⟨qq, gq, sq, nqq⟩ : ∃ qq : Bool × Addr, atI [V.ref q, V.ref tg] r4 = some (.ref qq.2) ∧ SqH Ha qq (ts.map V.int) ∧ qq.2 ≠ s := by
        have tgs : tg ≠ s := fun z => by
          obtain ⟨u1, u2, u3, hu, _⟩ := sr7.mono e8
          rw [z, hu] at htg8
          cases htg8
        rcases h4 with rfl | rfl
        · exact ⟨(false, q), rfl, xba _ _ nqs (e79 _ _ hq), nqs⟩
        · exact ⟨(true, tg), rfl, sr9.tup (eH9 _ _ htg8) xba, tgs⟩
      refine ⟨lp, _, _, _, rfl, rfl, SqL.of hlpa, gq, ?_⟩
      dsimp only [gName]
      show tSeq _ _ _ [_, _, _, _, _, _, _, _, _, _, _, _, _] _
      refine ⟨_, rfl, s, 9, 700000, rfl, sra.less (by decide), by decide, by decide +kernel, fun d1 Hb d10 d11 xbb srb => ?_⟩
      refine ⟨_, rfl, s, 5, 600000, rfl, srb.less (by decide), by decide, by decide +kernel, fun d2 Hc d20 d21 xbc src2 => ?_⟩
      refine ⟨slen rfl, fun l3 hl3 => ?_⟩
      generalize hG : upd Hc l3 _ = Hd
      have ed := exG hG hl3
      have hl3d := atG hG
      clear hG
      refine ⟨_, rfl, _, _, rfl, rfl, ?_⟩
      dsimp only [tNil]
      refine .inr ⟨_, rfl, ?_⟩
      obtain ⟨dp, hdp, gdp⟩ : ∃ dp : Int, (0 ≤ dp ∧ dp ≤ 8) ∧ atI [V.int d1, V.int d2] (if decide (60 < 1 + r2) = true then (1 : Int) else 0) = some (V.int dp) := by
        by_cases c : 60 < 1 + r2
        · exact ⟨d2, ⟨d20, by omega⟩, by rw [if_pos (decide_eq_true c)]; rfl⟩
        · exact ⟨d1, ⟨d10, by omega⟩, by rw [if_neg (by simpa using c)]; rfl⟩
      refine ⟨l3, _, _, _, rfl, rfl, SqL.of hl3d, gdp, ?_⟩
      dsimp only [gName]
      show tSeq _ _ _ [_, _, _, _, _, _, _, _, _, _, _, _, _] _
      have xad : XB s Ha Hd := xbb.trans (xbc.trans (XB.of ed))
      have srd := src2.mono ed
      have sqd : SqH Hd qq (ts.map V.int) := by
        obtain ⟨b, c⟩ := qq
        cases b
        · exact xad _ _ nqq sq
        · exact xad _ _ nqq sq
      obtain ⟨nn, enn⟩ : ∃ nn : Nat, 1 + r2 = (nn : Int) := ⟨(1 + r2).toNat, by omega⟩
      obtain ⟨dn, rfl⟩ : ∃ dn : Nat, dp = (dn : Int) := ⟨dp.toNat, by omega⟩
      have nn0 : 0 < nn := by omega
      have nn2 : nn ≤ 2000 := by omega
      have inr2 : ∀ t ∈ ts, 0 ≤ t ∧ t < (nn : Int) := enn ▸ inr
      rw [enn]
      refine ⟨_, rfl, _, rfl, _, rfl, nn, dn, qq, ts, rfl, nn0, nn2, by omega, sqd, inr2, fun R He ee nR hR => ?_⟩
      dsimp only [gName]
      show tSeq _ _ _ [_, _, _, _, _, _, _, _, _, _, _, _, _] _
      have sre := srd.mono ee
      have Rs : R ≠ s := srd.ne nR
      have sqe := sqd.mono ee
      have x2e : XB s H2 He := x2a.trans (xad.trans (XB.of ee))
      obtain ⟨t0, t0m, at0⟩ := at_ex (xs := ts) (r := 0) (by decide) (by have := List.length_pos_iff.mpr ne; omega)
      obtain ⟨t9, t9m, at9⟩ := last_in ne
      obtain ⟨as, las, hR0, rows⟩ := hR
      have rowS : ∀ c ar, as[c]? = some ar → ar ≠ s := fun c ar har z => by
        obtain ⟨u1, u2, u3, hu, _⟩ := sre
        have h1 := rows c ar har
        rw [z, hu] at h1
        have h2 := bitV_at (n := nn) (B := layN nn ts c) (q := 0) nn0
        have h3 : [V.int u1, .int u2, .int u3] = bitV nn (layN nn ts c) := by injection h1 with h1; injection h1
        rw [← h3] at h2
        cases h2
      refine ⟨_, rfl, by decide, by decide, ?_⟩
      refine for_it walk_range (fun j σ Hx => (∃ y7 y8 y9 y10 y11 y12, σ = [some (.ref a), some (.int n), some (.ref s), some (.int nn), some (.ref qq.2), some (.int dn), some (.ref R), y7, y8, y9, y10, y11, y12]) ∧ XB s He Hx ∧ Sr5 Hx s (500000 - 1000 * j)) ⟨⟨_, _, _, _, _, _, rfl⟩, fun _ _ _ z => z, sre.less (by decide)⟩ (fun _ _ _ _ _ => True.intro) ?_ ?_
      · rintro j x σ _ Hx hj ⟨⟨z7, z8, z9, z10, z11, z12, rfl⟩, xbx, srx⟩ ⟨rfl, hx⟩
        obtain rfl : x = .int (j : Int) := hx.trans (congrArg V.int (Int.zero_add _))
        have hj3 : j < 3 := hj
        dsimp only [gName]
        show tSeq _ _ _ [_, _, _, _, _, _, _, _, _, _, _, _, _] _
        have sqx : SqH Hx qq (ts.map V.int) := by
          obtain ⟨b, c⟩ := qq
          cases b
          · exact xbx _ _ nqq sqe
          · exact xbx _ _ nqq sqe
        refine ⟨_, rfl, _, rfl, s, nn, 500000 - 1000 * j - 1, rfl, srx.less (by omega), by omega, Nat.lt_of_le_of_lt (show (nn : Int).natAbs ≤ 2000 by omega) (by decide +kernel), fun p9 Hf p90 p91 xbf srf => ?_⟩
        have sqf : SqH Hf qq (ts.map V.int) := by
          obtain ⟨b, c⟩ := qq
          cases b
          · exact xbf _ _ nqq sqx
          · exact xbf _ _ nqq sqx
        refine ⟨_, rfl, qq, ts.map V.int, 0, .int t0, rfl, rfl, sqf.sq, at0, ?_⟩
        refine ⟨slen rfl, fun l4 hl4 => ?_⟩
        generalize hG : upd Hf l4 _ = Hg
        have eg := exG hG hl4
        have hl4g := atG hG
        clear hG
        refine ⟨_, rfl, rfl, ?_⟩
        dsimp only [tNil]
        refine .inr ⟨_, rfl, ?_⟩
        obtain ⟨pp, hpp, gpp⟩ : ∃ pp : Int, (0 ≤ pp ∧ pp < nn) ∧ atI [V.int p9, V.int t0] (if decide (V.int (j : Int) = V.int 2) = true then (1 : Int) else 0) = some (V.int pp) := by
          by_cases c : (j : Int) = 2
          · exact ⟨t0, inr2 _ t0m, by rw [c]; rfl⟩
          · exact ⟨p9, ⟨p90, p91⟩, by rw [if_neg (by simpa using c)]; rfl⟩
        refine ⟨l4, _, _, _, rfl, rfl, SqL.of hl4g, gpp, ?_⟩
        dsimp only [gName]
        show tSeq _ _ _ [_, _, _, _, _, _, _, _, _, _, _, _, _] _
        obtain ⟨p, rfl⟩ : ∃ p : Nat, pp = (p : Int) := ⟨pp.toNat, by omega⟩
        have pn : p < nn := by omega
        have x9 : XB s He Hg := xbx.trans (xbf.trans (XB.of eg))
        have srg := srf.mono eg
        refine ⟨_, rfl, _, _, rfl, rfl, dn + 1, rfl, by omega, by omega, fun D hD => ?_⟩
        refine lc_vals walk_range ((List.range (dn + 1)).map fun c => V.bl ((layN nn ts c).testBit (p * 2 ^ c % nn))) (by rw [List.length_map, List.length_range]; omega) (by omega) hD (fun _ _ => True.intro) ?_ gmono_name ?_
        · rintro c x _ Hy W hc ey ⟨rfl, hx⟩ kk
          obtain rfl : x = .int (c : Int) := hx.trans (congrArg V.int (Int.zero_add _))
          have hc2 : c < dn + 1 := by omega
          obtain ⟨ar, har⟩ : ∃ ar, as[c]? = some ar := ⟨_, List.getElem?_eq_getElem (by omega)⟩
          have hRy := ey _ _ (x9 _ _ Rs hR0)
          have hary := ey _ _ (x9 _ _ (rowS c ar har) (rows c ar har))
          have pn2 : p * 2 ^ c % nn < nn := Nat.mod_lt _ nn0
          have epc : (p : Int) * 2 ^ (c : Int).toNat % (nn : Int) = ((p * 2 ^ c % nn : Nat) : Int) := by
            rw [Int.toNat_natCast]
            simp
          refine ⟨rfl, _, rfl, _, rfl, R, _, _, _, rfl, rfl, SqL.of hRy, L2.atI_nat (by rw [List.getElem?_map, har]; rfl), ?_⟩
          refine ⟨_, rfl, _, rfl, _, _, rfl, rfl, shl_ok (n := 20) (Nat.lt_of_le_of_lt (show (p : Int).natAbs ≤ 2000 by omega) (by decide)) (by omega), _, rfl, _, _, rfl, rfl, (by show (0 : Int) < (nn : Int); omega), ?_⟩
          dsimp only
          rw [epc]
          refine ⟨ar, _, _, _, rfl, rfl, SqL.of hary, L2.atI_nat (bitV_at pn2), kk _ _ exr ?_⟩
          rw [List.getElem?_map, List.getElem?_range hc2]
          rfl
        intro Hh eh hDh
        dsimp only [gName]
        show tSeq _ _ _ [_, _, _, _, _, _, _, _, _, _, _, _, _] _
        have srh := srg.mono eh
        have xh : XB s He Hh := x9.trans (XB.of eh)
        have keepq : ∀ {Hz : Hp}, XB s He Hz → SqH Hz qq (ts.map V.int) := fun {Hz} z => by
          obtain ⟨b, c⟩ := qq
          cases b
          · exact z _ _ nqq sqe
          · exact z _ _ nqq sqe
        have Ds : D ≠ s := srg.ne hD
        refine ⟨_, rfl, (false, D), rfl, ⟨_, (show SqH Hh (false, D) _ from hDh).sq⟩, ?_⟩
        refine for_it (CE.walk_e (xs := (List.range (dn + 1)).map fun c => V.bl ((layN nn ts c).testBit (p * 2 ^ c % nn)))) (fun i σ Hx => (∃ y10 y11 y12, σ = [some (.ref a), some (.int n), some (.ref s), some (.int nn), some (.ref qq.2), some (.int dn), some (.ref R), some (.int j), some (.int p), some (.ref D), y10, y11, y12]) ∧ Ex Hh Hx) ⟨⟨_, _, _, rfl⟩, exr⟩ (fun i σ Hx _ ⟨_, e⟩ => (show SqH Hx (false, D) _ from e _ _ hDh).sq) ?_ ?_
        · rintro i x σ Hy Hz hi ⟨⟨w10, w11, w12, rfl⟩, ey⟩ yy
          obtain ⟨Ta, x1, x2, rfl, hT, rfl, hx1, hx2⟩ := yy
          cases hx1
          have hi2 : i < dn + 1 := by
            have : i < ((List.range (dn + 1)).map fun c => V.bl ((layN nn ts c).testBit (p * 2 ^ c % nn))).length := hi
            rwa [List.length_map, List.length_range] at this
          replace hx2 : ((List.range (dn + 1)).map fun c => V.bl ((layN nn ts c).testBit (p * 2 ^ c % nn)))[i]? = some x2 := hx2
          rw [List.getElem?_map, List.getElem?_range hi2] at hx2
          obtain rfl := Option.some.inj hx2
          have eT := exn (o := .tup [.int (i : Nat), V.bl ((layN nn ts i).testBit (p * 2 ^ i % nn))]) hT
          refine ⟨Ta, _, rfl, SqT.of upd_same, rfl, _, _, rfl, _, _, rfl, rfl, ?_⟩
          dsimp only [gName]
          refine ⟨_, rfl, _, rfl, _, rfl, _, rfl, _, rfl, ?_⟩
          refine ⟨nn, p, i, qq, ts, _, rfl, by omega, by omega, by omega, by omega, by omega, keepq (xh.trans (XB.of (ext ey eT))), ne, lt, inr2, nod, bit_hit pn inr2, fun Hw ew => ?_⟩
          exact ⟨_, rfl, itf rfl ⟨⟨_, _, _, rfl⟩, ext ey (ext eT ew)⟩⟩
        · rintro σ Hy ⟨⟨w10, w11, w12, rfl⟩, ey⟩
          dsimp only
          have xhy : XB s He Hy := xh.trans (XB.of ey)
          refine ⟨_, rfl, _, rfl, _, rfl, ?_⟩
          dsimp only [tNil, List.append_nil]
          refine use_min (by omega) (by omega) (by omega) (by omega) (keepq xhy) ne (by omega) inr2 nod fun o Hw mo ew => ?_
          have hDw := ew _ _ (ey _ _ hDh)
          dsimp only [gName]
          have eany := inV_bl (fun c => (layN nn ts c).testBit (p * 2 ^ c % nn)) (dn + 1)
          have fl := flat_bls (fun c => (layN nn ts c).testBit (p * 2 ^ c % nn)) (List.range (dn + 1))
          cases o with
          | none =>
            have no : (List.range (dn + 1)).any (fun c => (layN nn ts c).testBit (p * 2 ^ c % nn)) = false := by
              rw [Bool.eq_false_iff]
              intro z
              obtain ⟨c, _, h2⟩ := List.any_eq_true.mp z
              exact mo _ (Nat.le_refl _) (hit_bound (by omega) t0m (bits_gt (by omega)) ((bit_hit pn inr2).mp h2))
            refine ⟨_, rfl, rfl, _, rfl, itf rfl ?_⟩
            refine ⟨_, rfl, D, _, rfl, .inl (SqL.of hDw), rfl, fl, ?_⟩
            rw [eany, no]
            refine ⟨rfl, _, rfl, itf rfl ?_⟩
            refine ⟨_, rfl, D, _, rfl, .inl (SqL.of hDw), rfl, fl, ?_⟩
            rw [eany, no]
            refine ⟨_, rfl, itf rfl ?_⟩
            refine itf rfl ?_
            exact ⟨⟨_, _, _, _, _, _, rfl⟩, xhy.trans (XB.of ew), ((srh.mono ey).mono ew).less (by omega)⟩
          | some c =>
            obtain ⟨cB, hit, least⟩ := mo
            by_cases cd : c ≤ dn
            · have yes : (List.range (dn + 1)).any (fun c => (layN nn ts c).testBit (p * 2 ^ c % nn)) = true := List.any_eq_true.mpr ⟨c, List.mem_range.mpr (by omega), (bit_hit pn inr2).mpr hit⟩
              refine ⟨_, rfl, rfl, _, rfl, itt rfl ?_⟩
              refine ⟨_, rfl, _, rfl, _, _, rfl, rfl, ?_⟩
              refine ⟨_, rfl, D, _, rfl, .inl (SqL.of hDw), rfl, fl, ?_⟩
              rw [eany, yes]
              refine ⟨rfl, _, rfl, itf (by dsimp only; rw [dec_bl]; simp; omega) ?_⟩
              refine ⟨_, rfl, D, _, rfl, .inl (SqL.of hDw), rfl, fl, ?_⟩
              rw [eany, yes]
              refine ⟨_, rfl, itt rfl ?_⟩
              have gc : ((List.range (dn + 1)).map fun c => V.bl ((layN nn ts c).testBit (p * 2 ^ c % nn)))[c]? = some (V.bl true) := by
                rw [List.getElem?_map, List.getElem?_range (by omega), ← (bit_hit pn inr2).mpr hit]
                rfl
              refine ⟨_, rfl, _, rfl, .inl ⟨rfl, _, SqL.of hDw⟩, D, _, .bl true, c, .bl true, rfl, rfl, SqL.of hDw, rfl, fl, gc, rfl, fun e z he hz => ?_, ?_⟩
              · rw [List.getElem?_map, List.getElem?_range (by omega)] at hz
                obtain rfl := Option.some.inj hz
                have : (layN nn ts e).testBit (p * 2 ^ e % nn) = false := by
                  rw [Bool.eq_false_iff]
                  exact fun w2 => least e he ((bit_hit pn inr2).mp w2)
                show eqV (V.bl ((layN nn ts e).testBit (p * 2 ^ e % nn))) (V.bl true) = false
                rw [this]
                rfl
              refine ⟨PyData.int (c : Int), PyData.int (c : Int), .int _, .int _, (sh_int (n := 60) (c : Int)).ok, (sh_int (n := 60) (c : Int)).ok, _, rfl, itf (eqv_same (sh_int (c : Int))) ?_⟩
              exact ⟨⟨_, _, _, _, _, _, rfl⟩, xhy.trans (XB.of ew), ((srh.mono ey).mono ew).less (by omega)⟩
            · have no : (List.range (dn + 1)).any (fun c => (layN nn ts c).testBit (p * 2 ^ c % nn)) = false := by
                rw [Bool.eq_false_iff]
                intro z
                obtain ⟨e, h1, h2⟩ := List.any_eq_true.mp z
                have := List.mem_range.mp h1
                exact least e (by omega) ((bit_hit pn inr2).mp h2)
              refine ⟨_, rfl, rfl, _, rfl, itt rfl ?_⟩
              refine ⟨_, rfl, _, rfl, _, _, rfl, rfl, ?_⟩
              refine ⟨_, rfl, D, _, rfl, .inl (SqL.of hDw), rfl, fl, ?_⟩
              rw [eany, no]
              refine ⟨rfl, _, rfl, itf (by dsimp only; rw [dec_bl]; simp; omega) ?_⟩
              refine ⟨_, rfl, D, _, rfl, .inl (SqL.of hDw), rfl, fl, ?_⟩
              rw [eany, no]
              refine ⟨_, rfl, itf rfl ?_⟩
              refine itf rfl ?_
              exact ⟨⟨_, _, _, _, _, _, rfl⟩, xhy.trans (XB.of ew), ((srh.mono ey).mono ew).less (by omega)⟩
      · rintro σ Hx ⟨⟨z7, z8, z9, z10, z11, z12, rfl⟩, xbx, srx⟩
        dsimp only
        have sqx : SqH Hx qq (ts.map V.int) := by
          obtain ⟨b, c⟩ := qq
          cases b
          · exact xbx _ _ nqq sqe
          · exact xbx _ _ nqq sqe
        refine ⟨_, rfl, 1, rfl, qq, ts.map V.int, _, .int t9, rfl, rfl, sqx.sq, at9, ?_⟩
        dsimp only [gName]
        refine ⟨_, rfl, _, rfl, _, rfl, ?_⟩
        dsimp only [tCons, tC]
        refine ⟨slen rfl, fun l5 hl5 => ?_⟩
        generalize hG : upd Hx l5 _ = Hy
        have ey := exG hG hl5
        have hl5y := atG hG
        clear hG
        refine ⟨_, rfl, _, _, rfl, rfl, ?_⟩
        dsimp only [tNil]
        refine .inr ⟨_, rfl, ?_⟩
        obtain ⟨m, hm, gm⟩ : ∃ m : Nat, m ≤ 40 ∧ atI [V.int 40, V.int 9] (if decide (60 < (nn : Int)) = true then (1 : Int) else 0) = some (V.int (m : Int)) := by
          by_cases c : 60 < (nn : Int)
          · exact ⟨9, by decide, by rw [if_pos (decide_eq_true c)]; rfl⟩
          · exact ⟨40, by decide, by rw [if_neg (by simpa using c)]; rfl⟩
        refine ⟨l5, _, _, _, rfl, rfl, SqL.of hl5y, gm, ?_⟩
        obtain ⟨q0, q1⟩ := inr2 _ t9m
        have hit0 : Hit nn ts t9 m := Hit.up (c := 0) ⟨t9, ⟨[t9], rfl, by simpa using t9m, by simp⟩, ⟨0, by omega⟩⟩ m (Nat.zero_le _)
        refine ⟨nn, t9, m, qq, ts, true, rfl, by omega, by omega, q0, q1, hm, sqx.mono ey, ne, lt, inr2, nod, iff_of_true rfl hit0, fun Hz ez => ?_⟩
        refine ⟨_, rfl, itf rfl ?_⟩
        have xz : XB s He Hz := xbx.trans (XB.of (ext ey ez))
        exact ⟨⟨_, _, _, _, _, _, _, _, _, _, _, _, rfl⟩, (x2e.trans xz) _ _ nd (e2 _ _ hd1), sql_keep hS1 hs e2 (x2e.trans xz)⟩
    · rintro σ H1 ⟨⟨y1, y2, y3, y4, y5, y6, y7, y8, y9, y10, y11, y12, rfl⟩, hd1, hS1⟩
      dsimp only
      refine ⟨by show 1 ≤ sizeLine; decide, fun b2 hb2 => ?_⟩
      have eb2 := exn (o := .lst [.int 0]) hb2
      refine ⟨_, rfl, b2, a, _, _, rfl, rfl, SqL.of upd_same, Evl.ex_l eb2 hS1, ?_, fun c2 hc2 => ?_⟩
      · rw [List.length_map]
        exact Nat.le_trans (Nat.add_le_add_left hlen 1) (by decide)
      obtain ⟨z, hz⟩ := last_int ns
      refine ⟨1, rfl, c2, _, _, _, rfl, rfl, SqL.of upd_same, hz, ?_⟩
      refine ⟨_, rfl, fun H2 s e2 hs src => ?_⟩
      dsimp only [tNil, List.append_nil]
      exact ⟨s, 1000, rfl, src.less (by decide), fun H3 => k _⟩
end

/-! ### the head by facts -/
def dd0 : He.DefD := ⟨("is_integer", none), "is_integer", "is_integer", defArgs s_is_integer, defBody s_is_integer, defScope s_is_integer, [], []⟩
def dd1 : He.DefD := ⟨("is_at_least", none), "is_at_least", "is_at_least", defArgs s_is_at_least, defBody s_is_at_least, defScope s_is_at_least, [], []⟩
def dd2 : He.DefD := ⟨("is_between", none), "is_between", "is_between", defArgs s_is_between, defBody s_is_between, defScope s_is_between, [], []⟩
def dd3 : He.DefD := ⟨("require_at_least", none), "require_at_least", "require_at_least", defArgs s_require_at_least, defBody s_require_at_least, defScope s_require_at_least, [], []⟩
def dd4 : He.DefD := ⟨("require_places", none), "require_places", "require_places", defArgs s_require_places, defBody s_require_places, defScope s_require_places, [], []⟩
def dd5 : He.DefD := ⟨("require_place", none), "require_place", "require_place", defArgs s_require_place, defBody s_require_place, defScope s_require_place, [], []⟩
def dd6 : He.DefD := ⟨("require_limit", none), "require_limit", "require_limit", defArgs s_require_limit, defBody s_require_limit, defScope s_require_limit, [], []⟩
def dd7 : He.DefD := ⟨("rotated", none), "rotated", "rotated", defArgs s_rotated, defBody s_rotated, defScope s_rotated, [], []⟩
def dd8 : He.DefD := ⟨("doubled", none), "doubled", "doubled", defArgs s_doubled, defBody s_doubled, defScope s_doubled, [], []⟩
def dd9 : He.DefD := ⟨("bits_of", none), "bits_of", "bits_of", defArgs s_bits_of, defBody s_bits_of, defScope s_bits_of, [], []⟩
def dd10 : He.DefD := ⟨("sum_layers", none), "sum_layers", "sum_layers", defArgs s_sum_layers, defBody s_sum_layers, defScope s_sum_layers, [], []⟩
def dd11 : He.DefD := ⟨("min_calls_on_ring", none), "min_calls_on_ring", "min_calls_on_ring", defArgs s_min_calls_on_ring, defBody s_min_calls_on_ring, defScope s_min_calls_on_ring, [], []⟩
def dd12 : He.DefD := ⟨("halved", none), "halved", "halved", defArgs s_halved, defBody s_halved, defScope s_halved, [], []⟩
def dd13 : He.DefD := ⟨("sum_counts", none), "sum_counts", "sum_counts", defArgs s_sum_counts, defBody s_sum_counts, defScope s_sum_counts, [], []⟩
def dd14 : He.DefD := ⟨("_law_cell_at", none), "_law_cell_at", "_law_cell_at", defArgs s_law_cell_at, defBody s_law_cell_at, defScope s_law_cell_at, [], []⟩
def dd15 : He.DefD := ⟨("_law_source", none), "_law_source", "_law_source", defArgs s_law_source, defBody s_law_source, defScope s_law_source, [], []⟩
def dd16 : He.DefD := ⟨("_law_take", none), "_law_take", "_law_take", defArgs s_law_take, defBody s_law_take, defScope s_law_take, [], []⟩
def dd17 : He.DefD := ⟨("_law_large", none), "_law_large", "_law_large", defArgs s_law_large, defBody s_law_large, defScope s_law_large, [], []⟩
def dd18 : He.DefD := ⟨("_law_targets", none), "_law_targets", "_law_targets", defArgs s_law_targets, defBody s_law_targets, defScope s_law_targets, [], []⟩
def dd19 : He.DefD := ⟨("_law_is_sum", none), "_law_is_sum", "_law_is_sum", defArgs s_law_is_sum, defBody s_law_is_sum, defScope s_law_is_sum, [], []⟩
def dd20 : He.DefD := ⟨("_law_doubled", none), "_law_doubled", "_law_doubled", defArgs s_law_doubled, defBody s_law_doubled, defScope s_law_doubled, [], []⟩
def dd21 : He.DefD := ⟨("_law_reached", none), "_law_reached", "_law_reached", defArgs s_law_reached, defBody s_law_reached, defScope s_law_reached, [], []⟩
def dd22 : He.DefD := ⟨("_law_least", none), "_law_least", "_law_least", defArgs s_law_least, defBody s_law_least, defScope s_law_least, [], []⟩
def dd23 : He.DefD := ⟨("_law_long_scene", none), "_law_long_scene", "_law_long_scene", defArgs s_law_long_scene, defBody s_law_long_scene, defScope s_law_long_scene, [], []⟩
def dd24 : He.DefD := ⟨("_law_long_right", none), "_law_long_right", "_law_long_right", defArgs s_law_long_right, defBody s_law_long_right, defScope s_law_long_right, [], []⟩
def dd25 : He.DefD := ⟨("_law_right", none), "_law_right", "_law_right", defArgs s_law_right, defBody s_law_right, defScope s_law_right, [], []⟩
def dd26 : He.DefD := ⟨("law", none), "law", "law", defArgs s_law, defBody s_law, defScope s_law, [], []⟩
def fnL0 : List He.DefD := [dd0, dd1, dd2, dd3, dd4, dd5, dd6, dd7, dd8, dd9, dd10, dd11, dd12, dd13, dd14, dd15, dd16, dd17, dd18, dd19, dd20, dd21, dd22, dd23, dd24, dd25, dd26]
def fnL : List He.DefD := fnL0
def faL0 : List He.Fa := [.glo "is_integer", .glo "is_at_least", .glo "is_between", .glo "require_at_least", .glo "require_places", .glo "require_place", .glo "require_limit", .glo "rotated", .glo "doubled", .glo "bits_of", .glo "sum_layers", .glo "min_calls_on_ring", .glo "halved", .glo "sum_counts", .glo "_law_cell_at", .glo "_law_source", .glo "_law_take", .glo "_law_large", .glo "_law_targets", .glo "_law_is_sum", .glo "_law_doubled", .glo "_law_reached", .glo "_law_least", .glo "_law_long_scene", .glo "_law_long_right", .glo "_law_right", .glo "law", .int "MAX_SIZE" 2000, .int "MAX_CALLS" 40, .free "bool"]
def faL1 : List He.Fa := [.free "enumerate", .free "int", .free "isinstance", .free "len", .free "list", .free "range", .free "repr", .free "reversed", .free "sum", .free "tuple", .free "zip"]
def faL : List He.Fa := faL0 ++ faL1
def exB (K : PySem.W.Frag) : Bool := true
abbrev AlK : Type := He.AlD × Bool
def obsK2 (K : PySem.W.Frag) : AlK := (He.obsD faL fnL K, exB K)
def SaysK (K : PySem.W.Frag) : Prop := obsK2 K = (He.valD fnL, true)
def obsK (g : Addr → Option Obj) : AlK := obsK2 (He.frG g (He.asD g 4))
def hk : PySem.W.Hook where
  α := AlK
  obs := fun s => obsK s.heap.get?
  val := fun _ => (He.valD fnL, true)
  says := fun _ h => ∃ K : PySem.W.Frag, K.In h ∧ SaysK K
  of := fun _ _ e => ⟨_, He.frG_in, e⟩
  keeps := fun _ _ _ ⟨K, hK, c⟩ k => ⟨K, PySem.W.Frag.In.keeps hK k, c⟩
def ob (s : PySem.W.SharedT) : AlK := obsK (HandSHeadRun.getT s)
theorem ob_eq (s : PySem.W.SharedT) : ob s = hk.obs s.abs := by
  have e : HandSHeadRun.getT s = s.abs.heap.get? := funext (HandSHeadRun.getT_eq s)
  show obsK (HandSHeadRun.getT s) = obsK s.abs.heap.get?
  rw [e]
def loose0 : List PySem.Str := ["SeatError", "InvalidTargets", "InvalidNumber", "TooLarge", "is_integer", "is_at_least", "is_between", "require_at_least", "MAX_SIZE", "MAX_CALLS", "require_places", "require_place", "require_limit", "rotated", "doubled", "bits_of", "sum_layers", "min_calls_on_ring", "halved", "sum_counts", "_law_cell_at", "_law_source", "_law_take", "_law_large", "_law_targets", "_law_is_sum", "_law_doubled", "_law_reached", "_law_least", "_law_long_scene"]
def loose1 : List PySem.Str := ["_law_long_right", "_law_right"]
def loose : List PySem.Str := loose0 ++ loose1
abbrev RR : PySem.W.OpenRow := PySem.W.OpenLaw.row PySem.Challenge.rw_calledseats_k53_sums_on_small_rings
abbrev QQ : Program := PySem.W.view RR.prog [36]
def kOf (s : PySem.W.SharedT) : PySem.W.Frag := He.frG (HandSHeadRun.getT s) (He.asD (HandSHeadRun.getT s) 4)
theorem runA (w : World) : HandSHeadRun.RunEq RR QQ PySem.W.Hook.none (fun _ => ()) 30000 loose w := by
  intro os
  kernel_rfl
def obB (s : PySem.W.SharedT) : Bool × List He.FnW := (fnL.all fun d => d.ok (kOf s), fnL.map fun d => He.fnW (kOf s) d.at_)
def obC (s : PySem.W.SharedT) : Bool × Bool := (faL.all fun f => f.ok (kOf s), exB (kOf s))
theorem runB (w : World) (os : OsState) : (HandSHeadRun.endF (HandSHeadRun.stepQ (HandSHeadRun.denQ HandSHeadRun.tabQ) RR.prog w) 30000 RR.prog w os).map obB = some (true, fnL.map He.DefD.val) := by
  kernel_rfl
theorem runC (w : World) (os : OsState) : (HandSHeadRun.endF (HandSHeadRun.stepQ (HandSHeadRun.denQ HandSHeadRun.tabQ) RR.prog w) 30000 RR.prog w os).map obC = some (true, true) := by
  kernel_rfl
theorem runTop (w : World) : HandSHeadRun.RunEq RR QQ hk ob 30000 loose w := by
  intro os
  have hA := runA w os
  have hB := runB w os
  have hC := runC w os
  cases e : HandSHeadRun.endF (HandSHeadRun.stepQ (HandSHeadRun.denQ HandSHeadRun.tabQ) RR.prog w) 30000 RR.prog w os with
  | none =>
    rw [e] at hB
    cases hB
  | some s =>
    rw [e] at hA hB hC
    have hA2 := Option.some.inj hA
    have hB2 : obB s = (true, fnL.map He.DefD.val) := Option.some.inj hB
    have hC2 : obC s = (true, true) := Option.some.inj hC
    have hA3 := Prod.mk.inj hA2
    have hA4 := Prod.mk.inj hA3.2
    obtain ⟨b1, b2⟩ := Prod.mk.inj hB2
    obtain ⟨c1, c2⟩ := Prod.mk.inj hC2
    have ho : ob s = (He.valD fnL, true) := by
      show (((faL.all fun f => f.ok (kOf s)) && (fnL.all fun d => d.ok (kOf s)), fnL.map fun d => He.fnW (kOf s) d.at_), exB (kOf s)) = ((true, fnL.map He.DefD.val), true)
      rw [c1, b1, b2, c2]
      rfl
    exact congrArg some (Prod.ext hA3.1 (Prod.ext hA4.1 ho))
theorem fun_of {K : PySem.W.Frag} {d : He.DefD} {st : Stmt} {x q : Str} {fd : FuncData} (e1 : d.name = x) (e2 : d.qual = q) (e3 : d.params = defArgs st) (e4 : d.body = defBody st) (e5 : d.scope = defScope st) (e6 : d.dfl = []) (F : L2.FunD K d.name d.qual d.params d.body d.scope (d.dvs K) (d.kws K) (He.fAd K d.at_) fd) : Fun K x q st (He.fAd K d.at_) fd := by
  obtain ⟨oc, od, dV, kV, doc, pm, an, cdv, ct, osl, h1, h2, h3, h4, h5⟩ := F.ex
  have h6 : dV = .none := by
    rcases h4 with ⟨_, h⟩ | ⟨h, _⟩
    · exact h
    · exact absurd (by show d.dfl.map _ = []; rw [e6]; rfl) h
  subst e1 e2
  rw [e3, e4, e5, h6] at h1
  exact ⟨⟨oc, od, kV, doc, pm, an, cdv, ct, osl, h1, h2, h3⟩, F.kp⟩
set_option maxHeartbeats 0 in
theorem tx_of {K : PySem.W.Frag} {h : Heap} {mg : Str → Option Value} (X : K.In h) (G : h.Ns mainGlobals mg) (c2 : SaysK K) :
    ∃ T : TX K mg, mg "law" = some (.ref T.f_law) ∧ ∀ (s : Shared) (v : Value), BindsTo s T.fd_law ⟨[v], []⟩ [("_law_script", v)] := by
  have c : He.SaysD faL fnL K := congrArg (fun z : AlK => z.1) c2
  have cx : exB K = true := congrArg (fun z : AlK => z.2) c2
  obtain ⟨fd0, D0⟩ := c.def_ 0 (d := dd0) rfl
  have F0 : Fun K "is_integer" "is_integer" s_is_integer (He.fAd K dd0.at_) fd0 := fun_of rfl rfl rfl rfl rfl rfl D0
  have b0 := F0.binds (ps := ["value"]) fun _ _ _ _ _ _ us hl => match us, hl with | [_], _ => rfl
  obtain ⟨fd1, D1⟩ := c.def_ 1 (d := dd1) rfl
  have F1 : Fun K "is_at_least" "is_at_least" s_is_at_least (He.fAd K dd1.at_) fd1 := fun_of rfl rfl rfl rfl rfl rfl D1
  have b1 := F1.binds (ps := ["value", "low"]) fun _ _ _ _ _ _ us hl => match us, hl with | [_, _], _ => rfl
  obtain ⟨fd2, D2⟩ := c.def_ 2 (d := dd2) rfl
  have F2 : Fun K "is_between" "is_between" s_is_between (He.fAd K dd2.at_) fd2 := fun_of rfl rfl rfl rfl rfl rfl D2
  have b2 := F2.binds (ps := ["value", "low", "high"]) fun _ _ _ _ _ _ us hl => match us, hl with | [_, _, _], _ => rfl
  obtain ⟨fd3, D3⟩ := c.def_ 3 (d := dd3) rfl
  have F3 : Fun K "require_at_least" "require_at_least" s_require_at_least (He.fAd K dd3.at_) fd3 := fun_of rfl rfl rfl rfl rfl rfl D3
  have b3 := F3.binds (ps := ["value", "low", "name"]) fun _ _ _ _ _ _ us hl => match us, hl with | [_, _, _], _ => rfl
  obtain ⟨fd4, D4⟩ := c.def_ 4 (d := dd4) rfl
  have F4 : Fun K "require_places" "require_places" s_require_places (He.fAd K dd4.at_) fd4 := fun_of rfl rfl rfl rfl rfl rfl D4
  have b4 := F4.binds (ps := ["size", "targets"]) fun _ _ _ _ _ _ us hl => match us, hl with | [_, _], _ => rfl
  obtain ⟨fd5, D5⟩ := c.def_ 5 (d := dd5) rfl
  have F5 : Fun K "require_place" "require_place" s_require_place (He.fAd K dd5.at_) fd5 := fun_of rfl rfl rfl rfl rfl rfl D5
  have b5 := F5.binds (ps := ["size", "place", "name"]) fun _ _ _ _ _ _ us hl => match us, hl with | [_, _, _], _ => rfl
  obtain ⟨fd6, D6⟩ := c.def_ 6 (d := dd6) rfl
  have F6 : Fun K "require_limit" "require_limit" s_require_limit (He.fAd K dd6.at_) fd6 := fun_of rfl rfl rfl rfl rfl rfl D6
  have b6 := F6.binds (ps := ["number", "limit"]) fun _ _ _ _ _ _ us hl => match us, hl with | [_, _], _ => rfl
  obtain ⟨fd7, D7⟩ := c.def_ 7 (d := dd7) rfl
  have F7 : Fun K "rotated" "rotated" s_rotated (He.fAd K dd7.at_) fd7 := fun_of rfl rfl rfl rfl rfl rfl D7
  have b7 := F7.binds (ps := ["size", "bits", "shift"]) fun _ _ _ _ _ _ us hl => match us, hl with | [_, _, _], _ => rfl
  obtain ⟨fd8, D8⟩ := c.def_ 8 (d := dd8) rfl
  have F8 : Fun K "doubled" "doubled" s_doubled (He.fAd K dd8.at_) fd8 := fun_of rfl rfl rfl rfl rfl rfl D8
  have b8 := F8.binds (ps := ["size", "bits"]) fun _ _ _ _ _ _ us hl => match us, hl with | [_, _], _ => rfl
  obtain ⟨fd9, D9⟩ := c.def_ 9 (d := dd9) rfl
  have F9 : Fun K "bits_of" "bits_of" s_bits_of (He.fAd K dd9.at_) fd9 := fun_of rfl rfl rfl rfl rfl rfl D9
  have b9 := F9.binds (ps := ["places"]) fun _ _ _ _ _ _ us hl => match us, hl with | [_], _ => rfl
  obtain ⟨fd10, D10⟩ := c.def_ 10 (d := dd10) rfl
  have F10 : Fun K "sum_layers" "sum_layers" s_sum_layers (He.fAd K dd10.at_) fd10 := fun_of rfl rfl rfl rfl rfl rfl D10
  have b10 := F10.binds (ps := ["size", "targets", "calls"]) fun _ _ _ _ _ _ us hl => match us, hl with | [_, _, _], _ => rfl
  obtain ⟨fd11, D11⟩ := c.def_ 11 (d := dd11) rfl
  have F11 : Fun K "min_calls_on_ring" "min_calls_on_ring" s_min_calls_on_ring (He.fAd K dd11.at_) fd11 := fun_of rfl rfl rfl rfl rfl rfl D11
  have b11 := F11.binds (ps := ["size", "targets", "place"]) fun _ _ _ _ _ _ us hl => match us, hl with | [_, _, _], _ => rfl
  obtain ⟨fd12, D12⟩ := c.def_ 12 (d := dd12) rfl
  have F12 : Fun K "halved" "halved" s_halved (He.fAd K dd12.at_) fd12 := fun_of rfl rfl rfl rfl rfl rfl D12
  have b12 := F12.binds (ps := ["size", "bits", "amounts"]) fun _ _ _ _ _ _ us hl => match us, hl with | [_, _, _], _ => rfl
  obtain ⟨fd13, D13⟩ := c.def_ 13 (d := dd13) rfl
  have F13 : Fun K "sum_counts" "sum_counts" s_sum_counts (He.fAd K dd13.at_) fd13 := fun_of rfl rfl rfl rfl rfl rfl D13
  have b13 := F13.binds (ps := ["size", "targets", "place", "calls"]) fun _ _ _ _ _ _ us hl => match us, hl with | [_, _, _, _], _ => rfl
  obtain ⟨fd14, D14⟩ := c.def_ 14 (d := dd14) rfl
  have F14 : Fun K "_law_cell_at" "_law_cell_at" s_law_cell_at (He.fAd K dd14.at_) fd14 := fun_of rfl rfl rfl rfl rfl rfl D14
  have b14 := F14.binds (ps := ["_law_script", "_law_k"]) fun _ _ _ _ _ _ us hl => match us, hl with | [_, _], _ => rfl
  obtain ⟨fd15, D15⟩ := c.def_ 15 (d := dd15) rfl
  have F15 : Fun K "_law_source" "_law_source" s_law_source (He.fAd K dd15.at_) fd15 := fun_of rfl rfl rfl rfl rfl rfl D15
  have b15 := F15.binds (ps := ["_law_cell"]) fun _ _ _ _ _ _ us hl => match us, hl with | [_], _ => rfl
  obtain ⟨fd16, D16⟩ := c.def_ 16 (d := dd16) rfl
  have F16 : Fun K "_law_take" "_law_take" s_law_take (He.fAd K dd16.at_) fd16 := fun_of rfl rfl rfl rfl rfl rfl D16
  have b16 := F16.binds (ps := ["_law_source_here", "_law_bound"]) fun _ _ _ _ _ _ us hl => match us, hl with | [_, _], _ => rfl
  obtain ⟨fd17, D17⟩ := c.def_ 17 (d := dd17) rfl
  have F17 : Fun K "_law_large" "_law_large" s_law_large (He.fAd K dd17.at_) fd17 := fun_of rfl rfl rfl rfl rfl rfl D17
  have b17 := F17.binds (ps := ["_law_source_here", "_law_bound"]) fun _ _ _ _ _ _ us hl => match us, hl with | [_, _], _ => rfl
  obtain ⟨fd18, D18⟩ := c.def_ 18 (d := dd18) rfl
  have F18 : Fun K "_law_targets" "_law_targets" s_law_targets (He.fAd K dd18.at_) fd18 := fun_of rfl rfl rfl rfl rfl rfl D18
  have b18 := F18.binds (ps := ["_law_source_here", "_law_ring", "_law_bound"]) fun _ _ _ _ _ _ us hl => match us, hl with | [_, _, _], _ => rfl
  obtain ⟨fd19, D19⟩ := c.def_ 19 (d := dd19) rfl
  have F19 : Fun K "_law_is_sum" "_law_is_sum" s_law_is_sum (He.fAd K dd19.at_) fd19 := fun_of rfl rfl rfl rfl rfl rfl D19
  have b19 := F19.binds (ps := ["_law_ring", "_law_goals", "_law_spot", "_law_depth", "_law_amounts"]) fun _ _ _ _ _ _ us hl => match us, hl with | [_, _, _, _, _], _ => rfl
  obtain ⟨fd20, D20⟩ := c.def_ 20 (d := dd20) rfl
  have F20 : Fun K "_law_doubled" "_law_doubled" s_law_doubled (He.fAd K dd20.at_) fd20 := fun_of rfl rfl rfl rfl rfl rfl D20
  have b20 := F20.binds (ps := ["_law_ring", "_law_present"]) fun _ _ _ _ _ _ us hl => match us, hl with | [_, _], _ => rfl
  obtain ⟨fd21, D21⟩ := c.def_ 21 (d := dd21) rfl
  have F21 : Fun K "_law_reached" "_law_reached" s_law_reached (He.fAd K dd21.at_) fd21 := fun_of rfl rfl rfl rfl rfl rfl D21
  have b21 := F21.binds (ps := ["_law_ring", "_law_goals", "_law_depth"]) fun _ _ _ _ _ _ us hl => match us, hl with | [_, _, _], _ => rfl
  obtain ⟨fd22, D22⟩ := c.def_ 22 (d := dd22) rfl
  have F22 : Fun K "_law_least" "_law_least" s_law_least (He.fAd K dd22.at_) fd22 := fun_of rfl rfl rfl rfl rfl rfl D22
  have b22 := F22.binds (ps := ["_law_ring", "_law_goals", "_law_spot"]) fun _ _ _ _ _ _ us hl => match us, hl with | [_, _, _], _ => rfl
  obtain ⟨fd23, D23⟩ := c.def_ 23 (d := dd23) rfl
  have F23 : Fun K "_law_long_scene" "_law_long_scene" s_law_long_scene (He.fAd K dd23.at_) fd23 := fun_of rfl rfl rfl rfl rfl rfl D23
  have b23 := F23.binds (ps := ["_law_source_here"]) fun _ _ _ _ _ _ us hl => match us, hl with | [_], _ => rfl
  obtain ⟨fd24, D24⟩ := c.def_ 24 (d := dd24) rfl
  have F24 : Fun K "_law_long_right" "_law_long_right" s_law_long_right (He.fAd K dd24.at_) fd24 := fun_of rfl rfl rfl rfl rfl rfl D24
  have b24 := F24.binds (ps := ["_law_source_here"]) fun _ _ _ _ _ _ us hl => match us, hl with | [_], _ => rfl
  obtain ⟨fd25, D25⟩ := c.def_ 25 (d := dd25) rfl
  have F25 : Fun K "_law_right" "_law_right" s_law_right (He.fAd K dd25.at_) fd25 := fun_of rfl rfl rfl rfl rfl rfl D25
  have b25 := F25.binds (ps := ["_law_ring", "_law_goals", "_law_spot", "_law_depth", "_law_due"]) fun _ _ _ _ _ _ us hl => match us, hl with | [_, _, _, _, _], _ => rfl
  obtain ⟨fd26, D26⟩ := c.def_ 26 (d := dd26) rfl
  have F26 : Fun K "law" "law" s_law (He.fAd K dd26.at_) fd26 := fun_of rfl rfl rfl rfl rfl rfl D26
  have b26 := F26.binds (ps := ["_law_script"]) fun _ _ _ _ _ _ us hl => match us, hl with | [_], _ => rfl
  obtain ⟨t_MAX_SIZE, e_MAX_SIZE⟩ := He.int_ok X G (c.fact 27 (f := .int "MAX_SIZE" 2000) rfl)
  obtain ⟨t_MAX_CALLS, e_MAX_CALLS⟩ := He.int_ok X G (c.fact 28 (f := .int "MAX_CALLS" 40) rfl)
  refine ⟨{
    f_is_integer := He.fAd K dd0.at_, fd_is_integer := fd0, F_is_integer := F0, b_is_integer := b0, m_is_integer := He.glo_ok X G (c.fact 0 (f := .glo "is_integer") rfl),
    f_is_at_least := He.fAd K dd1.at_, fd_is_at_least := fd1, F_is_at_least := F1, b_is_at_least := b1, m_is_at_least := He.glo_ok X G (c.fact 1 (f := .glo "is_at_least") rfl),
    f_is_between := He.fAd K dd2.at_, fd_is_between := fd2, F_is_between := F2, b_is_between := b2, m_is_between := He.glo_ok X G (c.fact 2 (f := .glo "is_between") rfl),
    f_require_at_least := He.fAd K dd3.at_, fd_require_at_least := fd3, F_require_at_least := F3, b_require_at_least := b3, m_require_at_least := He.glo_ok X G (c.fact 3 (f := .glo "require_at_least") rfl),
    f_require_places := He.fAd K dd4.at_, fd_require_places := fd4, F_require_places := F4, b_require_places := b4, m_require_places := He.glo_ok X G (c.fact 4 (f := .glo "require_places") rfl),
    f_require_place := He.fAd K dd5.at_, fd_require_place := fd5, F_require_place := F5, b_require_place := b5, m_require_place := He.glo_ok X G (c.fact 5 (f := .glo "require_place") rfl),
    f_require_limit := He.fAd K dd6.at_, fd_require_limit := fd6, F_require_limit := F6, b_require_limit := b6, m_require_limit := He.glo_ok X G (c.fact 6 (f := .glo "require_limit") rfl),
    f_rotated := He.fAd K dd7.at_, fd_rotated := fd7, F_rotated := F7, b_rotated := b7, m_rotated := He.glo_ok X G (c.fact 7 (f := .glo "rotated") rfl),
    f_doubled := He.fAd K dd8.at_, fd_doubled := fd8, F_doubled := F8, b_doubled := b8, m_doubled := He.glo_ok X G (c.fact 8 (f := .glo "doubled") rfl),
    f_bits_of := He.fAd K dd9.at_, fd_bits_of := fd9, F_bits_of := F9, b_bits_of := b9, m_bits_of := He.glo_ok X G (c.fact 9 (f := .glo "bits_of") rfl),
    f_sum_layers := He.fAd K dd10.at_, fd_sum_layers := fd10, F_sum_layers := F10, b_sum_layers := b10, m_sum_layers := He.glo_ok X G (c.fact 10 (f := .glo "sum_layers") rfl),
    f_min_calls_on_ring := He.fAd K dd11.at_, fd_min_calls_on_ring := fd11, F_min_calls_on_ring := F11, b_min_calls_on_ring := b11, m_min_calls_on_ring := He.glo_ok X G (c.fact 11 (f := .glo "min_calls_on_ring") rfl),
    f_halved := He.fAd K dd12.at_, fd_halved := fd12, F_halved := F12, b_halved := b12, m_halved := He.glo_ok X G (c.fact 12 (f := .glo "halved") rfl),
    f_sum_counts := He.fAd K dd13.at_, fd_sum_counts := fd13, F_sum_counts := F13, b_sum_counts := b13, m_sum_counts := He.glo_ok X G (c.fact 13 (f := .glo "sum_counts") rfl),
    f_law_cell_at := He.fAd K dd14.at_, fd_law_cell_at := fd14, F_law_cell_at := F14, b_law_cell_at := b14, m_law_cell_at := He.glo_ok X G (c.fact 14 (f := .glo "_law_cell_at") rfl),
    f_law_source := He.fAd K dd15.at_, fd_law_source := fd15, F_law_source := F15, b_law_source := b15, m_law_source := He.glo_ok X G (c.fact 15 (f := .glo "_law_source") rfl),
    f_law_take := He.fAd K dd16.at_, fd_law_take := fd16, F_law_take := F16, b_law_take := b16, m_law_take := He.glo_ok X G (c.fact 16 (f := .glo "_law_take") rfl),
    f_law_large := He.fAd K dd17.at_, fd_law_large := fd17, F_law_large := F17, b_law_large := b17, m_law_large := He.glo_ok X G (c.fact 17 (f := .glo "_law_large") rfl),
    f_law_targets := He.fAd K dd18.at_, fd_law_targets := fd18, F_law_targets := F18, b_law_targets := b18, m_law_targets := He.glo_ok X G (c.fact 18 (f := .glo "_law_targets") rfl),
    f_law_is_sum := He.fAd K dd19.at_, fd_law_is_sum := fd19, F_law_is_sum := F19, b_law_is_sum := b19, m_law_is_sum := He.glo_ok X G (c.fact 19 (f := .glo "_law_is_sum") rfl),
    f_law_doubled := He.fAd K dd20.at_, fd_law_doubled := fd20, F_law_doubled := F20, b_law_doubled := b20, m_law_doubled := He.glo_ok X G (c.fact 20 (f := .glo "_law_doubled") rfl),
    f_law_reached := He.fAd K dd21.at_, fd_law_reached := fd21, F_law_reached := F21, b_law_reached := b21, m_law_reached := He.glo_ok X G (c.fact 21 (f := .glo "_law_reached") rfl),
    f_law_least := He.fAd K dd22.at_, fd_law_least := fd22, F_law_least := F22, b_law_least := b22, m_law_least := He.glo_ok X G (c.fact 22 (f := .glo "_law_least") rfl),
    f_law_long_scene := He.fAd K dd23.at_, fd_law_long_scene := fd23, F_law_long_scene := F23, b_law_long_scene := b23, m_law_long_scene := He.glo_ok X G (c.fact 23 (f := .glo "_law_long_scene") rfl),
    f_law_long_right := He.fAd K dd24.at_, fd_law_long_right := fd24, F_law_long_right := F24, b_law_long_right := b24, m_law_long_right := He.glo_ok X G (c.fact 24 (f := .glo "_law_long_right") rfl),
    f_law_right := He.fAd K dd25.at_, fd_law_right := fd25, F_law_right := F25, b_law_right := b25, m_law_right := He.glo_ok X G (c.fact 25 (f := .glo "_law_right") rfl),
    f_law := He.fAd K dd26.at_, fd_law := fd26, F_law := F26, b_law := b26, m_law := He.glo_ok X G (c.fact 26 (f := .glo "law") rfl),
    t_MAX_SIZE := t_MAX_SIZE, c_MAX_SIZE := e_MAX_SIZE,
    t_MAX_CALLS := t_MAX_CALLS, c_MAX_CALLS := e_MAX_CALLS,
    z_bool := He.free_ok X G (c.fact 29 (f := .free "bool") rfl),
    z_enumerate := He.free_ok X G (c.fact 30 (f := .free "enumerate") rfl),
    z_int := He.free_ok X G (c.fact 31 (f := .free "int") rfl),
    z_isinstance := He.free_ok X G (c.fact 32 (f := .free "isinstance") rfl),
    z_len := He.free_ok X G (c.fact 33 (f := .free "len") rfl),
    z_list := He.free_ok X G (c.fact 34 (f := .free "list") rfl),
    z_range := He.free_ok X G (c.fact 35 (f := .free "range") rfl),
    z_repr := He.free_ok X G (c.fact 36 (f := .free "repr") rfl),
    z_reversed := He.free_ok X G (c.fact 37 (f := .free "reversed") rfl),
    z_sum := He.free_ok X G (c.fact 38 (f := .free "sum") rfl),
    z_tuple := He.free_ok X G (c.fact 39 (f := .free "tuple") rfl),
    z_zip := He.free_ok X G (c.fact 40 (f := .free "zip") rfl)
  }, He.glo_ok X G (c.fact 26 (f := .glo "law") rfl), fun s v => ?_⟩
  obtain ⟨oc, od, kV, doc, pm, an, cdv, ct, osl, h1, h2, h3⟩ := F26.ex
  show BindsTo s fd26 _ _
  rw [h1]
  exact .of_eq rfl
end CS
open PySem PySem.W PySem.Calls PyProof.Rows in
set_option maxRecDepth 100000 in
set_option maxHeartbeats 0 in
theorem PySem.Challenge.cw_calledseats_k53_sums_on_small_rings_holds : PySem.Challenge.rw_calledseats_k53_sums_on_small_rings.Holds := by
  w_on; o_law
  refine HandSHeadRun.head_any (r := OpenLaw.row PySem.Challenge.rw_calledseats_k53_sums_on_small_rings) (q := view (OpenLaw.row PySem.Challenge.rw_calledseats_k53_sums_on_small_rings).prog [36]) (H := CS.hk) (ob := CS.ob) (M := 30000) (loose := CS.loose) (d := HandSHeadRun.topDef (OpenLaw.row PySem.Challenge.rw_calledseats_k53_sums_on_small_rings).prog 36) (kwd := []) CS.ob_eq
    (by kernel_rfl) (fun s => by kernel_rfl) CS.runTop (by kernel_rfl) (by kernel_rfl) (by kernel_rfl) (by rfl) (by first | assumption | decide +kernel) (by decide +kernel) ⟨rfl, rfl, rfl, rfl, rfl, by decide +kernel⟩ ?hw ?hc
  case hw => w_witness2
  case hc =>
    refine CG.walk_ofG (l := PySem.Challenge.rw_calledseats_k53_sums_on_small_rings) (n := 63) (k := 7) (x := "_law_script") rfl (by decide) (by kernel_rfl) ⟨rfl, by decide, by decide⟩ ?F
    intro w mg fa h Y G hmg0
    obtain ⟨K, KX, c⟩ := Y
    have hmg : mg ("law" : PySem.Str) = some (.ref fa) := by
      have e : (HandSHeadRun.topDef (OpenLaw.row PySem.Challenge.rw_calledseats_k53_sums_on_small_rings).prog 36).name = ("law" : PySem.Str) := by kernel_rfl
      rw [← e]
      exact hmg0
    obtain ⟨T, e1, e2⟩ := CS.tx_of KX G c
    have e := hmg.symm.trans e1
    cases e
    exact ⟨K, T.fd_law, CS.sp_law K, KX, e2, fun H a ns hl _ hS => ⟨a, ns, rfl, hS, hl, fun _ => rfl⟩, fun base _ _ => CS.ok_law T⟩
