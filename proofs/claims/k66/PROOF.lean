import PyProof.Rows.All
import Wide.All
import OpenK.AllK
import Wide.FinOn
import HandS.ForMost
import HandS.Zip
import HandS.TupAny
import HandS.TupMul
import HandS.Deep
import HandS.Style
import HandS.SetFor
import HandS.Strs
import HandS.Walk
import HandS.IsInst
import HandS.Conv
import HandS.Wide
import HandS.WideBits
import HandS.Evl
import HandS.MakeKwOnly
import KE.GoesMore
import KE.GoesEnumKw
import KE.KBits
import KE.SortData
import HandS.TupSets
import HandS.More
import KE.KeyNested
import HandS.SortKw
import HandS.DictComp
import HandS.DictTup
import HandS.TupLen
import KE.KDictCopyH
import KE.KDictWalk
import KE.KDictKeyed
import PyProof.WalkInts
import PyProof.SeqI3
import HandS.TryOnly
import KE.KStateDown
import HandS.Head0
import HandS.Head1
import HandS.Head2
import HandS.More
import HandS.Defaults
import HandS.HeadEnd
import HandS.HeadHook1
import HandS.HeadHook2
import PySem.Challenge.RW_calledseats_k66_max_more_by_search
set_option Elab.async false
set_option linter.all false
set_option maxRecDepth 100000
set_option maxHeartbeats 4000000


namespace CZ
open PySem PySem.Spec PyProof.Rows L2
open PySem.Sem (wp)
/-- one draw of a zip: strict or not -/
def zdraw (b : Bool) (it : Value) : Sem (Option Value) := if b = true then Builtin.SmallTypes.nextOrEnd it else (Builtin.SmallTypes.nextOf it >>= fun x => pure (some x))
/-- a zip object: f0 what it has handed out, b its strictness -/
abbrev ZipO (h : Heap) (z TI TO : Addr) (f0 : Value) (b : Bool) : Prop := h.get? z = some { cls := .type "zip", data := .fields #[f0, .bool false, .bool b, .ref TI, .ref TO] }
abbrev TupO (h : Heap) (T : Addr) (vs : Array Value) : Prop := h.get? T = some { cls := .type "tuple", data := .seq vs }
theorem val_b (b : Bool) : (Value.bool b == Value.bool true) = b := by cases b <;> rfl
section
variable {prog : Program} {w : World} {A : Around} {E : Value → Shared → Prop} {s : Shared} {b : Bool}
theorem zdraw_item {it : Addr} {fp : List Addr} {n i : Nat} {P : Nat → Value → Prop} {St : Nat → Heap → Prop} {Q : Option Value → Shared → Prop} (D : Draws prog w A it fp n P St) (hi : i < n) (st : St i s.heap)
    (hQ : ∀ x h' tk, P i x → St (i + 1) h' → Heap.SameBut it s.heap h' → Q (some x) { s with heap := h', toks := tk }) : wpAny (model prog w) A (zdraw b (.ref it)) Q E s := by
  cases b with
  | false => exact wpAny_bind (m := Builtin.SmallTypes.nextOf (.ref it)) (D.item i s _ _ hi st fun x h' tk p st' sb => wpAny_pure (hQ x h' tk p st' sb))
  | true =>
    show wpAny _ _ (Builtin.SmallTypes.nextOrEnd (.ref it)) _ _ _
    unfold Builtin.SmallTypes.nextOrEnd
    exact wpAny_bind (wpAny_attempt (D.item i s _ _ hi st fun x h' tk p st' sb => wpAny_pure (hQ x h' tk p st' sb)))
theorem zend_strict {it : Addr} {fp : List Addr} {n : Nat} {P : Nat → Value → Prop} {St : Nat → Heap → Prop} {Q : Option Value → Shared → Prop} (D : Draws prog w A it fp n P St) (st : St n s.heap)
    (hQ : ∀ h', Heap.ExtBut it s.heap h' → Q none { s with heap := h' }) : wpAny (model prog w) A (Builtin.SmallTypes.nextOrEnd (.ref it)) Q E s := by
  unfold Builtin.SmallTypes.nextOrEnd
  refine wpAny_bind (wpAny_attempt (D.done s _ _ st fun h' e eb he => ?_))
  obtain ⟨o, ho, hc⟩ := he
  exact wpAny_bind (wpAny_isInstance (T := "StopIteration") (b := true) ⟨o, ho, hc⟩ isSubtype_stop (wpAny_pure (hQ h' eb)))
theorem upd_tup {T : Addr} {vs : Array Value} {x : Value} {k : Nat} {Q : Unit → Shared → Prop} (hT : TupO s.heap T vs) (hz : vs.size ≤ 8)
    (h : ∀ h', TupO h' T (vs.setIfInBounds k x) → Heap.SameBut T s.heap h' → Q () { s with heap := h' }) : wpAny (model prog w) A (updateSeq T (·.setIfInBounds k x)) Q E s := by
  have z8 : (8 : Nat) ≤ sizeLine := by decide
  refine wpAny_updateSeq hT rfl (h _ ?_ (Heap.SameBut.update ..)) (Nat.le_trans hz z8) (by rw [Array.size_setIfInBounds]; exact Nat.le_succ_of_le (Nat.le_trans hz z8))
  unfold TupO
  rw [Heap.get?_update_self _ hT rfl]
  simp [Obj.mapSeq]
theorem iter_zip {z TI TO : Addr} {f0 : Value} {Q : Value → Shared → Prop} (hz : ZipO s.heap z TI TO f0 b) (h : Q (.ref z) s) : wpAny (model prog w) A (pyIter (.ref z)) Q E s := by
  have hT : s.TypeIs (.ref z) "zip" := ⟨_, hz, rfl⟩
  exact wpAny_pyIter_slot hT F.slot_zip_iter (wpAny_call_entry F.slot_zip_iter hT F.entry_zip_iter (wpAny_pure ⟨_, rfl, "zip", _, hT, F.slot_zip_next.lookup, h⟩) (F.args_zip_iter_1 _))
/-- the tuple that was handed out is let go -/
theorem go_zip {elts : List Expr} {x1} {pos : Pos} {z TI TO T : Addr} {Q : Unit → Shared → Prop} (hz : ZipO s.heap z TI TO (rawInt T) b)
    (hQ : ∀ h', ZipO h' z TI TO .none b → Heap.SameBut z s.heap h' → Q () { s with heap := h' }) : wpAny (model prog w) A (letOwnedTupleGo (.Tuple elts x1 pos) (.ref z) (.ref T)) Q E s := by
  unfold letOwnedTupleGo
  refine wpAny_bind (wpAny_load hz ?_)
  show wpAny _ _ (ite _ _ _) Q E s
  rw [if_pos (by simp)]
  exact wpAny_bind (wpAny_rule (wpAny_setField_rec hz (by simp) fun h' hz' hs' => hQ h' hz' hs'))
/-- the StopIteration that a zip ends by -/
theorem stop_it {Q : Fin → Shared → Prop} (hh : A.handled = none) (hE : ∀ h' e, (∀ c o, s.heap.get? c = some o → h'.get? c = some o) → (∃ o, h'.get? e = some o ∧ o.cls = .type "StopIteration") → E (.ref e) { s with heap := h' }) :
    wpAny (model prog w) A (PySem.Builtin.SmallTypes.stopIteration : Sem Fin) Q E s := by
  unfold PySem.Builtin.SmallTypes.stopIteration
  show wpAny _ _ (newExc (.type "StopIteration") [] >>= _) _ _ _
  refine wpAny_bind ?_
  simp only [newExc, newTuple]
  refine wpAny_bind (wpAny_newObj_type ?_ (by size_fits))
  refine wpAny_bind (m := firstArgMember _ _) (wpAny_of_eq (a := Value.none) (by first | rfl | (simp only [firstArgMember]; rfl)) ?_)
  refine wpAny_newObj_type ?_ (by size_fits)
  simp only [raiseNew]
  refine wpAny_bind (wpAny_handled ?_)
  rw [hh]
  exact wpAny_bind (wpAny_pure (wpAny_throw (hE _ _ (fun c o e => Heap.get?_push_of_some _ (Heap.get?_push_of_some _ e)) ⟨_, Heap.get?_push_size _ rfl, rfl⟩)))
end
end CZ

namespace CZ
open PySem PySem.Spec PyProof.Rows L2
open PySem.Sem (wp)
/-- the cells of a zip over 2 iterators lie apart -/
structure Sep2 (z TI TO i1 i2 : Addr) (fp1 fp2 : List Addr) : Prop where
  zTO : z ≠ TO
  zTI : z ≠ TI
  TOTI : TO ≠ TI
  m1 : i1 ∈ fp1
  z1 : z ∉ fp1
  T1 : TO ∉ fp1
  I1 : TI ≠ i1
  s2_1 : i2 ∉ fp1
  m2 : i2 ∈ fp2
  z2 : z ∉ fp2
  T2 : TO ∉ fp2
  I2 : TI ≠ i2
  s1_2 : i1 ∉ fp2
section
variable {prog : Program} {w : World} {A : Around} {E : Value → Shared → Prop} {s : Shared} {b : Bool}
theorem next_item2 {z TI TO i1 i2 : Addr} {fp1 fp2 : List Addr} {n1 n2 i : Nat} {P1 P2 : Nat → Value → Prop} {St1 St2 : Nat → Heap → Prop} {a1 a2 : Value} {Q : Value → Shared → Prop} (S : Sep2 z TI TO i1 i2 fp1 fp2) (D1 : Draws prog w A i1 fp1 n1 P1 St1) (D2 : Draws prog w A i2 fp2 n2 P2 St2)
    (hz : ZipO s.heap z TI TO .none b) (hTI : TupO s.heap TI #[.ref i1, .ref i2]) (hTO : TupO s.heap TO #[a1, a2]) (st1 : St1 i s.heap) (st2 : St2 i s.heap) (hi1 : i < n1) (hi2 : i < n2)
    (hQ : ∀ x1 x2 h' tk, P1 i x1 → P2 i x2 → ZipO h' z TI TO (rawInt s.heap.objs.size) b → TupO h' TO #[x1, x2] → St1 (i + 1) h' → St2 (i + 1) h' → TupO h' s.heap.objs.size #[x1, x2] →
      (∀ c o, c ≠ z → c ≠ TO → c ≠ i1 → c ≠ i2 → s.heap.get? c = some o → h'.get? c = some o) → Q (.ref s.heap.objs.size) { s with heap := h', toks := tk }) :
    wpAny (model prog w) A (Builtin.«zip.__next__» ⟨[.ref z], []⟩) (fun fin s' => ∃ v, fin = .done (.ret v) ∧ Q v s') E s := by
  obtain ⟨hp, g, d, tk0, os⟩ := s
  refine wpAny_bind (m := field (.ref z) 2) (wpAny_field hz rfl (x := .bool b) rfl ?_)
  refine wpAny_bind (m := field (.ref z) 3) (wpAny_field hz rfl (x := .ref TI) rfl ?_)
  refine wpAny_bind (wpAny_seqItems hTI rfl ?_)
  show wpAny _ _ (Builtin.SmallTypes.ownedTupleIsFree (.ref z) >>= _) _ _ _
  rw [val_b]
  refine wpAny_bind ?_
  unfold Builtin.SmallTypes.ownedTupleIsFree
  refine wpAny_bind (wpAny_field hz rfl (x := .none) rfl (wpAny_pure ?_))
  simp only [if_true]
  refine wpAny_bind (wpAny_rule (wpAny_bind (wpAny_field hz rfl (x := .ref TO) rfl ?_)))
  refine wpAny_bind (wpAny_setField_rec hz (by simp) fun g0 hz0 hs0 => wpAny_bind ?_)
  replace hs0 : Heap.SameBut z hp g0 := hs0
  replace hz0 : ZipO g0 z TI TO .ellipsis b := hz0
  have hT0 : TupO g0 TO #[a1, a2] := hs0.extBut _ _ S.zTO.symm hTO
  have t1_0 : St1 i g0 := D1.frame _ _ _ st1 fun c hc o e => hs0.extBut c o (fun q => S.z1 (q ▸ hc)) e
  have t2_0 : St2 i g0 := D2.frame _ _ _ st2 fun c hc o e => hs0.extBut c o (fun q => S.z2 (q ▸ hc)) e
  have k0 : ∀ c o, c ≠ z → c ≠ TO → c ≠ i1 → c ≠ i2 → hp.get? c = some o → g0.get? c = some o := fun c o q0 _ _ _ e => hs0.extBut c o q0 e
  simp only [List.zipIdx_cons, List.zipIdx_nil, List.forIn_cons, List.forIn_nil]
  refine wpAny_bind (wpAny_bind (wpAny_onRaise (m := zdraw b (.ref i1)) (zdraw_item (s := ⟨g0, g, d, tk0, os⟩) D1 hi1 t1_0 fun x1 d1 tk1 p1 n1 hd1 => ?_)))
  replace hd1 : Heap.SameBut i1 g0 d1 := hd1
  have hU1 : TupO d1 TO #[a1, a2] := hd1.extBut _ _ (fun q => S.T1 (q ▸ S.m1)) hT0
  refine wpAny_bind (wpAny_seqItems (s := ⟨d1, g, d, tk1, os⟩) hU1 rfl ?_)
  refine wpAny_bind (upd_tup (s := ⟨d1, g, d, tk1, os⟩) hU1 (by simp) fun g1 hT1 hs1 => ?_)
  replace hs1 : Heap.SameBut TO d1 g1 := hs1
  replace hT1 : TupO g1 TO #[x1, a2] := hT1
  have hz1 : ZipO g1 z TI TO .ellipsis b := hs1.extBut _ _ S.zTO (hd1.extBut _ _ (fun q => S.z1 (q ▸ S.m1)) hz0)
  have t1_1 : St1 (i + 1) g1 := D1.frame _ _ _ n1 fun c hc o e => hs1.extBut c o (fun q => S.T1 (q ▸ hc)) e
  have t2_1 : St2 i g1 := D2.frame _ _ _ t2_0 fun c hc o e => hs1.extBut c o (fun q => S.T2 (q ▸ hc)) (hd1.extBut c o (fun q => S.s1_2 (q ▸ hc)) e)
  have k1 : ∀ c o, c ≠ z → c ≠ TO → c ≠ i1 → c ≠ i2 → hp.get? c = some o → g1.get? c = some o := fun c o qz qT q1 q2 e => hs1.extBut c o qT (hd1.extBut c o q1 (k0 c o qz qT q1 q2 e))
  have e1 : g1.objs.size = g0.objs.size := by rw [hs1.1, hd1.1]
  refine wpAny_bind (wpAny_letGo (wpAny_pure ?_))
  refine wpAny_bind (wpAny_bind (wpAny_onRaise (m := zdraw b (.ref i2)) (zdraw_item (s := ⟨g1, g, d, tk1, os⟩) D2 hi2 t2_1 fun x2 d2 tk2 p2 n2 hd2 => ?_)))
  replace hd2 : Heap.SameBut i2 g1 d2 := hd2
  have hU2 : TupO d2 TO #[x1, a2] := hd2.extBut _ _ (fun q => S.T2 (q ▸ S.m2)) hT1
  refine wpAny_bind (wpAny_seqItems (s := ⟨d2, g, d, tk2, os⟩) hU2 rfl ?_)
  refine wpAny_bind (upd_tup (s := ⟨d2, g, d, tk2, os⟩) hU2 (by simp) fun g2 hT2 hs2 => ?_)
  replace hs2 : Heap.SameBut TO d2 g2 := hs2
  replace hT2 : TupO g2 TO #[x1, x2] := hT2
  have hz2 : ZipO g2 z TI TO .ellipsis b := hs2.extBut _ _ S.zTO (hd2.extBut _ _ (fun q => S.z2 (q ▸ S.m2)) hz1)
  have t1_2 : St1 (i + 1) g2 := D1.frame _ _ _ t1_1 fun c hc o e => hs2.extBut c o (fun q => S.T1 (q ▸ hc)) (hd2.extBut c o (fun q => S.s2_1 (q ▸ hc)) e)
  have t2_2 : St2 (i + 1) g2 := D2.frame _ _ _ n2 fun c hc o e => hs2.extBut c o (fun q => S.T2 (q ▸ hc)) e
  have k2 : ∀ c o, c ≠ z → c ≠ TO → c ≠ i1 → c ≠ i2 → hp.get? c = some o → g2.get? c = some o := fun c o qz qT q1 q2 e => hs2.extBut c o qT (hd2.extBut c o q2 (k1 c o qz qT q1 q2 e))
  have e2 : g2.objs.size = g1.objs.size := by rw [hs2.1, hd2.1]
  refine wpAny_bind (wpAny_letGo (wpAny_pure ?_))
  refine wpAny_pure ?_
  refine wpAny_bind (wpAny_seqItems (s := ⟨g2, g, d, tk2, os⟩) hT2 rfl ?_)
  refine wpAny_bind (wpAny_newTuple ?_)
  have hsz : g2.objs.size = hp.objs.size := by rw [e2, e1, hs0.1]
  have hlt : z < g2.objs.size := Heap.lt_size hz2
  refine wpAny_bind ?_
  unfold Builtin.SmallTypes.ownedTupleHandOut
  have hy : ZipO (g2.push { cls := .type "tuple", data := .seq #[x1, x2] }) z TI TO .ellipsis b := Heap.get?_push_of_some _ hz2
  refine wpAny_bind (wpAny_setField_rec hy (by simp) fun u1 hu1 hv1 => wpAny_setField_rec hu1 (by simp) fun u2 hu2 hv2 => ?_)
  have up : ∀ c o, c ≠ z → g2.get? c = some o → u2.get? c = some o := fun c o q e => hv2.extBut c o q (hv1.extBut c o q (Heap.get?_push_of_some _ e))
  have hN : TupO u2 g2.objs.size #[x1, x2] := hv2.extBut _ _ (Nat.ne_of_gt hlt) (hv1.extBut _ _ (Nat.ne_of_gt hlt) (Heap.get?_push_size _ rfl))
  have hZ : ZipO u2 z TI TO (rawInt g2.objs.size) b := hu2
  rw [hsz] at hN hZ
  refine wpAny_pure ⟨_, rfl, ?_⟩
  show Q (.ref g2.objs.size) ⟨u2, g, d, tk2, os⟩
  rw [hsz]
  exact hQ x1 x2 u2 tk2 p1 p2 hZ (up _ _ S.zTO.symm hT2) (D1.frame _ _ _ t1_2 fun c hc o e => up c o (fun q => S.z1 (q ▸ hc)) e) (D2.frame _ _ _ t2_2 fun c hc o e => up c o (fun q => S.z2 (q ▸ hc)) e) hN fun c o qz qT q1 q2 e => up c o qz (k2 c o qz qT q1 q2 e)
theorem next_end2 {z TI TO i1 i2 : Addr} {fp1 fp2 : List Addr} {n : Nat} {P1 P2 : Nat → Value → Prop} {St1 St2 : Nat → Heap → Prop} {a1 a2 : Value} {Q : Fin → Shared → Prop} (hh : A.handled = none) (S : Sep2 z TI TO i1 i2 fp1 fp2) (D1 : Draws prog w A i1 fp1 n P1 St1) (D2 : Draws prog w A i2 fp2 n P2 St2)
    (hz : ZipO s.heap z TI TO .none b) (hTI : TupO s.heap TI #[.ref i1, .ref i2]) (hTO : TupO s.heap TO #[a1, a2]) (st1 : St1 n s.heap) (st2 : St2 n s.heap)
    (hE : ∀ h' e, (∀ c o, c ≠ z → c ≠ TO → c ≠ i1 → c ≠ i2 → s.heap.get? c = some o → h'.get? c = some o) → (∃ o, h'.get? e = some o ∧ o.cls = .type "StopIteration") → E (.ref e) { s with heap := h' }) :
    wpAny (model prog w) A (Builtin.«zip.__next__» ⟨[.ref z], []⟩) Q E s := by
  obtain ⟨hp, g, d, tk0, os⟩ := s
  refine wpAny_bind (m := field (.ref z) 2) (wpAny_field hz rfl (x := .bool b) rfl ?_)
  refine wpAny_bind (m := field (.ref z) 3) (wpAny_field hz rfl (x := .ref TI) rfl ?_)
  refine wpAny_bind (wpAny_seqItems hTI rfl ?_)
  show wpAny _ _ (Builtin.SmallTypes.ownedTupleIsFree (.ref z) >>= _) _ _ _
  rw [val_b]
  refine wpAny_bind ?_
  unfold Builtin.SmallTypes.ownedTupleIsFree
  refine wpAny_bind (wpAny_field hz rfl (x := .none) rfl (wpAny_pure ?_))
  simp only [if_true]
  refine wpAny_bind (wpAny_rule (wpAny_bind (wpAny_field hz rfl (x := .ref TO) rfl ?_)))
  refine wpAny_bind (wpAny_setField_rec hz (by simp) fun g0 hz0 hs0 => wpAny_bind ?_)
  replace hs0 : Heap.SameBut z hp g0 := hs0
  replace hz0 : ZipO g0 z TI TO .ellipsis b := hz0
  have t1_0 : St1 n g0 := D1.frame _ _ _ st1 fun c hc o e => hs0.extBut c o (fun q => S.z1 (q ▸ hc)) e
  have t2_0 : St2 n g0 := D2.frame _ _ _ st2 fun c hc o e => hs0.extBut c o (fun q => S.z2 (q ▸ hc)) e
  simp only [List.zipIdx_cons, List.zipIdx_nil, List.forIn_cons, List.forIn_nil]
  refine wpAny_bind (wpAny_bind (wpAny_onRaise ?_))
  cases b with
  | false =>
    refine wpAny_bind (m := Builtin.SmallTypes.nextOf (.ref i1)) (D1.done ⟨g0, g, d, tk0, os⟩ _ _ t1_0 fun y e hy he => ?_)
    replace hy : Heap.ExtBut i1 g0 y := hy
    obtain ⟨oe, hoe, hce⟩ := he
    replace hoe : y.get? e = some oe := hoe
    have hzy : ZipO y z TI TO .ellipsis false := hy _ _ (fun q => S.z1 (q ▸ S.m1)) hz0
    have hez : e ≠ z := fun x => by subst x; rw [hzy] at hoe; cases hoe; simp at hce
    refine wpAny_setField_rec (s := ⟨y, g, d, tk0, os⟩) hzy (by simp) fun y2 _ hv => ?_
    replace hv : Heap.SameBut z y y2 := hv
    exact hE y2 e (fun c o qz qT q1 q2 x => hv.extBut c o qz (hy c o q1 (hs0.extBut c o qz x))) ⟨oe, hv.extBut _ _ hez hoe, hce⟩
  | true =>
    refine zend_strict (s := ⟨g0, g, d, tk0, os⟩) D1 t1_0 fun y hy => ?_
    replace hy : Heap.ExtBut i1 g0 y := hy
    have hzy : ZipO y z TI TO .ellipsis true := hy _ _ (fun q => S.z1 (q ▸ S.m1)) hz0
    have t2_1 : St2 n y := D2.frame _ _ _ t2_0 fun c hc o e => hy c o (fun q => S.s1_2 (q ▸ hc)) e
    refine wpAny_bind (wpAny_setField_rec (s := ⟨y, g, d, tk0, os⟩) hzy (by simp) fun y1 _ hv1 => ?_)
    replace hv1 : Heap.SameBut z y y1 := hv1
    have r2_1 : St2 n y1 := D2.frame _ _ _ t2_1 fun c hc o e => hv1.extBut c o (fun q => S.z2 (q ▸ hc)) e
    have k1 : ∀ c o, c ≠ z → c ≠ TO → c ≠ i1 → c ≠ i2 → hp.get? c = some o → y1.get? c = some o := fun c o qz qT q1 q2 e => hv1.extBut c o qz (hy c o q1 (hs0.extBut c o qz e))
    refine wpAny_bind ?_
    refine wpAny_bind ?_
    simp only [List.drop_succ_cons, List.drop_zero, List.zipIdx_cons, List.zipIdx_nil, List.forIn_cons, List.forIn_nil]
    refine wpAny_bind (wpAny_bind (zend_strict (s := ⟨y1, g, d, tk0, os⟩) D2 r2_1 fun y2 hy2 => ?_))
    replace hy2 : Heap.ExtBut i2 y1 y2 := hy2
    have k2 : ∀ c o, c ≠ z → c ≠ TO → c ≠ i1 → c ≠ i2 → hp.get? c = some o → y2.get? c = some o := fun c o qz qT q1 q2 e => hy2 c o q2 (k1 c o qz qT q1 q2 e)
    refine wpAny_pure ?_
    refine wpAny_pure ?_
    exact wpAny_bind (wpAny_rule (stop_it (s := ⟨y2, g, d, tk0, os⟩) hh fun h2 e kk he => hE h2 e (fun c o qz qT q1 q2 x => kk c o (k2 c o qz qT q1 q2 x)) he))
theorem py_item2 {z TI TO i1 i2 : Addr} {fp1 fp2 : List Addr} {n1 n2 i : Nat} {P1 P2 : Nat → Value → Prop} {St1 St2 : Nat → Heap → Prop} {a1 a2 : Value} {Q : Option Value → Shared → Prop} (S : Sep2 z TI TO i1 i2 fp1 fp2) (D1 : Draws prog w A.in1 i1 fp1 n1 P1 St1) (D2 : Draws prog w A.in1 i2 fp2 n2 P2 St2)
    (hz : ZipO s.heap z TI TO .none b) (hTI : TupO s.heap TI #[.ref i1, .ref i2]) (hTO : TupO s.heap TO #[a1, a2]) (st1 : St1 i s.heap) (st2 : St2 i s.heap) (hi1 : i < n1) (hi2 : i < n2)
    (hQ : ∀ x1 x2 h' tk, P1 i x1 → P2 i x2 → ZipO h' z TI TO (rawInt s.heap.objs.size) b → TupO h' TO #[x1, x2] → St1 (i + 1) h' → St2 (i + 1) h' → TupO h' s.heap.objs.size #[x1, x2] →
      (∀ c o, c ≠ z → c ≠ TO → c ≠ i1 → c ≠ i2 → s.heap.get? c = some o → h'.get? c = some o) → Q (some (.ref s.heap.objs.size)) { s with heap := h', toks := tk }) : wpAny (model prog w) A (pyNext (.ref z)) Q E s := by
  have hT : s.TypeIs (.ref z) "zip" := ⟨_, hz, rfl⟩
  unfold pyNext
  refine wpAny_bind (wpAny_attempt (wpAny_callSpecial?_slot (name := Str.ofString "__next__") hT F.slot_zip_next (wpAny_call_entry F.slot_zip_next hT F.entry_zip_next ?_ (F.args_zip_next_1 _))))
  exact next_item2 S D1 D2 hz hTI hTO st1 st2 hi1 hi2 fun x1 x2 h2 tk p1 p2 q1 q2 u1 u2 q3 q4 => wpAny_pure (hQ x1 x2 h2 tk p1 p2 q1 q2 u1 u2 q3 q4)
theorem py_end2 {z TI TO i1 i2 : Addr} {fp1 fp2 : List Addr} {n : Nat} {P1 P2 : Nat → Value → Prop} {St1 St2 : Nat → Heap → Prop} {a1 a2 : Value} {Q : Option Value → Shared → Prop} (hh : A.handled = none) (S : Sep2 z TI TO i1 i2 fp1 fp2) (D1 : Draws prog w A.in1 i1 fp1 n P1 St1) (D2 : Draws prog w A.in1 i2 fp2 n P2 St2)
    (hz : ZipO s.heap z TI TO .none b) (hTI : TupO s.heap TI #[.ref i1, .ref i2]) (hTO : TupO s.heap TO #[a1, a2]) (st1 : St1 n s.heap) (st2 : St2 n s.heap)
    (hQ : ∀ h', (∀ c o, c ≠ z → c ≠ TO → c ≠ i1 → c ≠ i2 → s.heap.get? c = some o → h'.get? c = some o) → Q none { s with heap := h' }) : wpAny (model prog w) A (pyNext (.ref z)) Q E s := by
  have hT : s.TypeIs (.ref z) "zip" := ⟨_, hz, rfl⟩
  unfold pyNext
  refine wpAny_bind (wpAny_attempt (wpAny_callSpecial?_slot (name := Str.ofString "__next__") hT F.slot_zip_next (wpAny_call_entry F.slot_zip_next hT F.entry_zip_next ?_ (F.args_zip_next_1 _))))
  refine next_end2 (A := A.in1) hh S D1 D2 hz hTI hTO st1 st2 fun h2 e kk he => ?_
  obtain ⟨o, ho, hc⟩ := he
  exact wpAny_bind (wpAny_isInstance (T := "StopIteration") (b := true) ⟨o, ho, hc⟩ isSubtype_stop (wpAny_pure (hQ _ kk)))
theorem typeCall_strict2 (v1 v2 x : Value) : checkTypeCall "zip" ⟨[v1, v2], [(Str.ofString "strict", x)]⟩ = pure () := by kernel_rfl
theorem newCall_strict2 (v1 v2 x : Value) : checkBuiltinCall "zip.__new__" ⟨[.type "zip", v1, v2], [(Str.ofString "strict", x)]⟩ = pure () := by kernel_rfl
theorem initArgs_strict2 (obj v1 v2 x : Value) : argsOk "object.__init__" ⟨[obj, v1, v2], [(Str.ofString "strict", x)]⟩ := by unfold argsOk; kernel_rfl
abbrev sT2 (h : Heap) (o1 o2 : Obj) : Heap := (((h.push o1).push o2).push { cls := .type "tuple", data := .seq #[.ref h.objs.size, .ref (h.push o1).objs.size] })
abbrev sO2 (h : Heap) (o1 o2 : Obj) : Heap := (sT2 h o1 o2).push { cls := .type "tuple", data := .seq #[.none, .none] }
abbrev sZ2 (h : Heap) (o1 o2 : Obj) : Heap := (sO2 h o1 o2).push { cls := .type "zip", data := .fields #[.none, .bool false, .bool true, .ref ((h.push o1).push o2).objs.size, .ref (sT2 h o1 o2).objs.size] }
theorem meets_strict2 {v1 v2 : Value} {o1 o2 : Obj} {G1 G2 : Heap → Prop} (B1 : Begins v1 o1 G1) (B2 : Begins v2 o2 G2) :
    Meets (Builtin.«zip.__new__» ⟨[.type "zip", v1, v2], [(Str.ofString "strict", .bool true)]⟩) (fun _ R s => (G1 s.heap ∧ G2 s.heap) ∧ R (.ok (.ret (.ref (sO2 s.heap o1 o2).objs.size))) { s with heap := (sZ2 s.heap o1 o2) }) :=
  .of_wp fun prog w A R s h => by
    obtain ⟨hp, g, d, tk, os⟩ := s
    obtain ⟨⟨h1, h2⟩, h⟩ := h
    have hsub := sub_zip
    have e1 : (Str.ofString "strict" != ("strict" : Str)) = false := by decide +kernel
    have w1 : ∀ {A' : Around} {E : Value → Shared → Prop} {Q : Value → Shared → Prop}, Q (.ref hp.objs.size) ⟨(hp.push o1), g, d, tk, os⟩ → wpAny (model prog w) A' (pyIter v1) Q E ⟨hp, g, d, tk, os⟩ := fun q => B1.iter prog w _ _ ⟨hp, g, d, tk, os⟩ _ (B1.keeps _ _ h1 fun c u e => e) q
    have w2 : ∀ {A' : Around} {E : Value → Shared → Prop} {Q : Value → Shared → Prop}, Q (.ref (hp.push o1).objs.size) ⟨((hp.push o1).push o2), g, d, tk, os⟩ → wpAny (model prog w) A' (pyIter v2) Q E ⟨(hp.push o1), g, d, tk, os⟩ := fun q => B2.iter prog w _ _ ⟨(hp.push o1), g, d, tk, os⟩ _ (B2.keeps _ _ h2 fun c u e => (Heap.get?_push_of_some _ e)) q
    wp_walk using w1, w2
    exact ⟨_, rfl, h⟩
/-- zip(.., strict=True) of 2: its new cells -/
theorem begins_strict2 {v1 v2 : Value} {o1 o2 : Obj} {G1 G2 : Heap → Prop} {Q : Value → Shared → Prop} (B1 : Begins v1 o1 G1) (B2 : Begins v2 o2 G2) (h1 : G1 s.heap) (h2 : G2 s.heap)
    (h : ∀ h', ZipO h' (s.heap.objs.size + 4) (s.heap.objs.size + 2) (s.heap.objs.size + 3) .none true → TupO h' (s.heap.objs.size + 2) #[.ref s.heap.objs.size, .ref (s.heap.objs.size + 1)] → TupO h' (s.heap.objs.size + 3) #[.none, .none] → h'.get? s.heap.objs.size = some o1 → h'.get? (s.heap.objs.size + 1) = some o2 → (∀ c o, s.heap.get? c = some o → h'.get? c = some o) → Q (.ref (s.heap.objs.size + 4)) { s with heap := h' }) :
    wpAny (model prog w) A (call (.type "zip") [v1, v2] [(Str.ofString "strict", .bool true)]) Q E s := by
  refine callType_newKw F.called_zip (by decide) (typeCall_strict2 _ _ _) (newCall_strict2 _ _ _) (fun obj => initArgs_strict2 obj _ _ _) F.entry_zip_new (meets_strict2 B1 B2) ⟨⟨h1, h2⟩, ?_⟩
  have z1 : (s.heap.push o1).objs.size = s.heap.objs.size + 1 := by rw [Heap.size_push]
  have z2 : ((s.heap.push o1).push o2).objs.size = s.heap.objs.size + 2 := by rw [Heap.size_push, z1]
  have z3 : (sT2 s.heap o1 o2).objs.size = s.heap.objs.size + 3 := by rw [Heap.size_push, z2]
  have z4 : (sO2 s.heap o1 o2).objs.size = s.heap.objs.size + 4 := by rw [Heap.size_push, z3]
  have z5 : (sZ2 s.heap o1 o2).objs.size = s.heap.objs.size + 5 := by rw [Heap.size_push, z4]
  have q0 : (sZ2 s.heap o1 o2).get? s.heap.objs.size = some o1 := (Heap.get?_push_of_some _ (Heap.get?_push_of_some _ (Heap.get?_push_of_some _ (Heap.get?_push_of_some _ (Heap.get?_push_size _ B1.free)))))
  have q1 : (sZ2 s.heap o1 o2).get? (s.heap.push o1).objs.size = some o2 := (Heap.get?_push_of_some _ (Heap.get?_push_of_some _ (Heap.get?_push_of_some _ (Heap.get?_push_size _ B2.free))))
  rw [z1] at q1
  have q2 : (sZ2 s.heap o1 o2).get? ((s.heap.push o1).push o2).objs.size = some ({ cls := .type "tuple", data := .seq #[.ref s.heap.objs.size, .ref (s.heap.push o1).objs.size] } : Obj) := (Heap.get?_push_of_some _ (Heap.get?_push_of_some _ (Heap.get?_push_size _ rfl)))
  rw [z2] at q2
  have q3 : (sZ2 s.heap o1 o2).get? (sT2 s.heap o1 o2).objs.size = some ({ cls := .type "tuple", data := .seq #[.none, .none] } : Obj) := (Heap.get?_push_of_some _ (Heap.get?_push_size _ rfl))
  rw [z3] at q3
  have q4 : (sZ2 s.heap o1 o2).get? (sO2 s.heap o1 o2).objs.size = some ({ cls := .type "zip", data := .fields #[.none, .bool false, .bool true, .ref ((s.heap.push o1).push o2).objs.size, .ref (sT2 s.heap o1 o2).objs.size] } : Obj) := (Heap.get?_push_size _ rfl)
  rw [z4] at q4
  rw [z1] at q2
  rw [z3, z2] at q4
  show _ ∧ _
  rw [z4]
  exact ⟨⟨_, q4, rfl⟩, h _ q4 q2 q3 q0 q1 fun c o e => (Heap.get?_push_of_some _ (Heap.get?_push_of_some _ (Heap.get?_push_of_some _ (Heap.get?_push_of_some _ (Heap.get?_push_of_some _ e)))))⟩
end
/-- the cells of a zip over 3 iterators lie apart -/
structure Sep3 (z TI TO i1 i2 i3 : Addr) (fp1 fp2 fp3 : List Addr) : Prop where
  zTO : z ≠ TO
  zTI : z ≠ TI
  TOTI : TO ≠ TI
  m1 : i1 ∈ fp1
  z1 : z ∉ fp1
  T1 : TO ∉ fp1
  I1 : TI ≠ i1
  s2_1 : i2 ∉ fp1
  s3_1 : i3 ∉ fp1
  m2 : i2 ∈ fp2
  z2 : z ∉ fp2
  T2 : TO ∉ fp2
  I2 : TI ≠ i2
  s1_2 : i1 ∉ fp2
  s3_2 : i3 ∉ fp2
  m3 : i3 ∈ fp3
  z3 : z ∉ fp3
  T3 : TO ∉ fp3
  I3 : TI ≠ i3
  s1_3 : i1 ∉ fp3
  s2_3 : i2 ∉ fp3
section
variable {prog : Program} {w : World} {A : Around} {E : Value → Shared → Prop} {s : Shared} {b : Bool}
theorem next_item3 {z TI TO i1 i2 i3 : Addr} {fp1 fp2 fp3 : List Addr} {n1 n2 n3 i : Nat} {P1 P2 P3 : Nat → Value → Prop} {St1 St2 St3 : Nat → Heap → Prop} {a1 a2 a3 : Value} {Q : Value → Shared → Prop} (S : Sep3 z TI TO i1 i2 i3 fp1 fp2 fp3) (D1 : Draws prog w A i1 fp1 n1 P1 St1) (D2 : Draws prog w A i2 fp2 n2 P2 St2) (D3 : Draws prog w A i3 fp3 n3 P3 St3)
    (hz : ZipO s.heap z TI TO .none b) (hTI : TupO s.heap TI #[.ref i1, .ref i2, .ref i3]) (hTO : TupO s.heap TO #[a1, a2, a3]) (st1 : St1 i s.heap) (st2 : St2 i s.heap) (st3 : St3 i s.heap) (hi1 : i < n1) (hi2 : i < n2) (hi3 : i < n3)
    (hQ : ∀ x1 x2 x3 h' tk, P1 i x1 → P2 i x2 → P3 i x3 → ZipO h' z TI TO (rawInt s.heap.objs.size) b → TupO h' TO #[x1, x2, x3] → St1 (i + 1) h' → St2 (i + 1) h' → St3 (i + 1) h' → TupO h' s.heap.objs.size #[x1, x2, x3] →
      (∀ c o, c ≠ z → c ≠ TO → c ≠ i1 → c ≠ i2 → c ≠ i3 → s.heap.get? c = some o → h'.get? c = some o) → Q (.ref s.heap.objs.size) { s with heap := h', toks := tk }) :
    wpAny (model prog w) A (Builtin.«zip.__next__» ⟨[.ref z], []⟩) (fun fin s' => ∃ v, fin = .done (.ret v) ∧ Q v s') E s := by
  obtain ⟨hp, g, d, tk0, os⟩ := s
  refine wpAny_bind (m := field (.ref z) 2) (wpAny_field hz rfl (x := .bool b) rfl ?_)
  refine wpAny_bind (m := field (.ref z) 3) (wpAny_field hz rfl (x := .ref TI) rfl ?_)
  refine wpAny_bind (wpAny_seqItems hTI rfl ?_)
  show wpAny _ _ (Builtin.SmallTypes.ownedTupleIsFree (.ref z) >>= _) _ _ _
  rw [val_b]
  refine wpAny_bind ?_
  unfold Builtin.SmallTypes.ownedTupleIsFree
  refine wpAny_bind (wpAny_field hz rfl (x := .none) rfl (wpAny_pure ?_))
  simp only [if_true]
  refine wpAny_bind (wpAny_rule (wpAny_bind (wpAny_field hz rfl (x := .ref TO) rfl ?_)))
  refine wpAny_bind (wpAny_setField_rec hz (by simp) fun g0 hz0 hs0 => wpAny_bind ?_)
  replace hs0 : Heap.SameBut z hp g0 := hs0
  replace hz0 : ZipO g0 z TI TO .ellipsis b := hz0
  have hT0 : TupO g0 TO #[a1, a2, a3] := hs0.extBut _ _ S.zTO.symm hTO
  have t1_0 : St1 i g0 := D1.frame _ _ _ st1 fun c hc o e => hs0.extBut c o (fun q => S.z1 (q ▸ hc)) e
  have t2_0 : St2 i g0 := D2.frame _ _ _ st2 fun c hc o e => hs0.extBut c o (fun q => S.z2 (q ▸ hc)) e
  have t3_0 : St3 i g0 := D3.frame _ _ _ st3 fun c hc o e => hs0.extBut c o (fun q => S.z3 (q ▸ hc)) e
  have k0 : ∀ c o, c ≠ z → c ≠ TO → c ≠ i1 → c ≠ i2 → c ≠ i3 → hp.get? c = some o → g0.get? c = some o := fun c o q0 _ _ _ _ e => hs0.extBut c o q0 e
  simp only [List.zipIdx_cons, List.zipIdx_nil, List.forIn_cons, List.forIn_nil]
  refine wpAny_bind (wpAny_bind (wpAny_onRaise (m := zdraw b (.ref i1)) (zdraw_item (s := ⟨g0, g, d, tk0, os⟩) D1 hi1 t1_0 fun x1 d1 tk1 p1 n1 hd1 => ?_)))
  replace hd1 : Heap.SameBut i1 g0 d1 := hd1
  have hU1 : TupO d1 TO #[a1, a2, a3] := hd1.extBut _ _ (fun q => S.T1 (q ▸ S.m1)) hT0
  refine wpAny_bind (wpAny_seqItems (s := ⟨d1, g, d, tk1, os⟩) hU1 rfl ?_)
  refine wpAny_bind (upd_tup (s := ⟨d1, g, d, tk1, os⟩) hU1 (by simp) fun g1 hT1 hs1 => ?_)
  replace hs1 : Heap.SameBut TO d1 g1 := hs1
  replace hT1 : TupO g1 TO #[x1, a2, a3] := hT1
  have hz1 : ZipO g1 z TI TO .ellipsis b := hs1.extBut _ _ S.zTO (hd1.extBut _ _ (fun q => S.z1 (q ▸ S.m1)) hz0)
  have t1_1 : St1 (i + 1) g1 := D1.frame _ _ _ n1 fun c hc o e => hs1.extBut c o (fun q => S.T1 (q ▸ hc)) e
  have t2_1 : St2 i g1 := D2.frame _ _ _ t2_0 fun c hc o e => hs1.extBut c o (fun q => S.T2 (q ▸ hc)) (hd1.extBut c o (fun q => S.s1_2 (q ▸ hc)) e)
  have t3_1 : St3 i g1 := D3.frame _ _ _ t3_0 fun c hc o e => hs1.extBut c o (fun q => S.T3 (q ▸ hc)) (hd1.extBut c o (fun q => S.s1_3 (q ▸ hc)) e)
  have k1 : ∀ c o, c ≠ z → c ≠ TO → c ≠ i1 → c ≠ i2 → c ≠ i3 → hp.get? c = some o → g1.get? c = some o := fun c o qz qT q1 q2 q3 e => hs1.extBut c o qT (hd1.extBut c o q1 (k0 c o qz qT q1 q2 q3 e))
  have e1 : g1.objs.size = g0.objs.size := by rw [hs1.1, hd1.1]
  refine wpAny_bind (wpAny_letGo (wpAny_pure ?_))
  refine wpAny_bind (wpAny_bind (wpAny_onRaise (m := zdraw b (.ref i2)) (zdraw_item (s := ⟨g1, g, d, tk1, os⟩) D2 hi2 t2_1 fun x2 d2 tk2 p2 n2 hd2 => ?_)))
  replace hd2 : Heap.SameBut i2 g1 d2 := hd2
  have hU2 : TupO d2 TO #[x1, a2, a3] := hd2.extBut _ _ (fun q => S.T2 (q ▸ S.m2)) hT1
  refine wpAny_bind (wpAny_seqItems (s := ⟨d2, g, d, tk2, os⟩) hU2 rfl ?_)
  refine wpAny_bind (upd_tup (s := ⟨d2, g, d, tk2, os⟩) hU2 (by simp) fun g2 hT2 hs2 => ?_)
  replace hs2 : Heap.SameBut TO d2 g2 := hs2
  replace hT2 : TupO g2 TO #[x1, x2, a3] := hT2
  have hz2 : ZipO g2 z TI TO .ellipsis b := hs2.extBut _ _ S.zTO (hd2.extBut _ _ (fun q => S.z2 (q ▸ S.m2)) hz1)
  have t1_2 : St1 (i + 1) g2 := D1.frame _ _ _ t1_1 fun c hc o e => hs2.extBut c o (fun q => S.T1 (q ▸ hc)) (hd2.extBut c o (fun q => S.s2_1 (q ▸ hc)) e)
  have t2_2 : St2 (i + 1) g2 := D2.frame _ _ _ n2 fun c hc o e => hs2.extBut c o (fun q => S.T2 (q ▸ hc)) e
  have t3_2 : St3 i g2 := D3.frame _ _ _ t3_1 fun c hc o e => hs2.extBut c o (fun q => S.T3 (q ▸ hc)) (hd2.extBut c o (fun q => S.s2_3 (q ▸ hc)) e)
  have k2 : ∀ c o, c ≠ z → c ≠ TO → c ≠ i1 → c ≠ i2 → c ≠ i3 → hp.get? c = some o → g2.get? c = some o := fun c o qz qT q1 q2 q3 e => hs2.extBut c o qT (hd2.extBut c o q2 (k1 c o qz qT q1 q2 q3 e))
  have e2 : g2.objs.size = g1.objs.size := by rw [hs2.1, hd2.1]
  refine wpAny_bind (wpAny_letGo (wpAny_pure ?_))
  refine wpAny_bind (wpAny_bind (wpAny_onRaise (m := zdraw b (.ref i3)) (zdraw_item (s := ⟨g2, g, d, tk2, os⟩) D3 hi3 t3_2 fun x3 d3 tk3 p3 n3 hd3 => ?_)))
  replace hd3 : Heap.SameBut i3 g2 d3 := hd3
  have hU3 : TupO d3 TO #[x1, x2, a3] := hd3.extBut _ _ (fun q => S.T3 (q ▸ S.m3)) hT2
  refine wpAny_bind (wpAny_seqItems (s := ⟨d3, g, d, tk3, os⟩) hU3 rfl ?_)
  refine wpAny_bind (upd_tup (s := ⟨d3, g, d, tk3, os⟩) hU3 (by simp) fun g3 hT3 hs3 => ?_)
  replace hs3 : Heap.SameBut TO d3 g3 := hs3
  replace hT3 : TupO g3 TO #[x1, x2, x3] := hT3
  have hz3 : ZipO g3 z TI TO .ellipsis b := hs3.extBut _ _ S.zTO (hd3.extBut _ _ (fun q => S.z3 (q ▸ S.m3)) hz2)
  have t1_3 : St1 (i + 1) g3 := D1.frame _ _ _ t1_2 fun c hc o e => hs3.extBut c o (fun q => S.T1 (q ▸ hc)) (hd3.extBut c o (fun q => S.s3_1 (q ▸ hc)) e)
  have t2_3 : St2 (i + 1) g3 := D2.frame _ _ _ t2_2 fun c hc o e => hs3.extBut c o (fun q => S.T2 (q ▸ hc)) (hd3.extBut c o (fun q => S.s3_2 (q ▸ hc)) e)
  have t3_3 : St3 (i + 1) g3 := D3.frame _ _ _ n3 fun c hc o e => hs3.extBut c o (fun q => S.T3 (q ▸ hc)) e
  have k3 : ∀ c o, c ≠ z → c ≠ TO → c ≠ i1 → c ≠ i2 → c ≠ i3 → hp.get? c = some o → g3.get? c = some o := fun c o qz qT q1 q2 q3 e => hs3.extBut c o qT (hd3.extBut c o q3 (k2 c o qz qT q1 q2 q3 e))
  have e3 : g3.objs.size = g2.objs.size := by rw [hs3.1, hd3.1]
  refine wpAny_bind (wpAny_letGo (wpAny_pure ?_))
  refine wpAny_pure ?_
  refine wpAny_bind (wpAny_seqItems (s := ⟨g3, g, d, tk3, os⟩) hT3 rfl ?_)
  refine wpAny_bind (wpAny_newTuple ?_)
  have hsz : g3.objs.size = hp.objs.size := by rw [e3, e2, e1, hs0.1]
  have hlt : z < g3.objs.size := Heap.lt_size hz3
  refine wpAny_bind ?_
  unfold Builtin.SmallTypes.ownedTupleHandOut
  have hy : ZipO (g3.push { cls := .type "tuple", data := .seq #[x1, x2, x3] }) z TI TO .ellipsis b := Heap.get?_push_of_some _ hz3
  refine wpAny_bind (wpAny_setField_rec hy (by simp) fun u1 hu1 hv1 => wpAny_setField_rec hu1 (by simp) fun u2 hu2 hv2 => ?_)
  have up : ∀ c o, c ≠ z → g3.get? c = some o → u2.get? c = some o := fun c o q e => hv2.extBut c o q (hv1.extBut c o q (Heap.get?_push_of_some _ e))
  have hN : TupO u2 g3.objs.size #[x1, x2, x3] := hv2.extBut _ _ (Nat.ne_of_gt hlt) (hv1.extBut _ _ (Nat.ne_of_gt hlt) (Heap.get?_push_size _ rfl))
  have hZ : ZipO u2 z TI TO (rawInt g3.objs.size) b := hu2
  rw [hsz] at hN hZ
  refine wpAny_pure ⟨_, rfl, ?_⟩
  show Q (.ref g3.objs.size) ⟨u2, g, d, tk3, os⟩
  rw [hsz]
  exact hQ x1 x2 x3 u2 tk3 p1 p2 p3 hZ (up _ _ S.zTO.symm hT3) (D1.frame _ _ _ t1_3 fun c hc o e => up c o (fun q => S.z1 (q ▸ hc)) e) (D2.frame _ _ _ t2_3 fun c hc o e => up c o (fun q => S.z2 (q ▸ hc)) e) (D3.frame _ _ _ t3_3 fun c hc o e => up c o (fun q => S.z3 (q ▸ hc)) e) hN fun c o qz qT q1 q2 q3 e => up c o qz (k3 c o qz qT q1 q2 q3 e)
theorem next_end3 {z TI TO i1 i2 i3 : Addr} {fp1 fp2 fp3 : List Addr} {n : Nat} {P1 P2 P3 : Nat → Value → Prop} {St1 St2 St3 : Nat → Heap → Prop} {a1 a2 a3 : Value} {Q : Fin → Shared → Prop} (hh : A.handled = none) (S : Sep3 z TI TO i1 i2 i3 fp1 fp2 fp3) (D1 : Draws prog w A i1 fp1 n P1 St1) (D2 : Draws prog w A i2 fp2 n P2 St2) (D3 : Draws prog w A i3 fp3 n P3 St3)
    (hz : ZipO s.heap z TI TO .none b) (hTI : TupO s.heap TI #[.ref i1, .ref i2, .ref i3]) (hTO : TupO s.heap TO #[a1, a2, a3]) (st1 : St1 n s.heap) (st2 : St2 n s.heap) (st3 : St3 n s.heap)
    (hE : ∀ h' e, (∀ c o, c ≠ z → c ≠ TO → c ≠ i1 → c ≠ i2 → c ≠ i3 → s.heap.get? c = some o → h'.get? c = some o) → (∃ o, h'.get? e = some o ∧ o.cls = .type "StopIteration") → E (.ref e) { s with heap := h' }) :
    wpAny (model prog w) A (Builtin.«zip.__next__» ⟨[.ref z], []⟩) Q E s := by
  obtain ⟨hp, g, d, tk0, os⟩ := s
  refine wpAny_bind (m := field (.ref z) 2) (wpAny_field hz rfl (x := .bool b) rfl ?_)
  refine wpAny_bind (m := field (.ref z) 3) (wpAny_field hz rfl (x := .ref TI) rfl ?_)
  refine wpAny_bind (wpAny_seqItems hTI rfl ?_)
  show wpAny _ _ (Builtin.SmallTypes.ownedTupleIsFree (.ref z) >>= _) _ _ _
  rw [val_b]
  refine wpAny_bind ?_
  unfold Builtin.SmallTypes.ownedTupleIsFree
  refine wpAny_bind (wpAny_field hz rfl (x := .none) rfl (wpAny_pure ?_))
  simp only [if_true]
  refine wpAny_bind (wpAny_rule (wpAny_bind (wpAny_field hz rfl (x := .ref TO) rfl ?_)))
  refine wpAny_bind (wpAny_setField_rec hz (by simp) fun g0 hz0 hs0 => wpAny_bind ?_)
  replace hs0 : Heap.SameBut z hp g0 := hs0
  replace hz0 : ZipO g0 z TI TO .ellipsis b := hz0
  have t1_0 : St1 n g0 := D1.frame _ _ _ st1 fun c hc o e => hs0.extBut c o (fun q => S.z1 (q ▸ hc)) e
  have t2_0 : St2 n g0 := D2.frame _ _ _ st2 fun c hc o e => hs0.extBut c o (fun q => S.z2 (q ▸ hc)) e
  have t3_0 : St3 n g0 := D3.frame _ _ _ st3 fun c hc o e => hs0.extBut c o (fun q => S.z3 (q ▸ hc)) e
  simp only [List.zipIdx_cons, List.zipIdx_nil, List.forIn_cons, List.forIn_nil]
  refine wpAny_bind (wpAny_bind (wpAny_onRaise ?_))
  cases b with
  | false =>
    refine wpAny_bind (m := Builtin.SmallTypes.nextOf (.ref i1)) (D1.done ⟨g0, g, d, tk0, os⟩ _ _ t1_0 fun y e hy he => ?_)
    replace hy : Heap.ExtBut i1 g0 y := hy
    obtain ⟨oe, hoe, hce⟩ := he
    replace hoe : y.get? e = some oe := hoe
    have hzy : ZipO y z TI TO .ellipsis false := hy _ _ (fun q => S.z1 (q ▸ S.m1)) hz0
    have hez : e ≠ z := fun x => by subst x; rw [hzy] at hoe; cases hoe; simp at hce
    refine wpAny_setField_rec (s := ⟨y, g, d, tk0, os⟩) hzy (by simp) fun y2 _ hv => ?_
    replace hv : Heap.SameBut z y y2 := hv
    exact hE y2 e (fun c o qz qT q1 q2 q3 x => hv.extBut c o qz (hy c o q1 (hs0.extBut c o qz x))) ⟨oe, hv.extBut _ _ hez hoe, hce⟩
  | true =>
    refine zend_strict (s := ⟨g0, g, d, tk0, os⟩) D1 t1_0 fun y hy => ?_
    replace hy : Heap.ExtBut i1 g0 y := hy
    have hzy : ZipO y z TI TO .ellipsis true := hy _ _ (fun q => S.z1 (q ▸ S.m1)) hz0
    have t2_1 : St2 n y := D2.frame _ _ _ t2_0 fun c hc o e => hy c o (fun q => S.s1_2 (q ▸ hc)) e
    have t3_1 : St3 n y := D3.frame _ _ _ t3_0 fun c hc o e => hy c o (fun q => S.s1_3 (q ▸ hc)) e
    refine wpAny_bind (wpAny_setField_rec (s := ⟨y, g, d, tk0, os⟩) hzy (by simp) fun y1 _ hv1 => ?_)
    replace hv1 : Heap.SameBut z y y1 := hv1
    have r2_1 : St2 n y1 := D2.frame _ _ _ t2_1 fun c hc o e => hv1.extBut c o (fun q => S.z2 (q ▸ hc)) e
    have r3_1 : St3 n y1 := D3.frame _ _ _ t3_1 fun c hc o e => hv1.extBut c o (fun q => S.z3 (q ▸ hc)) e
    have k1 : ∀ c o, c ≠ z → c ≠ TO → c ≠ i1 → c ≠ i2 → c ≠ i3 → hp.get? c = some o → y1.get? c = some o := fun c o qz qT q1 q2 q3 e => hv1.extBut c o qz (hy c o q1 (hs0.extBut c o qz e))
    refine wpAny_bind ?_
    refine wpAny_bind ?_
    simp only [List.drop_succ_cons, List.drop_zero, List.zipIdx_cons, List.zipIdx_nil, List.forIn_cons, List.forIn_nil]
    refine wpAny_bind (wpAny_bind (zend_strict (s := ⟨y1, g, d, tk0, os⟩) D2 r2_1 fun y2 hy2 => ?_))
    replace hy2 : Heap.ExtBut i2 y1 y2 := hy2
    have k2 : ∀ c o, c ≠ z → c ≠ TO → c ≠ i1 → c ≠ i2 → c ≠ i3 → hp.get? c = some o → y2.get? c = some o := fun c o qz qT q1 q2 q3 e => hy2 c o q2 (k1 c o qz qT q1 q2 q3 e)
    have r3_2 : St3 n y2 := D3.frame _ _ _ r3_1 fun c hc o e => hy2 c o (fun q => S.s2_3 (q ▸ hc)) e
    refine wpAny_pure ?_
    refine wpAny_bind (wpAny_bind (zend_strict (s := ⟨y2, g, d, tk0, os⟩) D3 r3_2 fun y3 hy3 => ?_))
    replace hy3 : Heap.ExtBut i3 y2 y3 := hy3
    have k3 : ∀ c o, c ≠ z → c ≠ TO → c ≠ i1 → c ≠ i2 → c ≠ i3 → hp.get? c = some o → y3.get? c = some o := fun c o qz qT q1 q2 q3 e => hy3 c o q3 (k2 c o qz qT q1 q2 q3 e)
    refine wpAny_pure ?_
    refine wpAny_pure ?_
    exact wpAny_bind (wpAny_rule (stop_it (s := ⟨y3, g, d, tk0, os⟩) hh fun h2 e kk he => hE h2 e (fun c o qz qT q1 q2 q3 x => kk c o (k3 c o qz qT q1 q2 q3 x)) he))
theorem py_item3 {z TI TO i1 i2 i3 : Addr} {fp1 fp2 fp3 : List Addr} {n1 n2 n3 i : Nat} {P1 P2 P3 : Nat → Value → Prop} {St1 St2 St3 : Nat → Heap → Prop} {a1 a2 a3 : Value} {Q : Option Value → Shared → Prop} (S : Sep3 z TI TO i1 i2 i3 fp1 fp2 fp3) (D1 : Draws prog w A.in1 i1 fp1 n1 P1 St1) (D2 : Draws prog w A.in1 i2 fp2 n2 P2 St2) (D3 : Draws prog w A.in1 i3 fp3 n3 P3 St3)
    (hz : ZipO s.heap z TI TO .none b) (hTI : TupO s.heap TI #[.ref i1, .ref i2, .ref i3]) (hTO : TupO s.heap TO #[a1, a2, a3]) (st1 : St1 i s.heap) (st2 : St2 i s.heap) (st3 : St3 i s.heap) (hi1 : i < n1) (hi2 : i < n2) (hi3 : i < n3)
    (hQ : ∀ x1 x2 x3 h' tk, P1 i x1 → P2 i x2 → P3 i x3 → ZipO h' z TI TO (rawInt s.heap.objs.size) b → TupO h' TO #[x1, x2, x3] → St1 (i + 1) h' → St2 (i + 1) h' → St3 (i + 1) h' → TupO h' s.heap.objs.size #[x1, x2, x3] →
      (∀ c o, c ≠ z → c ≠ TO → c ≠ i1 → c ≠ i2 → c ≠ i3 → s.heap.get? c = some o → h'.get? c = some o) → Q (some (.ref s.heap.objs.size)) { s with heap := h', toks := tk }) : wpAny (model prog w) A (pyNext (.ref z)) Q E s := by
  have hT : s.TypeIs (.ref z) "zip" := ⟨_, hz, rfl⟩
  unfold pyNext
  refine wpAny_bind (wpAny_attempt (wpAny_callSpecial?_slot (name := Str.ofString "__next__") hT F.slot_zip_next (wpAny_call_entry F.slot_zip_next hT F.entry_zip_next ?_ (F.args_zip_next_1 _))))
  exact next_item3 S D1 D2 D3 hz hTI hTO st1 st2 st3 hi1 hi2 hi3 fun x1 x2 x3 h2 tk p1 p2 p3 q1 q2 u1 u2 u3 q3 q4 => wpAny_pure (hQ x1 x2 x3 h2 tk p1 p2 p3 q1 q2 u1 u2 u3 q3 q4)
theorem py_end3 {z TI TO i1 i2 i3 : Addr} {fp1 fp2 fp3 : List Addr} {n : Nat} {P1 P2 P3 : Nat → Value → Prop} {St1 St2 St3 : Nat → Heap → Prop} {a1 a2 a3 : Value} {Q : Option Value → Shared → Prop} (hh : A.handled = none) (S : Sep3 z TI TO i1 i2 i3 fp1 fp2 fp3) (D1 : Draws prog w A.in1 i1 fp1 n P1 St1) (D2 : Draws prog w A.in1 i2 fp2 n P2 St2) (D3 : Draws prog w A.in1 i3 fp3 n P3 St3)
    (hz : ZipO s.heap z TI TO .none b) (hTI : TupO s.heap TI #[.ref i1, .ref i2, .ref i3]) (hTO : TupO s.heap TO #[a1, a2, a3]) (st1 : St1 n s.heap) (st2 : St2 n s.heap) (st3 : St3 n s.heap)
    (hQ : ∀ h', (∀ c o, c ≠ z → c ≠ TO → c ≠ i1 → c ≠ i2 → c ≠ i3 → s.heap.get? c = some o → h'.get? c = some o) → Q none { s with heap := h' }) : wpAny (model prog w) A (pyNext (.ref z)) Q E s := by
  have hT : s.TypeIs (.ref z) "zip" := ⟨_, hz, rfl⟩
  unfold pyNext
  refine wpAny_bind (wpAny_attempt (wpAny_callSpecial?_slot (name := Str.ofString "__next__") hT F.slot_zip_next (wpAny_call_entry F.slot_zip_next hT F.entry_zip_next ?_ (F.args_zip_next_1 _))))
  refine next_end3 (A := A.in1) hh S D1 D2 D3 hz hTI hTO st1 st2 st3 fun h2 e kk he => ?_
  obtain ⟨o, ho, hc⟩ := he
  exact wpAny_bind (wpAny_isInstance (T := "StopIteration") (b := true) ⟨o, ho, hc⟩ isSubtype_stop (wpAny_pure (hQ _ kk)))
theorem typeCall_strict3 (v1 v2 v3 x : Value) : checkTypeCall "zip" ⟨[v1, v2, v3], [(Str.ofString "strict", x)]⟩ = pure () := by kernel_rfl
theorem newCall_strict3 (v1 v2 v3 x : Value) : checkBuiltinCall "zip.__new__" ⟨[.type "zip", v1, v2, v3], [(Str.ofString "strict", x)]⟩ = pure () := by kernel_rfl
theorem initArgs_strict3 (obj v1 v2 v3 x : Value) : argsOk "object.__init__" ⟨[obj, v1, v2, v3], [(Str.ofString "strict", x)]⟩ := by unfold argsOk; kernel_rfl
abbrev sT3 (h : Heap) (o1 o2 o3 : Obj) : Heap := ((((h.push o1).push o2).push o3).push { cls := .type "tuple", data := .seq #[.ref h.objs.size, .ref (h.push o1).objs.size, .ref ((h.push o1).push o2).objs.size] })
abbrev sO3 (h : Heap) (o1 o2 o3 : Obj) : Heap := (sT3 h o1 o2 o3).push { cls := .type "tuple", data := .seq #[.none, .none, .none] }
abbrev sZ3 (h : Heap) (o1 o2 o3 : Obj) : Heap := (sO3 h o1 o2 o3).push { cls := .type "zip", data := .fields #[.none, .bool false, .bool true, .ref (((h.push o1).push o2).push o3).objs.size, .ref (sT3 h o1 o2 o3).objs.size] }
theorem meets_strict3 {v1 v2 v3 : Value} {o1 o2 o3 : Obj} {G1 G2 G3 : Heap → Prop} (B1 : Begins v1 o1 G1) (B2 : Begins v2 o2 G2) (B3 : Begins v3 o3 G3) :
    Meets (Builtin.«zip.__new__» ⟨[.type "zip", v1, v2, v3], [(Str.ofString "strict", .bool true)]⟩) (fun _ R s => (G1 s.heap ∧ G2 s.heap ∧ G3 s.heap) ∧ R (.ok (.ret (.ref (sO3 s.heap o1 o2 o3).objs.size))) { s with heap := (sZ3 s.heap o1 o2 o3) }) :=
  .of_wp fun prog w A R s h => by
    obtain ⟨hp, g, d, tk, os⟩ := s
    obtain ⟨⟨h1, h2, h3⟩, h⟩ := h
    have hsub := sub_zip
    have e1 : (Str.ofString "strict" != ("strict" : Str)) = false := by decide +kernel
    have w1 : ∀ {A' : Around} {E : Value → Shared → Prop} {Q : Value → Shared → Prop}, Q (.ref hp.objs.size) ⟨(hp.push o1), g, d, tk, os⟩ → wpAny (model prog w) A' (pyIter v1) Q E ⟨hp, g, d, tk, os⟩ := fun q => B1.iter prog w _ _ ⟨hp, g, d, tk, os⟩ _ (B1.keeps _ _ h1 fun c u e => e) q
    have w2 : ∀ {A' : Around} {E : Value → Shared → Prop} {Q : Value → Shared → Prop}, Q (.ref (hp.push o1).objs.size) ⟨((hp.push o1).push o2), g, d, tk, os⟩ → wpAny (model prog w) A' (pyIter v2) Q E ⟨(hp.push o1), g, d, tk, os⟩ := fun q => B2.iter prog w _ _ ⟨(hp.push o1), g, d, tk, os⟩ _ (B2.keeps _ _ h2 fun c u e => (Heap.get?_push_of_some _ e)) q
    have w3 : ∀ {A' : Around} {E : Value → Shared → Prop} {Q : Value → Shared → Prop}, Q (.ref ((hp.push o1).push o2).objs.size) ⟨(((hp.push o1).push o2).push o3), g, d, tk, os⟩ → wpAny (model prog w) A' (pyIter v3) Q E ⟨((hp.push o1).push o2), g, d, tk, os⟩ := fun q => B3.iter prog w _ _ ⟨((hp.push o1).push o2), g, d, tk, os⟩ _ (B3.keeps _ _ h3 fun c u e => (Heap.get?_push_of_some _ (Heap.get?_push_of_some _ e))) q
    wp_walk using w1, w2, w3
    exact ⟨_, rfl, h⟩
/-- zip(.., strict=True) of 3: its new cells -/
theorem begins_strict3 {v1 v2 v3 : Value} {o1 o2 o3 : Obj} {G1 G2 G3 : Heap → Prop} {Q : Value → Shared → Prop} (B1 : Begins v1 o1 G1) (B2 : Begins v2 o2 G2) (B3 : Begins v3 o3 G3) (h1 : G1 s.heap) (h2 : G2 s.heap) (h3 : G3 s.heap)
    (h : ∀ h', ZipO h' (s.heap.objs.size + 5) (s.heap.objs.size + 3) (s.heap.objs.size + 4) .none true → TupO h' (s.heap.objs.size + 3) #[.ref s.heap.objs.size, .ref (s.heap.objs.size + 1), .ref (s.heap.objs.size + 2)] → TupO h' (s.heap.objs.size + 4) #[.none, .none, .none] → h'.get? s.heap.objs.size = some o1 → h'.get? (s.heap.objs.size + 1) = some o2 → h'.get? (s.heap.objs.size + 2) = some o3 → (∀ c o, s.heap.get? c = some o → h'.get? c = some o) → Q (.ref (s.heap.objs.size + 5)) { s with heap := h' }) :
    wpAny (model prog w) A (call (.type "zip") [v1, v2, v3] [(Str.ofString "strict", .bool true)]) Q E s := by
  refine callType_newKw F.called_zip (by decide) (typeCall_strict3 _ _ _ _) (newCall_strict3 _ _ _ _) (fun obj => initArgs_strict3 obj _ _ _ _) F.entry_zip_new (meets_strict3 B1 B2 B3) ⟨⟨h1, h2, h3⟩, ?_⟩
  have z1 : (s.heap.push o1).objs.size = s.heap.objs.size + 1 := by rw [Heap.size_push]
  have z2 : ((s.heap.push o1).push o2).objs.size = s.heap.objs.size + 2 := by rw [Heap.size_push, z1]
  have z3 : (((s.heap.push o1).push o2).push o3).objs.size = s.heap.objs.size + 3 := by rw [Heap.size_push, z2]
  have z4 : (sT3 s.heap o1 o2 o3).objs.size = s.heap.objs.size + 4 := by rw [Heap.size_push, z3]
  have z5 : (sO3 s.heap o1 o2 o3).objs.size = s.heap.objs.size + 5 := by rw [Heap.size_push, z4]
  have z6 : (sZ3 s.heap o1 o2 o3).objs.size = s.heap.objs.size + 6 := by rw [Heap.size_push, z5]
  have q0 : (sZ3 s.heap o1 o2 o3).get? s.heap.objs.size = some o1 := (Heap.get?_push_of_some _ (Heap.get?_push_of_some _ (Heap.get?_push_of_some _ (Heap.get?_push_of_some _ (Heap.get?_push_of_some _ (Heap.get?_push_size _ B1.free))))))
  have q1 : (sZ3 s.heap o1 o2 o3).get? (s.heap.push o1).objs.size = some o2 := (Heap.get?_push_of_some _ (Heap.get?_push_of_some _ (Heap.get?_push_of_some _ (Heap.get?_push_of_some _ (Heap.get?_push_size _ B2.free)))))
  rw [z1] at q1
  have q2 : (sZ3 s.heap o1 o2 o3).get? ((s.heap.push o1).push o2).objs.size = some o3 := (Heap.get?_push_of_some _ (Heap.get?_push_of_some _ (Heap.get?_push_of_some _ (Heap.get?_push_size _ B3.free))))
  rw [z2] at q2
  have q3 : (sZ3 s.heap o1 o2 o3).get? (((s.heap.push o1).push o2).push o3).objs.size = some ({ cls := .type "tuple", data := .seq #[.ref s.heap.objs.size, .ref (s.heap.push o1).objs.size, .ref ((s.heap.push o1).push o2).objs.size] } : Obj) := (Heap.get?_push_of_some _ (Heap.get?_push_of_some _ (Heap.get?_push_size _ rfl)))
  rw [z3] at q3
  have q4 : (sZ3 s.heap o1 o2 o3).get? (sT3 s.heap o1 o2 o3).objs.size = some ({ cls := .type "tuple", data := .seq #[.none, .none, .none] } : Obj) := (Heap.get?_push_of_some _ (Heap.get?_push_size _ rfl))
  rw [z4] at q4
  have q5 : (sZ3 s.heap o1 o2 o3).get? (sO3 s.heap o1 o2 o3).objs.size = some ({ cls := .type "zip", data := .fields #[.none, .bool false, .bool true, .ref (((s.heap.push o1).push o2).push o3).objs.size, .ref (sT3 s.heap o1 o2 o3).objs.size] } : Obj) := (Heap.get?_push_size _ rfl)
  rw [z5] at q5
  rw [z2, z1] at q3
  rw [z4, z3] at q5
  show _ ∧ _
  rw [z5]
  exact ⟨⟨_, q5, rfl⟩, h _ q5 q3 q4 q0 q1 q2 fun c o e => (Heap.get?_push_of_some _ (Heap.get?_push_of_some _ (Heap.get?_push_of_some _ (Heap.get?_push_of_some _ (Heap.get?_push_of_some _ (Heap.get?_push_of_some _ e))))))⟩
end
end CZ

namespace CZ
open PySem PySem.Spec PyProof.Rows L2
/-- a list (false) or a tuple (true) that is read -/
def SqK (K : PySem.W.Frag) (H : Hp) (p : Bool × Addr) (xs : List V) : Prop := if p.1 = true then SqT K H p.2 xs else SqL K H p.2 xs
def SqIt (h : Heap) (it : Addr) (p : Bool × Addr) (i : Nat) : Prop := if p.1 = true then h.IsTupleIter it p.2 i else h.IsListIter it p.2 i
def SeqIs (h : Heap) (p : Bool × Addr) (its : List Value) : Prop := if p.1 = true then h.IsTuple p.2 its.toArray else h.IsList p.2 its.toArray
/-- the iterator's object as it begins -/
def itO (p : Bool × Addr) : Obj := if p.1 = true then { cls := .type "tuple_iterator", data := .fields #[.ref p.2, .int 0 0] } else { cls := .type "list_iterator", data := .fields #[.ref p.2, .int 0 0] }
theorem SqIt.at {h h' : Heap} {it : Addr} {p : Bool × Addr} {i : Nat} (x : SqIt h it p i) (k : ∀ o, h.get? it = some o → h'.get? it = some o) : SqIt h' it p i := by
  obtain ⟨b, a⟩ := p
  cases b
  · exact Heap.IsListIter.at (show h.IsListIter it a i from x) k
  · exact Heap.IsTupleIter.at (show h.IsTupleIter it a i from x) k
theorem SqIt.obj {h : Heap} {it : Addr} {p : Bool × Addr} {i : Nat} (x : SqIt h it p i) : ∃ o, h.get? it = some o ∧ ∀ v, o.data ≠ .cell v := by
  obtain ⟨b, a⟩ := p
  cases b
  · obtain ⟨o, e, _, d⟩ := (show h.IsListIter it a i from x)
    exact ⟨o, e, fun v q => by rw [d] at q; cases q⟩
  · obtain ⟨o, e, _, d⟩ := (show h.IsTupleIter it a i from x)
    exact ⟨o, e, fun v q => by rw [d] at q; cases q⟩
theorem SqIt.begin {h : Heap} {it : Addr} {p : Bool × Addr} (e : h.get? it = some (itO p)) : SqIt h it p 0 := by
  obtain ⟨b, a⟩ := p
  cases b
  · exact ⟨_, e, rfl, rfl⟩
  · exact ⟨_, e, rfl, rfl⟩
theorem begins_of (p : Bool × Addr) (its : List Value) : Begins (.ref p.2) (itO p) (fun h => SeqIs h p its) := by
  obtain ⟨b, a⟩ := p
  cases b
  · exact begins_list a its.toArray
  · exact begins_tuple a its.toArray
theorem draws_of {prog : Program} {w : World} {A : Around} (hh : A.handled = none) (it : Addr) (p : Bool × Addr) (ne : p.2 ≠ it) (its : List Value) :
    Draws prog w A it [it, p.2] its.toArray.size (fun i v => its.toArray[i]? = some v) (fun i h => SqIt h it p i ∧ SeqIs h p its) := by
  obtain ⟨b, a⟩ := p
  cases b
  · exact Draws.list hh it a ne its.toArray
  · exact Draws.tuple hh it a ne its.toArray
section
variable {X : Cx} {pins : List (Addr × Obj)} {σ : L2.St} {H : Hp} {s : Shared} {p : Bool × Addr} {xs ys : List V}
theorem sq_seq (I : Inv X pins σ H s) (h : SqK X.K H p xs) : ∃ its : List Value, Vals xs its ∧ SeqIs s.heap p its ∧ p.2 < s.heap.objs.size := by
  obtain ⟨b, a⟩ := p
  cases b
  · obtain ⟨its, rv, q, _⟩ := I.list (show SqL X.K H a xs from h)
    exact ⟨its, rv, q.isList, q.lt⟩
  · obtain ⟨its, rv, q, _⟩ := I.tuple (show SqT X.K H a xs from h)
    obtain ⟨o, ho, _⟩ := id q
    exact ⟨its, rv, q, Heap.lt_size ho⟩
theorem sq_inj (I : Inv X pins σ H s) (h : SqK X.K H p xs) (h2 : SqK X.K H p ys) : xs = ys := by
  obtain ⟨b, a⟩ := p
  cases b
  · exact I.list_inj (show SqL X.K H a xs from h) h2
  · exact I.tuple_inj (show SqT X.K H a xs from h) h2
end
/-- what a zip of lists and tuples of one length gives -/
def ItZ (K : PySem.W.Frag) (l : List (Bool × Addr)) : It :=
  ⟨fun i H => ∃ vs : List V, Paired (fun p v => ∃ xs, SqK K H p xs ∧ xs[i]? = some v) l vs,
    fun i H v H2 => ∃ (T : Addr) (vs : List V), v = .ref T ∧ H T = none ∧ H2 = upd H T (.tup vs) ∧ Paired (fun p v => ∀ xs, SqK K H p xs → xs[i]? = some v) l vs,
    fun i H => ∀ p ∈ l, ∃ xs, SqK K H p xs ∧ xs.length = i⟩
def YRow (xss : List (List V)) : Nat → Hp → V → Hp → Prop := fun i H v H2 => ∃ (T : Addr) (vs : List V), v = .ref T ∧ H T = none ∧ H2 = upd H T (.tup vs) ∧ Paired (fun (xs : List V) v => xs[i]? = some v) xss vs
theorem pair_go {K : PySem.W.Frag} {H : Hp} {i : Nat} : ∀ {l : List (Bool × Addr)} {xss : List (List V)}, Paired (fun p xs => SqK K H p xs) l xss → (∀ xs ∈ xss, i < xs.length) → ∃ vs, Paired (fun p v => ∃ xs, SqK K H p xs ∧ xs[i]? = some v) l vs
  | _, _, .nil, _ => ⟨[], .nil⟩
  | _, _, .cons (b := xs) r t, h => by
    obtain ⟨vs, q⟩ := pair_go t fun ys hy => h ys (List.mem_cons_of_mem _ hy)
    have hi := h xs List.mem_cons_self
    exact ⟨xs[i] :: vs, .cons ⟨xs, r, List.getElem?_eq_getElem hi⟩ q⟩
theorem pair_row {K : PySem.W.Frag} {H : Hp} {i : Nat} : ∀ {l : List (Bool × Addr)} {xss : List (List V)} {vs : List V}, Paired (fun p xs => SqK K H p xs) l xss → Paired (fun p v => ∀ xs, SqK K H p xs → xs[i]? = some v) l vs → Paired (fun (xs : List V) v => xs[i]? = some v) xss vs
  | _, _, _, .nil, .nil => .nil
  | _, _, _, .cons r t, .cons q u => .cons (q _ r) (pair_row t u)
theorem pair_stop {K : PySem.W.Frag} {H : Hp} {n : Nat} : ∀ {l : List (Bool × Addr)} {xss : List (List V)}, Paired (fun p xs => SqK K H p xs) l xss → (∀ xs ∈ xss, xs.length = n) → ∀ p ∈ l, ∃ xs, SqK K H p xs ∧ xs.length = n
  | _, _, .nil, _, _, hp => nomatch hp
  | _, _, .cons r t, h, p, hp => by
    rcases List.mem_cons.mp hp with e | hp
    · rw [e]
      exact ⟨_, r, h _ List.mem_cons_self⟩
    · exact pair_stop t (fun ys hy => h ys (List.mem_cons_of_mem _ hy)) p hp
theorem walk_rows {K : PySem.W.Frag} {l : List (Bool × Addr)} {xss : List (List V)} {n : Nat} (hn : ∀ xs ∈ xss, xs.length = n) : Walk (ItZ K l) n (fun H => Paired (fun p xs => SqK K H p xs) l xss) (YRow xss) :=
  ⟨fun i H hi q => pair_go q fun xs hx => by rw [hn xs hx]; exact hi, fun H q => pair_stop q hn, fun i H x H2 _ q y => by
    obtain ⟨T, vs, h1, h2, h3, h4⟩ := y
    exact ⟨T, vs, h1, h2, h3, pair_row q h4⟩⟩
/-- the reading of zip(..): which are tuples is told by the flags -/
def iZ (K : PySem.W.Frag) (fl : List Bool) (ta : TA) : TI := fun σ H R => ta σ H fun vs H1 => ∃ l : List Addr, vs = l.map V.ref ∧ l.length = fl.length ∧ (∀ p ∈ fl.zip l, ∃ xs, SqK K H1 p xs) ∧ R (ItZ K (fl.zip l)) H1
theorem nin_new {M a : Nat} (j k : Nat) (h : a < M) (hjk : j ≠ k) : M + j ∉ [M + k, a] := by
  simp only [List.mem_cons, List.mem_nil_iff, or_false, not_or]
  omega
theorem looks_ty {M : Model} {h : Heap} (T : String) (_ : True) : ∃ k, (k = Keeper.frame ∨ k = Keeper.machine ∨ k = Keeper.boundFrame) ∧ PySem.W.Looks M h (keeperOf (.type T)) k := ⟨_, .inr (.inl rfl), PySem.W.Looks.of_pure rfl⟩
end CZ

namespace CZ
open PySem PySem.Spec PyProof.Rows L2
theorem turn_z2 {P : Program} {w : World} {K : PySem.W.Frag} {elts : List Expr} {kk : Nat} {tpos : Pos} {z TI TO i1 i2 : Addr} {p1 p2 : Bool × Addr} {b : Bool} (S : Sep2 z TI TO i1 i2 [i1, p1.2] [i2, p2.2]) (ne1 : p1.2 ≠ i1) (ne2 : p2.2 ≠ i2) :
    Turn P w K (.Tuple elts kk tpos) (ItZ K [p1, p2]) [z, TI, TO, i1, i2] z (fun i h => ZipO h z TI TO .none b ∧ TupO h TI #[.ref i1, .ref i2] ∧ (∃ a1 a2, TupO h TO #[a1, a2]) ∧ SqIt h i1 p1 i ∧ SqIt h i2 p2 i) where
  mem := by simp
  obj := fun i h st c hc => by
    obtain ⟨hz, hTI, ⟨a1, a2, hTO⟩, h1, h2⟩ := st
    have e : c = z ∨ c = TI ∨ c = TO ∨ c = i1 ∨ c = i2 := by simpa using hc
    rcases e with q | q | q | q | q
    · rw [q]; exact ⟨_, hz, fun v q => nomatch q⟩
    · rw [q]; exact ⟨_, hTI, fun v q => nomatch q⟩
    · rw [q]; exact ⟨_, hTO, fun v q => nomatch q⟩
    · rw [q]; exact h1.obj
    · rw [q]; exact h2.obj
  keep := fun i h h2 st k => by
    obtain ⟨hz, hTI, ⟨a1, a2, hTO⟩, h1, h2⟩ := st
    exact ⟨k z (by simp) _ hz, k TI (by simp) _ hTI, ⟨a1, a2, k TO (by simp) _ hTO⟩, h1.at fun o q => k i1 (by simp) o q, h2.at fun o q => k i2 (by simp) o q⟩
  item := by
    intro X hP hw hK hc i pins s σ H E I hf st hg
    subst hP hw hK
    obtain ⟨hz, hTI, ⟨a1, a2, hTO⟩, h1, h2⟩ := st
    obtain ⟨vs, hv⟩ := hg
    cases hv with
    | cons r1 hv1 =>
      rename_i v1 ws1
      obtain ⟨xs1, hq1, hx1⟩ := r1
      obtain ⟨its1, rv1, q1, _⟩ := sq_seq I hq1
      obtain ⟨u1, hu1, ru1⟩ := rv1.get hx1
      have g1 : its1.toArray[i]? = some u1 := by simpa using hu1
      have l1 : i < its1.toArray.size := by have := (List.getElem?_eq_some_iff.mp hu1).1; simpa using this
      cases hv1 with
      | cons r2 hv2 =>
        rename_i v2 ws2
        obtain ⟨xs2, hq2, hx2⟩ := r2
        obtain ⟨its2, rv2, q2, _⟩ := sq_seq I hq2
        obtain ⟨u2, hu2, ru2⟩ := rv2.get hx2
        have g2 : its2.toArray[i]? = some u2 := by simpa using hu2
        have l2 : i < its2.toArray.size := by have := (List.getElem?_eq_some_iff.mp hu2).1; simpa using this
        cases hv2
        have hzl : z < s.heap.objs.size := Heap.lt_size hz
        refine py_item2 S (draws_of (A := X.A.in1) (I.ok.hd hc) i1 p1 ne1 its1) (draws_of (A := X.A.in1) (I.ok.hd hc) i2 p2 ne2 its2) hz hTI hTO ⟨h1, q1⟩ ⟨h2, q2⟩ l1 l2 fun x1 x2 hA tk y1 y2 z2 TO2 n1 n2 hT hk => ?_
        obtain rfl : u1 = x1 := Option.some.inj (g1.symm.trans y1)
        obtain rfl : u2 = x2 := Option.some.inj (g2.symm.trans y2)
        refine ⟨_, rfl, go_zip (s := { s with heap := hA, toks := tk }) z2 fun hB z3 sb => ?_⟩
        replace sb : Heap.SameBut z hA hB := sb
        have hT2 : hB.get? s.heap.objs.size = some { cls := .type "tuple", data := .seq #[u1, u2] } := (sb.2 _ (Nat.ne_of_gt hzl)).trans hT
        have new : ObjOk X.prog X.w (upd H s.heap.objs.size (.tup [v1, v2])) hB s.heap.objs.size (.tup [v1, v2]) := ⟨by show 2 ≤ sizeLine; decide, [u1, u2], (.cons ru1 (.cons ru2 .nil)), ⟨_, hT2, rfl, _, rfl⟩⟩
        have I1 : Inv X pins σ (upd H s.heap.objs.size (.tup [v1, v2])) { s with heap := hB, toks := tk } := I.turnedNew (t' := tk) (ch := [z, TI, TO, i1, i2]) (fun c o hb q => (sb.2 c (fun q => hb (by simp [q]))).trans (hk c o (fun q => hb (by simp [q])) (fun q => hb (by simp [q])) (fun q => hb (by simp [q])) (fun q => hb (by simp [q])) q)) hf (Nat.le_refl _) new
        refine ⟨.ref s.heap.objs.size, _, I1, rfl, ⟨_, _, rfl, I.hok.fresh (Nat.le_refl _), rfl, (.cons (fun l hl => by rw [sq_inj I hl hq1]; exact hx1) (.cons (fun l hl => by rw [sq_inj I hl hq2]; exact hx2) .nil))⟩, ⟨z3, (sb.2 _ S.zTI.symm).trans (hk _ _ S.zTI.symm S.TOTI.symm S.I1 S.I2 hTI), ⟨u1, u2, (sb.2 _ S.zTO.symm).trans TO2⟩, (n1.1.at fun o q => (sb.2 _ (fun q => S.z1 (by rw [← q]; exact S.m1))).trans q), (n2.1.at fun o q => (sb.2 _ (fun q => S.z2 (by rw [← q]; exact S.m2))).trans q)⟩, fun c hcm => ?_⟩
        have hlt : c < s.heap.objs.size := by
          have e : c = z ∨ c = TI ∨ c = TO ∨ c = i1 ∨ c = i2 := by simpa using hcm
          rcases e with q | q | q | q | q
          · rw [q]; exact hzl
          · rw [q]; exact Heap.lt_size hTI
          · rw [q]; exact Heap.lt_size hTO
          · rw [q]; obtain ⟨_, e1, _⟩ := h1.obj; exact Heap.lt_size e1
          · rw [q]; obtain ⟨_, e1, _⟩ := h2.obj; exact Heap.lt_size e1
        rw [upd_ne (Nat.ne_of_lt hlt)]
        exact (hf c hcm).1
  done := by
    intro X hP hw hK hc i pins s σ H E I hf st hg
    subst hP hw hK
    obtain ⟨hz, hTI, ⟨a1, a2, hTO⟩, h1, h2⟩ := st
    obtain ⟨xs1, hq1, hx1⟩ := hg p1 (by simp)
    obtain ⟨its1, rv1, q1, _⟩ := sq_seq I hq1
    have l1 : its1.toArray.size = i := by have := rv1.length; simp; omega
    have D1 := draws_of (prog := X.prog) (w := X.w) (A := X.A.in1) (I.ok.hd hc) i1 p1 ne1 its1
    rw [l1] at D1
    obtain ⟨xs2, hq2, hx2⟩ := hg p2 (by simp)
    obtain ⟨its2, rv2, q2, _⟩ := sq_seq I hq2
    have l2 : its2.toArray.size = i := by have := rv2.length; simp; omega
    have D2 := draws_of (prog := X.prog) (w := X.w) (A := X.A.in1) (I.ok.hd hc) i2 p2 ne2 its2
    rw [l2] at D2
    exact py_end2 (I.ok.hd hc) S D1 D2 hz hTI hTO ⟨h1, q1⟩ ⟨h2, q2⟩ fun h2 hk => ⟨rfl, I.turnedL (t' := s.toks) (ch := [z, TI, TO, i1, i2]) (fun c o hb q => hk c o (fun q => hb (by simp [q])) (fun q => hb (by simp [q])) (fun q => hb (by simp [q])) (fun q => hb (by simp [q])) q) hf⟩
  self := fun A i s Q E st h => iter_zip st.1 h
theorem sep_new2 {M : Nat} {p1 p2 : Bool × Addr} (h1 : p1.2 < M) (h2 : p2.2 < M) : Sep2 (M + 4) (M + 2) (M + 3) M (M + 1) [M, p1.2] [M + 1, p2.2] where
  zTO := by show (M + 4 : Nat) ≠ M + 3; omega
  zTI := by show (M + 4 : Nat) ≠ M + 2; omega
  TOTI := by show (M + 3 : Nat) ≠ M + 2; omega
  m1 := by simp
  z1 := nin_new (a := p1.2) 4 0 h1 (by decide)
  T1 := nin_new (a := p1.2) 3 0 h1 (by decide)
  I1 := by show (M + 2 : Nat) ≠ M; omega
  s2_1 := nin_new (a := p1.2) 1 0 h1 (by decide)
  m2 := by simp
  z2 := nin_new (a := p2.2) 4 1 h2 (by decide)
  T2 := nin_new (a := p2.2) 3 1 h2 (by decide)
  I2 := by show (M + 2 : Nat) ≠ M + 1; omega
  s1_2 := nin_new (a := p2.2) 0 1 h2 (by decide)
theorem pi_z2s {X : Cx} {e1 e2 : Expr} {ta : TA} {p pos tpos : Pos} {elts : List Expr} {kk : Nat} {jj : Nat} {kp kp2 : Pos} {fl : List Bool} (hfl : fl.length = 2) (hg : Gl X "zip") (hm : X.mg "zip" = none) (ha : PA X [e1, e2] ta)
    (hs : starEach [e1, e2] X.env = (false, eval e1 X.env) :: starEach [e2] X.env := by rfl) (hpl : (backTo pos (starEach [e2] X.env)).any (·.1) = false := by rfl) :
    PI X (.Tuple elts kk tpos) (.Call (.Name "zip" p) [e1, e2] [⟨some "strict", .Constant (.bool true) jj kp, kp2⟩] pos) (iZ X.K fl ta) := by
  refine ⟨fun pins s σ H R I h => ?_⟩
  refine wpAny_Call_Name_kw (ld_blt I hg hm PyProof.Rows.boot_zip ?_)
  refine PySem.W.callWith_of (P := fun _ => True) ?_ (fun h _ => looks_ty "zip" True.intro) ?_
  · show ((backTo pos (starEach _ X.env)).any (·.1) || false) = false
    rw [hs, Bool.or_false]
    exact hpl
  have he : backTo pos (starEach [e1, e2] X.env) = (false, eval e1 X.env) :: backTo pos (starEach [e2] X.env) := by rw [hs]; rfl
  rw [he]
  refine PyProof.Rows.evalArgs_kwB rfl ?_
  rw [← he]
  refine thn (ha.run pos pins s σ H _ I h) fun us s0 ⟨vs, H1, I0, r1, q1⟩ => ?_
  refine PyProof.Rows.kws_cons (Constant_bool (PyProof.Rows.kws_nil ⟨True.intro, ?_⟩))
  have I1 := I0
  obtain ⟨l, ev, el, hl, q1⟩ := q1
  subst ev
  obtain ⟨b1, b2, rfl⟩ : ∃ b1 b2 : Bool, fl = [b1, b2] := match fl, hfl with | [_, _], _ => ⟨_, _, rfl⟩
  obtain ⟨c1, c2, rfl⟩ : ∃ c1 c2 : Addr, l = [c1, c2] := match l, el with | [_, _], _ => ⟨_, _, rfl⟩
  cases r1 with
  | cons r_1 rr1 =>
    cases r_1
    cases rr1 with
    | cons r_2 rr2 =>
      cases r_2
      cases rr2
      obtain ⟨xs1, hq1⟩ := hl (b1, c1) (by simp)
      obtain ⟨its1, rv1, g1, lt1⟩ := sq_seq I1 hq1
      obtain ⟨xs2, hq2⟩ := hl (b2, c2) (by simp)
      obtain ⟨its2, rv2, g2, lt2⟩ := sq_seq I1 hq2
      have frs : ∀ c, c ∈ [s0.heap.objs.size + 4, s0.heap.objs.size + 2, s0.heap.objs.size + 3, s0.heap.objs.size, s0.heap.objs.size + 1] → FpOk X pins H1 c := fun c hcm => by
        have e : c = s0.heap.objs.size + 4 ∨ c = s0.heap.objs.size + 2 ∨ c = s0.heap.objs.size + 3 ∨ c = s0.heap.objs.size ∨ c = s0.heap.objs.size + 1 := by simpa using hcm
        have hle : s0.heap.objs.size ≤ c := by
          rcases e with q | q | q | q | q
          · rw [q]; exact Nat.le_add_right _ _
          · rw [q]; exact Nat.le_add_right _ _
          · rw [q]; exact Nat.le_add_right _ _
          · rw [q]; exact Nat.le_refl _
          · rw [q]; exact Nat.le_add_right _ _
        exact I1.fpOk hle (I1.hok.fresh hle)
      refine begins_strict2 (begins_of (b1, c1) its1) (begins_of (b2, c2) its2) g1 g2 fun hA hz hTI hTO y1 y2 kk => iter_zip hz ?_
      have I2 : Inv X pins σ H1 { s0 with heap := hA } := I1.kept (t' := s0.toks) kk
      exact ⟨_, [s0.heap.objs.size + 4, s0.heap.objs.size + 2, s0.heap.objs.size + 3, s0.heap.objs.size, s0.heap.objs.size + 1], _, _, H1, rfl, I2, turn_z2 (sep_new2 lt1 lt2) (Nat.ne_of_lt lt1) (Nat.ne_of_lt (Nat.lt_of_lt_of_le lt2 (Nat.le_add_right _ 1))), ⟨hz, hTI, ⟨_, _, hTO⟩, SqIt.begin y1, SqIt.begin y2⟩, frs, q1⟩
theorem pi_z2 {X : Cx} {e1 e2 : Expr} {ta : TA} {p pos tpos : Pos} {elts : List Expr} {kk : Nat} {fl : List Bool} (hfl : fl.length = 2) (hg : Gl X "zip") (hm : X.mg "zip" = none) (ha : PA X [e1, e2] ta)
    (hs : starEach [e1, e2] X.env = (false, eval e1 X.env) :: starEach [e2] X.env := by rfl) (hpl : (backTo pos (starEach [e2] X.env)).any (·.1) = false := by rfl) :
    PI X (.Tuple elts kk tpos) (.Call (.Name "zip" p) [e1, e2] [] pos) (iZ X.K fl ta) := by
  refine ⟨fun pins s σ H R I h => ?_⟩
  refine Call_ (ld_blt I hg hm PyProof.Rows.boot_zip (PyProof.Rows.callWith_type1 (thn (ha.run pos pins s σ H _ I h) fun us s0 ⟨vs, H1, I1, r1, q1⟩ => ?_) hs hpl))
  obtain ⟨l, ev, el, hl, q1⟩ := q1
  subst ev
  obtain ⟨b1, b2, rfl⟩ : ∃ b1 b2 : Bool, fl = [b1, b2] := match fl, hfl with | [_, _], _ => ⟨_, _, rfl⟩
  obtain ⟨c1, c2, rfl⟩ : ∃ c1 c2 : Addr, l = [c1, c2] := match l, el with | [_, _], _ => ⟨_, _, rfl⟩
  cases r1 with
  | cons r_1 rr1 =>
    cases r_1
    cases rr1 with
    | cons r_2 rr2 =>
      cases r_2
      cases rr2
      obtain ⟨xs1, hq1⟩ := hl (b1, c1) (by simp)
      obtain ⟨its1, rv1, g1, lt1⟩ := sq_seq I1 hq1
      obtain ⟨xs2, hq2⟩ := hl (b2, c2) (by simp)
      obtain ⟨its2, rv2, g2, lt2⟩ := sq_seq I1 hq2
      have frs : ∀ c, c ∈ [s0.heap.objs.size + 4, s0.heap.objs.size + 2, s0.heap.objs.size + 3, s0.heap.objs.size, s0.heap.objs.size + 1] → FpOk X pins H1 c := fun c hcm => by
        have e : c = s0.heap.objs.size + 4 ∨ c = s0.heap.objs.size + 2 ∨ c = s0.heap.objs.size + 3 ∨ c = s0.heap.objs.size ∨ c = s0.heap.objs.size + 1 := by simpa using hcm
        have hle : s0.heap.objs.size ≤ c := by
          rcases e with q | q | q | q | q
          · rw [q]; exact Nat.le_add_right _ _
          · rw [q]; exact Nat.le_add_right _ _
          · rw [q]; exact Nat.le_add_right _ _
          · rw [q]; exact Nat.le_refl _
          · rw [q]; exact Nat.le_add_right _ _
        exact I1.fpOk hle (I1.hok.fresh hle)
      refine zip_begins2 (begins_of (b1, c1) its1) (begins_of (b2, c2) its2) g1 g2 fun hA hz hTI hTO y1 y2 _ kk => iter_zip (b := false) hz ?_
      have I2 : Inv X pins σ H1 { s0 with heap := hA } := I1.kept (t' := s0.toks) kk
      exact ⟨_, [s0.heap.objs.size + 4, s0.heap.objs.size + 2, s0.heap.objs.size + 3, s0.heap.objs.size, s0.heap.objs.size + 1], _, _, H1, rfl, I2, turn_z2 (sep_new2 lt1 lt2) (Nat.ne_of_lt lt1) (Nat.ne_of_lt (Nat.lt_of_lt_of_le lt2 (Nat.le_add_right _ 1))), ⟨hz, hTI, ⟨_, _, hTO⟩, SqIt.begin y1, SqIt.begin y2⟩, frs, q1⟩
theorem turn_z3 {P : Program} {w : World} {K : PySem.W.Frag} {elts : List Expr} {kk : Nat} {tpos : Pos} {z TI TO i1 i2 i3 : Addr} {p1 p2 p3 : Bool × Addr} {b : Bool} (S : Sep3 z TI TO i1 i2 i3 [i1, p1.2] [i2, p2.2] [i3, p3.2]) (ne1 : p1.2 ≠ i1) (ne2 : p2.2 ≠ i2) (ne3 : p3.2 ≠ i3) :
    Turn P w K (.Tuple elts kk tpos) (ItZ K [p1, p2, p3]) [z, TI, TO, i1, i2, i3] z (fun i h => ZipO h z TI TO .none b ∧ TupO h TI #[.ref i1, .ref i2, .ref i3] ∧ (∃ a1 a2 a3, TupO h TO #[a1, a2, a3]) ∧ SqIt h i1 p1 i ∧ SqIt h i2 p2 i ∧ SqIt h i3 p3 i) where
  mem := by simp
  obj := fun i h st c hc => by
    obtain ⟨hz, hTI, ⟨a1, a2, a3, hTO⟩, h1, h2, h3⟩ := st
    have e : c = z ∨ c = TI ∨ c = TO ∨ c = i1 ∨ c = i2 ∨ c = i3 := by simpa using hc
    rcases e with q | q | q | q | q | q
    · rw [q]; exact ⟨_, hz, fun v q => nomatch q⟩
    · rw [q]; exact ⟨_, hTI, fun v q => nomatch q⟩
    · rw [q]; exact ⟨_, hTO, fun v q => nomatch q⟩
    · rw [q]; exact h1.obj
    · rw [q]; exact h2.obj
    · rw [q]; exact h3.obj
  keep := fun i h h2 st k => by
    obtain ⟨hz, hTI, ⟨a1, a2, a3, hTO⟩, h1, h2, h3⟩ := st
    exact ⟨k z (by simp) _ hz, k TI (by simp) _ hTI, ⟨a1, a2, a3, k TO (by simp) _ hTO⟩, h1.at fun o q => k i1 (by simp) o q, h2.at fun o q => k i2 (by simp) o q, h3.at fun o q => k i3 (by simp) o q⟩
  item := by
    intro X hP hw hK hc i pins s σ H E I hf st hg
    subst hP hw hK
    obtain ⟨hz, hTI, ⟨a1, a2, a3, hTO⟩, h1, h2, h3⟩ := st
    obtain ⟨vs, hv⟩ := hg
    cases hv with
    | cons r1 hv1 =>
      rename_i v1 ws1
      obtain ⟨xs1, hq1, hx1⟩ := r1
      obtain ⟨its1, rv1, q1, _⟩ := sq_seq I hq1
      obtain ⟨u1, hu1, ru1⟩ := rv1.get hx1
      have g1 : its1.toArray[i]? = some u1 := by simpa using hu1
      have l1 : i < its1.toArray.size := by have := (List.getElem?_eq_some_iff.mp hu1).1; simpa using this
      cases hv1 with
      | cons r2 hv2 =>
        rename_i v2 ws2
        obtain ⟨xs2, hq2, hx2⟩ := r2
        obtain ⟨its2, rv2, q2, _⟩ := sq_seq I hq2
        obtain ⟨u2, hu2, ru2⟩ := rv2.get hx2
        have g2 : its2.toArray[i]? = some u2 := by simpa using hu2
        have l2 : i < its2.toArray.size := by have := (List.getElem?_eq_some_iff.mp hu2).1; simpa using this
        cases hv2 with
        | cons r3 hv3 =>
          rename_i v3 ws3
          obtain ⟨xs3, hq3, hx3⟩ := r3
          obtain ⟨its3, rv3, q3, _⟩ := sq_seq I hq3
          obtain ⟨u3, hu3, ru3⟩ := rv3.get hx3
          have g3 : its3.toArray[i]? = some u3 := by simpa using hu3
          have l3 : i < its3.toArray.size := by have := (List.getElem?_eq_some_iff.mp hu3).1; simpa using this
          cases hv3
          have hzl : z < s.heap.objs.size := Heap.lt_size hz
          refine py_item3 S (draws_of (A := X.A.in1) (I.ok.hd hc) i1 p1 ne1 its1) (draws_of (A := X.A.in1) (I.ok.hd hc) i2 p2 ne2 its2) (draws_of (A := X.A.in1) (I.ok.hd hc) i3 p3 ne3 its3) hz hTI hTO ⟨h1, q1⟩ ⟨h2, q2⟩ ⟨h3, q3⟩ l1 l2 l3 fun x1 x2 x3 hA tk y1 y2 y3 z2 TO2 n1 n2 n3 hT hk => ?_
          obtain rfl : u1 = x1 := Option.some.inj (g1.symm.trans y1)
          obtain rfl : u2 = x2 := Option.some.inj (g2.symm.trans y2)
          obtain rfl : u3 = x3 := Option.some.inj (g3.symm.trans y3)
          refine ⟨_, rfl, go_zip (s := { s with heap := hA, toks := tk }) z2 fun hB z3 sb => ?_⟩
          replace sb : Heap.SameBut z hA hB := sb
          have hT2 : hB.get? s.heap.objs.size = some { cls := .type "tuple", data := .seq #[u1, u2, u3] } := (sb.2 _ (Nat.ne_of_gt hzl)).trans hT
          have new : ObjOk X.prog X.w (upd H s.heap.objs.size (.tup [v1, v2, v3])) hB s.heap.objs.size (.tup [v1, v2, v3]) := ⟨by show 3 ≤ sizeLine; decide, [u1, u2, u3], (.cons ru1 (.cons ru2 (.cons ru3 .nil))), ⟨_, hT2, rfl, _, rfl⟩⟩
          have I1 : Inv X pins σ (upd H s.heap.objs.size (.tup [v1, v2, v3])) { s with heap := hB, toks := tk } := I.turnedNew (t' := tk) (ch := [z, TI, TO, i1, i2, i3]) (fun c o hb q => (sb.2 c (fun q => hb (by simp [q]))).trans (hk c o (fun q => hb (by simp [q])) (fun q => hb (by simp [q])) (fun q => hb (by simp [q])) (fun q => hb (by simp [q])) (fun q => hb (by simp [q])) q)) hf (Nat.le_refl _) new
          refine ⟨.ref s.heap.objs.size, _, I1, rfl, ⟨_, _, rfl, I.hok.fresh (Nat.le_refl _), rfl, (.cons (fun l hl => by rw [sq_inj I hl hq1]; exact hx1) (.cons (fun l hl => by rw [sq_inj I hl hq2]; exact hx2) (.cons (fun l hl => by rw [sq_inj I hl hq3]; exact hx3) .nil)))⟩, ⟨z3, (sb.2 _ S.zTI.symm).trans (hk _ _ S.zTI.symm S.TOTI.symm S.I1 S.I2 S.I3 hTI), ⟨u1, u2, u3, (sb.2 _ S.zTO.symm).trans TO2⟩, (n1.1.at fun o q => (sb.2 _ (fun q => S.z1 (by rw [← q]; exact S.m1))).trans q), (n2.1.at fun o q => (sb.2 _ (fun q => S.z2 (by rw [← q]; exact S.m2))).trans q), (n3.1.at fun o q => (sb.2 _ (fun q => S.z3 (by rw [← q]; exact S.m3))).trans q)⟩, fun c hcm => ?_⟩
          have hlt : c < s.heap.objs.size := by
            have e : c = z ∨ c = TI ∨ c = TO ∨ c = i1 ∨ c = i2 ∨ c = i3 := by simpa using hcm
            rcases e with q | q | q | q | q | q
            · rw [q]; exact hzl
            · rw [q]; exact Heap.lt_size hTI
            · rw [q]; exact Heap.lt_size hTO
            · rw [q]; obtain ⟨_, e1, _⟩ := h1.obj; exact Heap.lt_size e1
            · rw [q]; obtain ⟨_, e1, _⟩ := h2.obj; exact Heap.lt_size e1
            · rw [q]; obtain ⟨_, e1, _⟩ := h3.obj; exact Heap.lt_size e1
          rw [upd_ne (Nat.ne_of_lt hlt)]
          exact (hf c hcm).1
  done := by
    intro X hP hw hK hc i pins s σ H E I hf st hg
    subst hP hw hK
    obtain ⟨hz, hTI, ⟨a1, a2, a3, hTO⟩, h1, h2, h3⟩ := st
    obtain ⟨xs1, hq1, hx1⟩ := hg p1 (by simp)
    obtain ⟨its1, rv1, q1, _⟩ := sq_seq I hq1
    have l1 : its1.toArray.size = i := by have := rv1.length; simp; omega
    have D1 := draws_of (prog := X.prog) (w := X.w) (A := X.A.in1) (I.ok.hd hc) i1 p1 ne1 its1
    rw [l1] at D1
    obtain ⟨xs2, hq2, hx2⟩ := hg p2 (by simp)
    obtain ⟨its2, rv2, q2, _⟩ := sq_seq I hq2
    have l2 : its2.toArray.size = i := by have := rv2.length; simp; omega
    have D2 := draws_of (prog := X.prog) (w := X.w) (A := X.A.in1) (I.ok.hd hc) i2 p2 ne2 its2
    rw [l2] at D2
    obtain ⟨xs3, hq3, hx3⟩ := hg p3 (by simp)
    obtain ⟨its3, rv3, q3, _⟩ := sq_seq I hq3
    have l3 : its3.toArray.size = i := by have := rv3.length; simp; omega
    have D3 := draws_of (prog := X.prog) (w := X.w) (A := X.A.in1) (I.ok.hd hc) i3 p3 ne3 its3
    rw [l3] at D3
    exact py_end3 (I.ok.hd hc) S D1 D2 D3 hz hTI hTO ⟨h1, q1⟩ ⟨h2, q2⟩ ⟨h3, q3⟩ fun h2 hk => ⟨rfl, I.turnedL (t' := s.toks) (ch := [z, TI, TO, i1, i2, i3]) (fun c o hb q => hk c o (fun q => hb (by simp [q])) (fun q => hb (by simp [q])) (fun q => hb (by simp [q])) (fun q => hb (by simp [q])) (fun q => hb (by simp [q])) q) hf⟩
  self := fun A i s Q E st h => iter_zip st.1 h
theorem sep_new3 {M : Nat} {p1 p2 p3 : Bool × Addr} (h1 : p1.2 < M) (h2 : p2.2 < M) (h3 : p3.2 < M) : Sep3 (M + 5) (M + 3) (M + 4) M (M + 1) (M + 2) [M, p1.2] [M + 1, p2.2] [M + 2, p3.2] where
  zTO := by show (M + 5 : Nat) ≠ M + 4; omega
  zTI := by show (M + 5 : Nat) ≠ M + 3; omega
  TOTI := by show (M + 4 : Nat) ≠ M + 3; omega
  m1 := by simp
  z1 := nin_new (a := p1.2) 5 0 h1 (by decide)
  T1 := nin_new (a := p1.2) 4 0 h1 (by decide)
  I1 := by show (M + 3 : Nat) ≠ M; omega
  s2_1 := nin_new (a := p1.2) 1 0 h1 (by decide)
  s3_1 := nin_new (a := p1.2) 2 0 h1 (by decide)
  m2 := by simp
  z2 := nin_new (a := p2.2) 5 1 h2 (by decide)
  T2 := nin_new (a := p2.2) 4 1 h2 (by decide)
  I2 := by show (M + 3 : Nat) ≠ M + 1; omega
  s1_2 := nin_new (a := p2.2) 0 1 h2 (by decide)
  s3_2 := nin_new (a := p2.2) 2 1 h2 (by decide)
  m3 := by simp
  z3 := nin_new (a := p3.2) 5 2 h3 (by decide)
  T3 := nin_new (a := p3.2) 4 2 h3 (by decide)
  I3 := by show (M + 3 : Nat) ≠ M + 2; omega
  s1_3 := nin_new (a := p3.2) 0 2 h3 (by decide)
  s2_3 := nin_new (a := p3.2) 1 2 h3 (by decide)
theorem pi_z3s {X : Cx} {e1 e2 e3 : Expr} {ta : TA} {p pos tpos : Pos} {elts : List Expr} {kk : Nat} {jj : Nat} {kp kp2 : Pos} {fl : List Bool} (hfl : fl.length = 3) (hg : Gl X "zip") (hm : X.mg "zip" = none) (ha : PA X [e1, e2, e3] ta)
    (hs : starEach [e1, e2, e3] X.env = (false, eval e1 X.env) :: starEach [e2, e3] X.env := by rfl) (hpl : (backTo pos (starEach [e2, e3] X.env)).any (·.1) = false := by rfl) :
    PI X (.Tuple elts kk tpos) (.Call (.Name "zip" p) [e1, e2, e3] [⟨some "strict", .Constant (.bool true) jj kp, kp2⟩] pos) (iZ X.K fl ta) := by
  refine ⟨fun pins s σ H R I h => ?_⟩
  refine wpAny_Call_Name_kw (ld_blt I hg hm PyProof.Rows.boot_zip ?_)
  refine PySem.W.callWith_of (P := fun _ => True) ?_ (fun h _ => looks_ty "zip" True.intro) ?_
  · show ((backTo pos (starEach _ X.env)).any (·.1) || false) = false
    rw [hs, Bool.or_false]
    exact hpl
  have he : backTo pos (starEach [e1, e2, e3] X.env) = (false, eval e1 X.env) :: backTo pos (starEach [e2, e3] X.env) := by rw [hs]; rfl
  rw [he]
  refine PyProof.Rows.evalArgs_kwB rfl ?_
  rw [← he]
  refine thn (ha.run pos pins s σ H _ I h) fun us s0 ⟨vs, H1, I0, r1, q1⟩ => ?_
  refine PyProof.Rows.kws_cons (Constant_bool (PyProof.Rows.kws_nil ⟨True.intro, ?_⟩))
  have I1 := I0
  obtain ⟨l, ev, el, hl, q1⟩ := q1
  subst ev
  obtain ⟨b1, b2, b3, rfl⟩ : ∃ b1 b2 b3 : Bool, fl = [b1, b2, b3] := match fl, hfl with | [_, _, _], _ => ⟨_, _, _, rfl⟩
  obtain ⟨c1, c2, c3, rfl⟩ : ∃ c1 c2 c3 : Addr, l = [c1, c2, c3] := match l, el with | [_, _, _], _ => ⟨_, _, _, rfl⟩
  cases r1 with
  | cons r_1 rr1 =>
    cases r_1
    cases rr1 with
    | cons r_2 rr2 =>
      cases r_2
      cases rr2 with
      | cons r_3 rr3 =>
        cases r_3
        cases rr3
        obtain ⟨xs1, hq1⟩ := hl (b1, c1) (by simp)
        obtain ⟨its1, rv1, g1, lt1⟩ := sq_seq I1 hq1
        obtain ⟨xs2, hq2⟩ := hl (b2, c2) (by simp)
        obtain ⟨its2, rv2, g2, lt2⟩ := sq_seq I1 hq2
        obtain ⟨xs3, hq3⟩ := hl (b3, c3) (by simp)
        obtain ⟨its3, rv3, g3, lt3⟩ := sq_seq I1 hq3
        have frs : ∀ c, c ∈ [s0.heap.objs.size + 5, s0.heap.objs.size + 3, s0.heap.objs.size + 4, s0.heap.objs.size, s0.heap.objs.size + 1, s0.heap.objs.size + 2] → FpOk X pins H1 c := fun c hcm => by
          have e : c = s0.heap.objs.size + 5 ∨ c = s0.heap.objs.size + 3 ∨ c = s0.heap.objs.size + 4 ∨ c = s0.heap.objs.size ∨ c = s0.heap.objs.size + 1 ∨ c = s0.heap.objs.size + 2 := by simpa using hcm
          have hle : s0.heap.objs.size ≤ c := by
            rcases e with q | q | q | q | q | q
            · rw [q]; exact Nat.le_add_right _ _
            · rw [q]; exact Nat.le_add_right _ _
            · rw [q]; exact Nat.le_add_right _ _
            · rw [q]; exact Nat.le_refl _
            · rw [q]; exact Nat.le_add_right _ _
            · rw [q]; exact Nat.le_add_right _ _
          exact I1.fpOk hle (I1.hok.fresh hle)
        refine begins_strict3 (begins_of (b1, c1) its1) (begins_of (b2, c2) its2) (begins_of (b3, c3) its3) g1 g2 g3 fun hA hz hTI hTO y1 y2 y3 kk => iter_zip hz ?_
        have I2 : Inv X pins σ H1 { s0 with heap := hA } := I1.kept (t' := s0.toks) kk
        exact ⟨_, [s0.heap.objs.size + 5, s0.heap.objs.size + 3, s0.heap.objs.size + 4, s0.heap.objs.size, s0.heap.objs.size + 1, s0.heap.objs.size + 2], _, _, H1, rfl, I2, turn_z3 (sep_new3 lt1 lt2 lt3) (Nat.ne_of_lt lt1) (Nat.ne_of_lt (Nat.lt_of_lt_of_le lt2 (Nat.le_add_right _ 1))) (Nat.ne_of_lt (Nat.lt_of_lt_of_le lt3 (Nat.le_add_right _ 2))), ⟨hz, hTI, ⟨_, _, _, hTO⟩, SqIt.begin y1, SqIt.begin y2, SqIt.begin y3⟩, frs, q1⟩
theorem pi_z3 {X : Cx} {e1 e2 e3 : Expr} {ta : TA} {p pos tpos : Pos} {elts : List Expr} {kk : Nat} {fl : List Bool} (hfl : fl.length = 3) (hg : Gl X "zip") (hm : X.mg "zip" = none) (ha : PA X [e1, e2, e3] ta)
    (hs : starEach [e1, e2, e3] X.env = (false, eval e1 X.env) :: starEach [e2, e3] X.env := by rfl) (hpl : (backTo pos (starEach [e2, e3] X.env)).any (·.1) = false := by rfl) :
    PI X (.Tuple elts kk tpos) (.Call (.Name "zip" p) [e1, e2, e3] [] pos) (iZ X.K fl ta) := by
  refine ⟨fun pins s σ H R I h => ?_⟩
  refine Call_ (ld_blt I hg hm PyProof.Rows.boot_zip (PyProof.Rows.callWith_type1 (thn (ha.run pos pins s σ H _ I h) fun us s0 ⟨vs, H1, I1, r1, q1⟩ => ?_) hs hpl))
  obtain ⟨l, ev, el, hl, q1⟩ := q1
  subst ev
  obtain ⟨b1, b2, b3, rfl⟩ : ∃ b1 b2 b3 : Bool, fl = [b1, b2, b3] := match fl, hfl with | [_, _, _], _ => ⟨_, _, _, rfl⟩
  obtain ⟨c1, c2, c3, rfl⟩ : ∃ c1 c2 c3 : Addr, l = [c1, c2, c3] := match l, el with | [_, _, _], _ => ⟨_, _, _, rfl⟩
  cases r1 with
  | cons r_1 rr1 =>
    cases r_1
    cases rr1 with
    | cons r_2 rr2 =>
      cases r_2
      cases rr2 with
      | cons r_3 rr3 =>
        cases r_3
        cases rr3
        obtain ⟨xs1, hq1⟩ := hl (b1, c1) (by simp)
        obtain ⟨its1, rv1, g1, lt1⟩ := sq_seq I1 hq1
        obtain ⟨xs2, hq2⟩ := hl (b2, c2) (by simp)
        obtain ⟨its2, rv2, g2, lt2⟩ := sq_seq I1 hq2
        obtain ⟨xs3, hq3⟩ := hl (b3, c3) (by simp)
        obtain ⟨its3, rv3, g3, lt3⟩ := sq_seq I1 hq3
        have frs : ∀ c, c ∈ [s0.heap.objs.size + 5, s0.heap.objs.size + 3, s0.heap.objs.size + 4, s0.heap.objs.size, s0.heap.objs.size + 1, s0.heap.objs.size + 2] → FpOk X pins H1 c := fun c hcm => by
          have e : c = s0.heap.objs.size + 5 ∨ c = s0.heap.objs.size + 3 ∨ c = s0.heap.objs.size + 4 ∨ c = s0.heap.objs.size ∨ c = s0.heap.objs.size + 1 ∨ c = s0.heap.objs.size + 2 := by simpa using hcm
          have hle : s0.heap.objs.size ≤ c := by
            rcases e with q | q | q | q | q | q
            · rw [q]; exact Nat.le_add_right _ _
            · rw [q]; exact Nat.le_add_right _ _
            · rw [q]; exact Nat.le_add_right _ _
            · rw [q]; exact Nat.le_refl _
            · rw [q]; exact Nat.le_add_right _ _
            · rw [q]; exact Nat.le_add_right _ _
          exact I1.fpOk hle (I1.hok.fresh hle)
        refine zip_begins3 (begins_of (b1, c1) its1) (begins_of (b2, c2) its2) (begins_of (b3, c3) its3) g1 g2 g3 fun hA hz hTI hTO y1 y2 y3 _ kk => iter_zip (b := false) hz ?_
        have I2 : Inv X pins σ H1 { s0 with heap := hA } := I1.kept (t' := s0.toks) kk
        exact ⟨_, [s0.heap.objs.size + 5, s0.heap.objs.size + 3, s0.heap.objs.size + 4, s0.heap.objs.size, s0.heap.objs.size + 1, s0.heap.objs.size + 2], _, _, H1, rfl, I2, turn_z3 (sep_new3 lt1 lt2 lt3) (Nat.ne_of_lt lt1) (Nat.ne_of_lt (Nat.lt_of_lt_of_le lt2 (Nat.le_add_right _ 1))) (Nat.ne_of_lt (Nat.lt_of_lt_of_le lt3 (Nat.le_add_right _ 2))), ⟨hz, hTI, ⟨_, _, _, hTO⟩, SqIt.begin y1, SqIt.begin y2, SqIt.begin y3⟩, frs, q1⟩
end CZ

namespace CS
open PySem PySem.Spec PyProof.Rows L2
/-! ### rules beside the layer's -/
section
variable {X : Cx}
/-- a product, whatever the reason that it fits -/
theorem op_mulI : OpR X (binaryOp .Mult) (rI IntMulOk fun i j => .int (i * j)) := opI fun _ _ _ _ _ _ _ hc q => mul_int q hc
/-- list + list, however each is known -/
def rCatR (K : PySem.W.Frag) : R2 := fun x y H Q => ∃ l b xs zs, x = .ref l ∧ y = .ref b ∧ SqL K H l xs ∧ SqL K H b zs ∧ xs.length + zs.length ≤ sizeLine ∧ ∀ p, H p = none → Q (.ref p) (upd H p (.lst (xs ++ zs)))
theorem op_catR : OpR X (binaryOp .Add) (rCatR X.K) := by
  intro pins s σ H x y v u Q I rx ry h
  obtain ⟨l, b, xs, zs, rfl, rfl, hH, hB, hz, q⟩ := h
  cases rx
  cases ry
  obtain ⟨its, r, p1, _⟩ := I.list hH
  obtain ⟨its2, r2, p2, _⟩ := I.list hB
  obtain ⟨⟨cls, dd, data, sl⟩, ho, hc, n, hd⟩ := id p1.isList
  obtain ⟨⟨cls2, dd2, data2, sl2⟩, ho2, hc2, n2, hd2⟩ := id p2.isList
  simp only at hc hd hc2 hd2
  subst hc hd hc2 hd2
  have l1 := r.length
  have l2 := r2.length
  have ea : its.toArray ++ its2.toArray = (its ++ its2).toArray := by simp
  refine concat_meets ⟨_, ho, rfl⟩ ⟨_, ho2, rfl⟩ noFill_list_add seq_list_add PySem.F.slot_list_add PySem.F.entry_list_add (PySem.F.args_list_add_2 _ _) (list_addW l b its.toArray its2.toArray n n2 dd dd2 sl sl2 (by rw [List.size_toArray, List.size_toArray]; omega)) ⟨ho, ho2, ?_⟩
  rw [ea]
  exact ⟨.ref _, _, I.lnew (t' := s.toks) (r.append r2) (by rw [List.length_append]; omega), rfl, q _ I.fresh⟩
theorem pi_or {tg it : Expr} {w1 w2 : TI} (h1 : PI X tg it w1) (h2 : PI X tg it w2) : PI X tg it (fun σ H R => w1 σ H R ∨ w2 σ H R) :=
  ⟨fun pins s σ H R I h => h.elim (fun z => h1.run pins s σ H R I z) fun z => h2.run pins s σ H R I z⟩
end
/-! ### calls by keywords alone -/
def pick {α : Type} (js : List Nat) (l : List α) : List α := js.filterMap fun j => l[j]?
theorem vals_pick {xs : List V} {us : List Value} (r : Vals xs us) : ∀ js : List Nat, Vals (pick js xs) (pick js us)
  | [] => .nil
  | j :: js => by
    have ih := vals_pick r js
    unfold pick at ih ⊢
    cases e : xs[j]? with
    | none =>
      have e2 := r.none_of e
      rw [List.filterMap_cons_none (by rw [e]), List.filterMap_cons_none (by rw [e2])]
      exact ih
    | some x =>
      obtain ⟨u, e2, ru⟩ := r.get e
      rw [List.filterMap_cons_some (by rw [e]), List.filterMap_cons_some (by rw [e2])]
      exact .cons ru ih
theorem kbn_of {K : PySem.W.Frag} {x qual : Str} {st : Stmt} {f : Addr} {fd : FuncData} {ps : List Str} (F : Fun K x qual st f fd) (n : Nat) (ks : List Str) (js : List Nat)
    (h : ∀ (kV doc pm : Value) (an : Option Addr) (cdv ct : Value) (us ws : List Value), us.length = n → ws.length = ks.length → bindArgs (PySem.W.fnOf x qual (defArgs st) (defBody st) (defScope st) .none kV doc pm an cdv ct) ⟨us, ks.zip ws⟩ = pure (ps.zip (pick js (us ++ ws)))) :
    KBn K fd ps n ks (fun us ws => pick js (us ++ ws)) (fun vs zs => pick js (vs ++ zs)) := by
  obtain ⟨oc, od, kV, doc, pm, an, cdv, ct, osl, rfl, lk, hcd⟩ := F.ex
  exact ⟨fun s us ws _ h1 h2 => .of_eq (h kV doc pm an cdv ct us ws h1 h2), fun r1 r2 => vals_pick (r1.append r2) js⟩
section
variable {X : Cx} {CX : CXT} {k n : Nat} {f C : Addr} {fd : FuncData} {ps ks : List Str} {sp : Sp} {E : XK} {x m : Str} {p pos apos : Pos} {o : Expr} {kws : List Keyword} {ta : TE} {tk : TA} {g : List Value → List Value → List Value} {gV : List V → List V → List V}
theorem run_kw {pins : List (Addr × Obj)} {σ : L2.St} {H : Hp} {s : Shared} {Q : VK} {us ws : List Value} {vs zs : List V} (F : FnOk X.prog X.w X.K X.mg X.base CX k f fd ps sp) (hr : Room k X.A) (hb : KBn X.K fd ps n ks g gV) (hx : Passes CX X E)
    (I : Inv X pins σ H s) (r : Vals vs us) (rz : Vals zs ws) (l1 : vs.length = n) (l2 : zs.length = ks.length) (h : sp (gV vs zs) H Q E) : wpAny (model X.prog X.w) X.A (call (.ref f) us (ks.zip ws)) (EP X pins σ Q) X.xe s := by
  refine wpAny_call (codeAny_mono (F.run X.A X.stack s H ⟨us, ks.zip ws⟩ (g us ws) (gV vs zs) Q E hr I.env0 (hb.to s us ws I.kIn (r.length.symm.trans l1) (rz.length.symm.trans l2)) (hb.rel r rz) h) fun res s2 hq => ?_)
  cases res with
  | error e => exact hx pins σ H s e s2 I hq
  | ok fl =>
    cases fl with
    | ret u => exact I.after hq
    | next => exact False.elim hq
    | brk => exact False.elim hq
    | cont => exact False.elim hq
/-- f(k = v, ..) -/
def tCallKw (m : Nat) (sp : Sp) (gV : List V → List V → List V) (E : XK) (tk : TA) : TE := fun σ H Q => tk σ H fun zs H1 => zs.length = m ∧ sp (gV [] zs) H1 Q E
theorem pe_callKw (F : FnOk X.prog X.w X.K X.mg X.base CX k f fd ps sp) (hr : Room k X.A) (hg : Gl X x) (hm : X.mg x = some (.ref f)) (hk : PySem.W.keepIn X.K (.ref f) = true) (hb : KBn X.K fd ps 0 ks g gV) (hx : Passes CX X E) (hkw : PK X kws tk)
    (hall : (backToKw pos (keywordEach kws X.env)).all (·.1.isSome) = true := by rfl) (hks : (backToKw pos (keywordEach kws X.env)).filterMap (·.1) = ks := by rfl) (hdb : (x == ("__debug__" : Str)) = false := by decide)
    (hpl : ((backTo pos (starEach [] X.env)).any (·.1) || (backToKw pos (keywordEach kws X.env)).any (·.1.isNone)) = false := by rfl) :
    PE X (.Call (.Name x p) [] kws pos) (tCallKw ks.length sp gV E tk) := by
  refine ⟨fun pins s σ H Q I h => ?_⟩
  refine wpAny_Call_Name_kw (ld_glob I hg hm ?_ hdb)
  refine PySem.W.callWith_KW0 (h₀ := X.base) I.ok.mod.kin hk hall (thn (hkw.run pos pins s σ H _ I h) fun ws s2 ⟨zs, H2, I2, rz, l2, q2⟩ => ⟨I2.kIn, ?_⟩) hpl
  rw [hks]
  exact run_kw (us := []) (vs := []) F hr hb hx I2 .nil rz rfl l2 q2
/-- o.m(k = v, ..) -/
def tMethKw (C : Addr) (m : Str) (n : Nat) (sp : Sp) (gV : List V → List V → List V) (E : XK) (ta : TE) (tk : TA) : TE := fun σ H Q => ta σ H fun x H1 => ∃ a dx fs, x = .ref a ∧ H1 a = some (.ins C dx fs) ∧ fs.lookup m = none ∧
  tk σ H1 fun zs H2 => zs.length = n ∧ sp (gV [x] zs) H2 Q E
theorem pe_methKw {pl : Sem Bool} (he : PE X o ta) (c : Cls X.K C) (hm : Meth X.K C m f) (F : FnOk X.prog X.w X.K X.mg X.base CX k f fd ps sp) (hr : Room k X.A) (hb : KBn X.K fd ps 1 ks g gV) (hx : Passes CX X E) (hkw : PK X kws tk)
    (hall : (backToKw pos (keywordEach kws X.env)).all (·.1.isSome) = true := by rfl) (hks : (backToKw pos (keywordEach kws X.env)).filterMap (·.1) = ks := by rfl)
    (hpl : ((backTo pos (starEach [] X.env)).any (·.1) || (backToKw pos (keywordEach kws X.env)).any (·.1.isNone)) = false := by rfl)
    (ht : eval (.Call (.Attribute o m apos) [] kws pos) X.env = (do
      let ov ← eval o X.env
      standAt apos.atName
      let (f, first) ← holding [ov] (getMethod ov m pl)
      callWith pos f first (backTo pos (starEach [] X.env)) (backToKw pos (keywordEach kws X.env))) := by rfl) :
    PE X (.Call (.Attribute o m apos) [] kws pos) (tMethKw C m ks.length sp gV E ta tk) := by
  refine ⟨fun pins s σ H Q I h => ?_⟩
  refine PySem.W.methodCall_KW (pl := pl) (thn (he.run pins s σ H _ I h) fun u s1 ⟨x, H1, I1, rx, a, dx, fs, ex, ea, l, q⟩ => ?_) ht
  subst ex
  obtain rfl : u = Value.ref a := rx
  refine getmeth_ok I1 ea c hm l ?_
  refine PySem.W.callWith_KW0 (first := [.ref a]) (h₀ := X.base) I.ok.mod.kin hm.kp hall (thn (hkw.run pos pins s1 σ H1 _ I1 q) fun ws s2 ⟨zs, H2, I2, rz, l2, q2⟩ => ⟨I2.kIn, ?_⟩) hpl
  rw [hks]
  exact run_kw (us := [.ref a]) (vs := [.ref a]) F hr hb hx I2 (.cons rfl .nil) rz rfl l2 q2
end
/-! ### heaps that grow -/
abbrev Ex (H H2 : Hp) : Prop := Evl.Ex H H2
theorem exr {H : Hp} : Ex H H := fun _ _ h => h
theorem exn {H : Hp} {p : Addr} {o : HO} (h : H p = none) : Ex H (upd H p o) := Evl.Ex.new h
theorem SqK.mono {K : PySem.W.Frag} {H H2 : Hp} {p : Bool × Addr} {xs : List V} (e : Ex H H2) (h : CZ.SqK K H p xs) : CZ.SqK K H2 p xs := by
  obtain ⟨b, a⟩ := p
  cases b
  · exact Evl.ex_l e h
  · exact Evl.ex_t e h
/-- a comprehension whose element and tests leave all that stood: out i is what stands behind i turns -/
theorem lc_out {J : It} {n : Nat} {G : Hp → Prop} {Y : Nat → Hp → V → Hp → Prop} (w : Walk J n G Y) {g : TG} {tt : TT} {te : TE} {vs : List Nat} {σ : L2.St} {H1 : Hp} {D : Addr} {Qd : Hp → Prop} (out : Nat → List V) (h0 : out 0 = []) (hD : H1 D = none)
    (hlen : ∀ i, i < n → (out i).length < sizeLine) (hG : ∀ H, Ex H1 H → G H)
    (hs : ∀ i x H H2 (Nx : Hp → Prop), i < n → Ex H1 H → H D = some (.lst (out i)) → Y i H x H2 →
      (∀ y H5, Ex H H5 → out (i + 1) = out i ++ [y] → ∃ acc, H5 D = some (.lst acc) ∧ acc.length < sizeLine ∧ Nx (upd H5 D (.lst (acc ++ [y])))) → (∀ H4, Ex H H4 → out (i + 1) = out i → Nx H4) →
      g x (wipe σ vs) H2 fun σ2 H3 => wipe σ2 vs = wipe σ vs ∧ tt σ2 H3 fun b H4 => if b = true then te σ2 H4 fun y H5 => ∃ acc, H5 D = some (.lst acc) ∧ acc.length < sizeLine ∧ Nx (upd H5 D (.lst (acc ++ [y]))) else Nx H4)
    (hd : ∀ H, Ex H1 H → H D = some (.lst (out n)) → Qd H) :
    ∃ W : Nat → Nat → Hp → Prop, (∃ m, W 0 m (upd H1 D (.lst []))) ∧ ∀ i m H, W i m H →
      (J.stop i H ∧ Qd H) ∨ (J.go i H ∧ ∃ Nx : Hp → Prop, (∀ H2, Nx H2 → ∃ m2, m2 < m ∧ W (i + 1) m2 H2) ∧ ∀ x H2, J.yld i H x H2 → g x (wipe σ vs) H2 fun σ2 H3 => wipe σ2 vs = wipe σ vs ∧ tt σ2 H3 fun b H4 =>
        if b = true then te σ2 H4 fun y H5 => ∃ acc, H5 D = some (.lst acc) ∧ acc.length < sizeLine ∧ Nx (upd H5 D (.lst (acc ++ [y]))) else Nx H4) := by
  refine lc_it w (fun i H => Ex H1 H ∧ H D = some (.lst (out i))) ⟨exn hD, by rw [upd_same, h0]⟩ (fun i H _ p => hG H p.1) (fun i x H H2 hi p y => ?_) (fun H p => hd H p.1 p.2)
  refine hs i x H H2 _ hi p.1 p.2 y (fun y2 H5 e eo => ⟨out i, e D _ p.2, hlen i hi, fun b o q => ?_, by rw [upd_same, eo]⟩) (fun H4 e eo => ⟨fun b o q => e b o (p.1 b o q), by rw [eo]; exact e D _ p.2⟩)
  rw [upd_ne (ne_of_none q hD)]
  exact e b o (p.1 b o q)
/-- .. whose list is known: vals -/
theorem lc_vals {J : It} {n : Nat} {G : Hp → Prop} {Y : Nat → Hp → V → Hp → Prop} (w : Walk J n G Y) {g : TG} {te : TE} {vs : List Nat} {σ : L2.St} {H1 : Hp} {D : Addr} {Qd : Hp → Prop} (vals : List V) (hn : vals.length = n) (hl : n ≤ 10000000) (hD : H1 D = none)
    (hG : ∀ H, Ex H1 H → G H)
    (hs : ∀ i x H H2 (R : VK), i < n → Ex H1 H → Y i H x H2 → (∀ y H5, Ex H H5 → vals[i]? = some y → R y H5) → g x (wipe σ vs) H2 fun σ2 H3 => wipe σ2 vs = wipe σ vs ∧ te σ2 H3 R)
    (hg : ∀ x σ2 H2 (R R2 : L2.St → Hp → Prop), (∀ σ3 H3, R σ3 H3 → R2 σ3 H3) → g x σ2 H2 R → g x σ2 H2 R2)
    (hd : ∀ H, Ex H1 H → H D = some (.lst vals) → Qd H) :
    ∃ W : Nat → Nat → Hp → Prop, (∃ m, W 0 m (upd H1 D (.lst []))) ∧ ∀ i m H, W i m H →
      (J.stop i H ∧ Qd H) ∨ (J.go i H ∧ ∃ Nx : Hp → Prop, (∀ H2, Nx H2 → ∃ m2, m2 < m ∧ W (i + 1) m2 H2) ∧ ∀ x H2, J.yld i H x H2 → g x (wipe σ vs) H2 fun σ2 H3 => wipe σ2 vs = wipe σ vs ∧ tYes σ2 H3 fun b H4 =>
        if b = true then te σ2 H4 fun y H5 => ∃ acc, H5 D = some (.lst acc) ∧ acc.length < sizeLine ∧ Nx (upd H5 D (.lst (acc ++ [y]))) else Nx H4) := by
  refine lc_out w (fun i => vals.take i) rfl hD (fun i hi => ?_) hG (fun i x H H2 Nx hi e hDi y kA _ => ?_) (fun H e h => hd H e ?_)
  · rw [List.length_take]
    exact Nat.lt_of_le_of_lt (Nat.le_trans (Nat.min_le_right _ _) (by rw [hn]; exact hl)) (by decide)
  · refine hg _ _ _ _ _ (fun σ3 H3 q => ⟨q.1, ?_⟩) (hs i x H H2 (fun y H5 => ∃ acc, H5 D = some (.lst acc) ∧ acc.length < sizeLine ∧ Nx (upd H5 D (.lst (acc ++ [y])))) hi e y fun y2 H5 e5 ev => kA y2 H5 e5 ?_)
    · exact q.2
    · rw [List.take_add_one, ev]
      rfl
  · rw [h, List.take_of_length_le (by rw [hn]; exact Nat.le_refl _)]
theorem gmono_name {i : Nat} : ∀ x σ2 H2 (R R2 : L2.St → Hp → Prop), (∀ σ3 H3, R σ3 H3 → R2 σ3 H3) → gName i x σ2 H2 R → gName i x σ2 H2 R2 := fun _ _ _ _ _ h q => h _ _ q
theorem gmono_nil : ∀ vs σ2 H2 (R R2 : L2.St → Hp → Prop), (∀ σ3 H3, R σ3 H3 → R2 σ3 H3) → gNil vs σ2 H2 R → gNil vs σ2 H2 R2 := fun _ _ _ _ _ h q => ⟨q.1, h _ _ q.2⟩
theorem gmono_cons {t : TG} {u : TGs} (ht : ∀ x σ2 H2 (R R2 : L2.St → Hp → Prop), (∀ σ3 H3, R σ3 H3 → R2 σ3 H3) → t x σ2 H2 R → t x σ2 H2 R2) (hu : ∀ x σ2 H2 (R R2 : L2.St → Hp → Prop), (∀ σ3 H3, R σ3 H3 → R2 σ3 H3) → u x σ2 H2 R → u x σ2 H2 R2) :
    ∀ vs σ2 H2 (R R2 : L2.St → Hp → Prop), (∀ σ3 H3, R σ3 H3 → R2 σ3 H3) → gCons t u vs σ2 H2 R → gCons t u vs σ2 H2 R2 := fun vs σ2 H2 R R2 h q => by
  obtain ⟨v, r, e, q⟩ := q
  exact ⟨v, r, e, ht _ _ _ _ _ (fun σ3 H3 z => hu _ _ _ _ _ h z) q⟩
theorem gmono_tup {K : PySem.W.Frag} {n : Nat} {t : TGs} (ht : ∀ x σ2 H2 (R R2 : L2.St → Hp → Prop), (∀ σ3 H3, R σ3 H3 → R2 σ3 H3) → t x σ2 H2 R → t x σ2 H2 R2) :
    ∀ v σ2 H2 (R R2 : L2.St → Hp → Prop), (∀ σ3 H3, R σ3 H3 → R2 σ3 H3) → gTup K n t v σ2 H2 R → gTup K n t v σ2 H2 R2 := fun v σ2 H2 R R2 h q => by
  obtain ⟨a, xs, e, h1, h2, q⟩ := q
  exact ⟨a, xs, e, h1, h2, ht _ _ _ _ _ h q⟩
/-! ### a list or a tuple walked -/
def ItS (K : PySem.W.Frag) (p : Bool × Addr) : It := if p.1 = true then Itt K p.2 else Itl K p.2
def iSeq (K : PySem.W.Frag) (tl : TE) : TI := fun σ H R => tl σ H fun x H1 => ∃ p : Bool × Addr, x = .ref p.2 ∧ (∃ xs, CZ.SqK K H1 p xs) ∧ R (ItS K p) H1
theorem pi_seq {X : Cx} {tg l : Expr} {tl : TE} (hl : PE X l tl) : PI X tg l (iSeq X.K tl) := by
  refine ⟨fun pins s σ H R I h => ?_⟩
  refine thn (hl.run pins s σ H _ I h) fun v s1 ⟨x, H1, I1, r1, q1⟩ => ?_
  obtain ⟨⟨b, a⟩, ex, ⟨xs, hq⟩, q⟩ := q1
  subst ex
  cases r1
  obtain ⟨its, rv, g, lt⟩ := CZ.sq_seq I1 hq
  have fp : ∀ c ∈ [s1.heap.objs.size], FpOk X pins H1 c := fun c hc => by
    have e : c = s1.heap.objs.size := by simpa using hc
    rw [e]
    exact I1.fpOk (Nat.le_refl _) (I1.hok.fresh (Nat.le_refl _))
  refine (CZ.begins_of (b, a) its).iter _ _ _ _ s1 _ g ?_
  have I2 : Inv X pins σ H1 { s1 with heap := s1.heap.push (CZ.itO (b, a)) } := I1.kept (t' := s1.toks) fun c o e => Heap.get?_push_of_some _ e
  cases b
  · exact ⟨_, [s1.heap.objs.size], _, _, H1, rfl, I2, turn_list a _, ⟨_, Heap.get?_push_size _ rfl, rfl, rfl⟩, fp, q⟩
  · exact ⟨_, [s1.heap.objs.size], _, _, H1, rfl, I2, turn_tuple a _, ⟨_, Heap.get?_push_size _ rfl, rfl, rfl⟩, fp, q⟩
theorem walk_seq {K : PySem.W.Frag} {p : Bool × Addr} {xs : List V} : Walk (ItS K p) xs.length (fun H => CZ.SqK K H p xs) (YAt xs) := by
  obtain ⟨b, a⟩ := p
  cases b
  · exact walk_list
  · exact walk_tup
theorem itt {c : Bool} {A B : Prop} (h : c = true) (a : A) : if c = true then A else B := by rw [if_pos h]; exact a
theorem itf {c : Bool} {A B : Prop} (h : c = false) (b : B) : if c = true then A else B := by rw [h, if_neg Bool.false_ne_true]; exact b
theorem map_get {α : Type} {f : α → V} {l : List α} {i : Nat} {x : V} (h : (l.map f)[i]? = some x) : ∃ n, l[i]? = some n ∧ x = f n := by
  rw [List.getElem?_map] at h
  cases e : l[i]? with
  | none => rw [e] at h; cases h
  | some n => rw [e] at h; exact ⟨n, rfl, (Option.some.inj h).symm⟩
end CS

namespace CE
open PySem PySem.Spec PyProof.Rows L2 CZ
/-! ### enumerate over a list or a tuple -/
theorem enumO_new {v : Value} {oo : Obj} {Hq : Heap → Prop} (bg : Begins v oo Hq) :
    Meets (Builtin.«enumerate.__new__» ⟨[.type "enumerate", v], []⟩) (fun _ R t => Hq t.heap ∧
      R (.ok (.ret (.ref (t.heap.push oo).objs.size))) { t with heap := (t.heap.push oo).push { cls := .type "enumerate", data := .fields #[.none, .bool false, .ref t.heap.objs.size, rawInt 0, .none, .none] } }) :=
  .of_wp fun pg wo Ar R t hyp => by
    obtain ⟨hh, gg, dd, tt, oq⟩ := t
    obtain ⟨start, goal⟩ := hyp
    have es := PySem.sub_enumerate
    have go1 : ∀ {A2 : Around} {E2 : Value → Shared → Prop} {Q2 : Value → Shared → Prop}, Q2 (.ref hh.objs.size) ⟨hh.push oo, gg, dd, tt, oq⟩ → wpAny (model pg wo) A2 (pyIter v) Q2 E2 ⟨hh, gg, dd, tt, oq⟩ :=
      fun z => bg.iter pg wo _ _ ⟨hh, gg, dd, tt, oq⟩ _ start z
    wp_walk using go1
    refine wpAny_stack_any fun stk => wpAny_pure ?_
    split
    · rename_i cc _ _ _ _ _
      cases (cc == Value.type "enumerate")
      all_goals
        wp_walk using go1
        exact ⟨_, rfl, goal⟩
    · wp_walk using go1
      exact ⟨_, rfl, goal⟩
theorem enum_of {pg : Program} {wo : World} {Ar : Around} {Ex1 : Value → Shared → Prop} {t : Shared} {v : Value} {oo : Obj} {Hq : Heap → Prop} {Qe : Value → Shared → Prop} (bg : Begins v oo Hq) (start : Hq t.heap)
    (goal : ∀ hN, IsEnum hN (t.heap.objs.size + 1) t.heap.objs.size 0 .none → hN.get? t.heap.objs.size = some oo → (∀ c ob, t.heap.get? c = some ob → hN.get? c = some ob) → Qe (.ref (t.heap.objs.size + 1)) { t with heap := hN }) :
    wpAny (model pg wo) Ar (call (.type "enumerate") [v]) Qe Ex1 t := by
  refine callType_new F.called_enumerate (by decide) (F.typeCall_enumerate_1 _) (F.newCall_enumerate_1 _) (fun ob => F.args_object_init_2 ob _) F.entry_enumerate_new (enumO_new bg) ⟨start, ?_⟩
  have size1 : (t.heap.push oo).objs.size = t.heap.objs.size + 1 := Heap.size_push ..
  have isE : IsEnum ((t.heap.push oo).push { cls := .type "enumerate", data := .fields #[.none, .bool false, .ref t.heap.objs.size, rawInt 0, .none, .none] }) (t.heap.objs.size + 1) t.heap.objs.size 0 .none := by
    have at1 := Heap.get?_push_size (t.heap.push oo) (o := { cls := .type "enumerate", data := .fields #[.none, .bool false, .ref t.heap.objs.size, rawInt 0, .none, .none] }) rfl
    rw [size1] at at1
    exact at1
  show _ ∧ _
  rw [size1]
  exact ⟨⟨_, isE, rfl⟩, goal _ isE (Heap.get?_push_of_some _ (Heap.get?_push_size _ bg.free)) fun c ob z => Heap.get?_push_of_some _ (Heap.get?_push_of_some _ z)⟩
/-- what stands at p, each item in a new pair -/
def ItE (K : PySem.W.Frag) (p : Bool × Addr) : It :=
  ⟨fun i H => ∃ (xs : List V) (x : V), SqK K H p xs ∧ xs[i]? = some x, fun i H v H2 => ∃ T x, v = .ref T ∧ H T = none ∧ H2 = upd H T (.tup [.int (i : Nat), x]) ∧ ∀ xs, SqK K H p xs → xs[i]? = some x, fun i H => ∃ xs : List V, SqK K H p xs ∧ xs.length = i⟩
theorem turn_e {P : Program} {w : World} {K : PySem.W.Frag} {elts : List Expr} {kk : Nat} {tpos : Pos} {en it : Addr} {p : Bool × Addr} (n1 : p.2 ≠ it) (n2 : en ≠ it) (n3 : en ≠ p.2) :
    Turn P w K (.Tuple elts kk tpos) (ItE K p) [en, it] en (fun i h => (∃ old, IsEnum h en it ((i : Nat) : Int) old) ∧ SqIt h it p i) where
  mem := by simp
  obj := fun i h st c hc => by
    obtain ⟨⟨old, ie⟩, si⟩ := st
    have e : c = en ∨ c = it := by simpa using hc
    rcases e with q | q
    · rw [q]; exact ⟨_, ie, fun v q => nomatch q⟩
    · rw [q]; exact si.obj
  keep := fun i h h2 st k => by
    obtain ⟨⟨old, ie⟩, si⟩ := st
    exact ⟨⟨old, k en (by simp) _ ie⟩, si.at fun o q => k it (by simp) o q⟩
  item := by
    intro X hP hw hK hc i pins s σ H E I hf st hg
    subst hP hw hK
    obtain ⟨⟨old, ie⟩, si⟩ := st
    obtain ⟨xs, x, hq, hx⟩ := hg
    obtain ⟨its, rv, sq, _⟩ := sq_seq I hq
    obtain ⟨u, hu, ru⟩ := rv.get hx
    have gu : its.toArray[i]? = some u := by simpa using hu
    have lu : i < its.toArray.size := by
      have := (List.getElem?_eq_some_iff.mp hu).1
      simpa using this
    have enl : en < s.heap.objs.size := Heap.lt_size ie
    have itl : it < s.heap.objs.size := by
      obtain ⟨_, q, _⟩ := si.obj
      exact Heap.lt_size q
    refine PySem.wpAny_pyNext_enum_itemD (draws_of (A := X.A.in1) (I.ok.hd hc) it p n1 its) ie ⟨si, sq⟩ lu n2 (by simp [n2, n3]) fun x1 hA tk hx1 out ⟨si2, _⟩ hT hsz hk => ?_
    obtain rfl : u = x1 := Option.some.inj (gu.symm.trans hx1)
    refine ⟨_, rfl, wpAny_letOwnedTupleGo_enum (s := { s with heap := hA, toks := tk + 1 }) out fun hB isB sb => ?_⟩
    replace sb : Heap.SameBut en hA hB := sb
    have hT2 : hB.get? s.heap.objs.size = some { cls := .type "tuple", data := .seq #[.int i tk, u] } := (sb.2 _ (Nat.ne_of_gt enl)).trans hT
    have made : ObjOk X.prog X.w (upd H s.heap.objs.size (.tup [.int (i : Nat), x])) hB s.heap.objs.size (.tup [.int (i : Nat), x]) := ⟨by show 2 ≤ sizeLine; decide, [.int i tk, u], .cons ⟨_, rfl⟩ (.cons ru .nil), ⟨_, hT2, rfl, _, rfl⟩⟩
    have I1 : Inv X pins σ (upd H s.heap.objs.size (.tup [.int (i : Nat), x])) { s with heap := hB, toks := tk + 1 } :=
      I.turnedNew (t' := tk + 1) (ch := [en, it]) (fun c ob hb q => (sb.2 c (fun z => hb (by simp [z]))).trans (hk c ob (fun z => hb (by simp [z])) (fun z => hb (by simp [z])) q)) hf (Nat.le_refl _) made
    refine ⟨.ref s.heap.objs.size, _, I1, rfl, ⟨_, x, rfl, I.hok.fresh (Nat.le_refl _), rfl, fun ys hy => by rw [sq_inj I hy hq]; exact hx⟩, ⟨⟨u, ?_⟩, si2.at fun o q => (sb.2 it n2.symm).trans q⟩, fun c hcm => ?_⟩
    · have next : ((i + 1 : Nat) : Int) = (i : Int) + 1 := by omega
      rw [next]
      exact isB
    · have small : c < s.heap.objs.size := by
        have e : c = en ∨ c = it := by simpa using hcm
        rcases e with q | q
        · rw [q]; exact enl
        · rw [q]; exact itl
      rw [upd_ne (Nat.ne_of_lt small)]
      exact (hf c hcm).1
  done := by
    intro X hP hw hK hc i pins s σ H E I hf st hg
    subst hP hw hK
    obtain ⟨⟨old, ie⟩, si⟩ := st
    obtain ⟨xs, hq, hx⟩ := hg
    obtain ⟨its, rv, sq, _⟩ := sq_seq I hq
    have li : its.toArray.size = i := by
      have := rv.length
      simp
      omega
    have dr := draws_of (prog := X.prog) (w := X.w) (A := X.A.in1) (I.ok.hd hc) it p n1 its
    rw [li] at dr
    exact PySem.wpAny_pyNext_enum_endD dr ie ⟨si, sq⟩ fun hA eb => ⟨rfl, I.turnedL (t' := s.toks) (ch := [en, it]) (fun c ob hb q => eb c ob (fun z => hb (by simp [z])) q) hf⟩
  self := fun A i s Q E st h => let ⟨⟨_, ie⟩, _⟩ := st; wpAny_pyIter_enum ie h
theorem walk_e {K : PySem.W.Frag} {p : Bool × Addr} {xs : List V} : Walk (ItE K p) xs.length (fun H => SqK K H p xs) (YPair (fun i => some (.int (i : Nat))) (fun i => xs[i]?)) :=
  ⟨fun i _ hi q => ⟨xs, xs[i], q, by simp [hi]⟩, fun _ q => ⟨xs, q, rfl⟩, fun i H v H2 _ q y => by
    obtain ⟨T, x, h1, h2, h3, h4⟩ := y
    exact ⟨T, _, x, h1, h2, h3, rfl, h4 xs q⟩⟩
/-- enumerate(e), e a list or a tuple -/
def iE (K : PySem.W.Frag) (ta : TA) : TI := fun σ H R => ta σ H fun vs H1 => ∃ p : Bool × Addr, vs = [.ref p.2] ∧ (∃ xs, SqK K H1 p xs) ∧ R (ItE K p) H1
theorem pi_e {X : Cx} {e : Expr} {ta : TA} {po pos tpos : Pos} {elts : List Expr} {kk : Nat} (hg : Gl X "enumerate") (hm : X.mg "enumerate" = none) (ha : PA X [e] ta) (hs : starEach [e] X.env = [(false, eval e X.env)] := by rfl) :
    PI X (.Tuple elts kk tpos) (.Call (.Name "enumerate" po) [e] [] pos) (iE X.K ta) := by
  refine ⟨fun pins s σ H R I h => ?_⟩
  refine Call_ (ld_blt I hg hm boot_enumerate (PyProof.Rows.callWith_type1 (thn (ha.run pos pins s σ H _ I h) fun us s0 ⟨vs, H1, I1, r1, q1⟩ => ?_) hs rfl))
  obtain ⟨p, ev, ⟨xs, hq⟩, q1⟩ := q1
  subst ev
  cases r1 with
  | cons r rr =>
    cases rr
    cases r
    obtain ⟨its, rv, sq, lt⟩ := sq_seq I1 hq
    refine enum_of (begins_of p its) sq fun hN ie io kk2 => wpAny_pyIter_enum ie ?_
    have I2 : Inv X pins σ H1 { s0 with heap := hN } := I1.kept (t' := s0.toks) kk2
    refine ⟨s0.heap.objs.size + 1, [s0.heap.objs.size + 1, s0.heap.objs.size], _, _, H1, rfl, I2, turn_e (Nat.ne_of_lt lt) (Nat.succ_ne_self _) (Nat.ne_of_gt (Nat.lt_succ_of_lt lt)), ⟨⟨.none, ie⟩, SqIt.begin io⟩, fun c hc => ?_, q1⟩
    have le : s0.heap.objs.size ≤ c := by
      have e : c = s0.heap.objs.size + 1 ∨ c = s0.heap.objs.size := by simpa using hc
      rcases e with z | z
      · rw [z]; exact Nat.le_add_right _ _
      · rw [z]; exact Nat.le_refl _
    exact I1.fpOk le (I1.hok.fresh le)
end CE

namespace CL
open PySem PySem.Spec PyProof.Rows L2
/-! ### set(l) of a list of ints -/
section
variable {pg : Program} {wo : World} {Ar : Around} {Ee : Value → Shared → Prop} {t : Shared}
set_option maxRecDepth 100000 in
set_option maxHeartbeats 3200000 in
theorem set_of_list {l : Addr} {its : Array Value} (ns : List Int) {Qe : Value → Shared → Prop} (calm : Ar.handled = none) (isl : t.heap.IsList l its) (intsA : IntsAre its.toList ns) (few : ns.length + 1 < scanBound)
    (goal : ∀ (hN : Heap) (k c : Nat), SetR wo hN t.heap.objs.size (fun j => decide (j ∈ ns)) c → c ≤ ns.length → (∀ b ob, t.heap.get? b = some ob → hN.get? b = some ob) → Qe (.ref t.heap.objs.size) { t with heap := hN, toks := k }) :
    wpAny (model pg wo) Ar (call (.type "set") [.ref l]) Qe Ee t := by
  have len : its.size = ns.length := by
    have z := IntsAre.length intsA
    rw [Array.length_toList] at z
    exact z
  obtain ⟨cc, tail, mro⟩ := PySem.F.called_set.mro
  have made := PySem.F.called_set.made
  have sub := PySem.F.called_set.sub
  refine wpAny_call (codeAny_of_tree ?_)
  show wpAny _ _ (callAny (.type "set") _) _ _ _
  refine wpAny_pure ⟨Code.quiet_builtin _ (by decide +kernel), codeAny_builtin PySem.F.entry_type_call ?_⟩
  rw [Around.under_plain (weight_type_call_type "set" [.ref l] []) rfl]
  have noType := PySem.F.called_set.notType
  have creates := PySem.F.called_set.canCreate
  have checked := PySem.F.typeCall_set_1 (.ref l)
  repeat (any_goals (first | assumption | wp_step))
  refine codeAny_mono (code_set_led1 (.ref l) (E := Ee) (Q₁ := fun ob t1 => ob = .ref t.heap.objs.size ∧ t1 = { t with heap := t.heap.push { cls := .type "set", dict := none, data := .set #[] 0 (.fresh 0 0 (!wo.params.followText "set-order")) } }) ⟨rfl, rfl⟩) fun r t1 hr => ?_
  cases r with
  | error e => exact hr
  | ok fl =>
    cases fl with
    | ret ob =>
      obtain ⟨rfl, rfl⟩ := hr
      have hS : (t.heap.push { cls := .type "set", dict := none, data := .set #[] 0 (.fresh 0 0 (!wo.params.followText "set-order")) }).get? t.heap.objs.size = some { cls := .type "set", dict := none, data := .set #[] 0 (.fresh 0 0 (!wo.params.followText "set-order")) } := Heap.get?_push_size _ rfl
      have tS : Shared.TypeIs { t with heap := t.heap.push { cls := .type "set", dict := none, data := .set #[] 0 (.fresh 0 0 (!wo.params.followText "set-order")) } } (.ref t.heap.objs.size) "set" := ⟨_, hS, rfl⟩
      have ini := PySem.F.called_set.init.lookup
      have bnd := PySem.F.called_set.init.bind (.ref t.heap.objs.size)
      repeat (any_goals (first | assumption | wp_step))
      refine codeAny_mono (codeAny_call_builtin (R := wants (fun r t2 => r = .none ∧ ∃ hN k c, t2 = { t with heap := hN, toks := k } ∧ SetR wo hN t.heap.objs.size (fun j => decide (j ∈ ns)) c ∧ c ≤ ns.length ∧
          (∀ b ob, t.heap.get? b = some ob → hN.get? b = some ob)) Ee) PySem.F.called_set.init.plain PySem.F.entry_set_init (check_set_init_1 tS ?_)) fun r2 t2 hr2 => ?_
      · obtain ⟨ol, hol, hcl, nl, hdl⟩ := id isl
        obtain ⟨ocls, odict, odata, oslots⟩ := ol
        simp only at hcl hdl
        subst hcl
        subst hdl
        have hol2 : (t.heap.push { cls := .type "set", dict := none, data := .set #[] 0 (.fresh 0 0 (!wo.params.followText "set-order")) }).get? l = some { cls := .type "list", dict := odict, data := .seq its nl, slots := oslots } := Heap.get?_push_of_some _ hol
        have s1 := PySem.F.sub_list_set
        have s2 := PySem.F.sub_list_frozenset
        have nd : (Value.type "list" == Value.type "dict") = false := by decide
        have isl2 : (t.heap.push { cls := .type "set", dict := none, data := .set #[] 0 (.fresh 0 0 (!wo.params.followText "set-order")) }).IsList l its := ⟨_, hol2, rfl, nl, rfl⟩
        unfold Builtin.«set.__init__» noKeywords Builtin.Frozenset.updateFrom
        generalize hPI : pyIter = PIt
        wp_walk
        subst hPI
        refine wpAny_pyIter_list isl2 ?_
        refine wpAny_bind (wpAny_runValue ?_)
        have lS : l < t.heap.objs.size := Heap.lt_size hol
        have calm3 : Ar.in1.in1.in1.handled = none := by simp [calm]
        have neI : l ≠ (t.heap.push { cls := .type "set", dict := none, data := .set #[] 0 (.fresh 0 0 (!wo.params.followText "set-order")) }).objs.size := by
          rw [Heap.size_push]
          exact Nat.ne_of_lt (Nat.lt_succ_of_lt lS)
        have notF : t.heap.objs.size ∉ [(t.heap.push { cls := .type "set", dict := none, data := .set #[] 0 (.fresh 0 0 (!wo.params.followText "set-order")) }).objs.size, l] := by
          rw [Heap.size_push]
          simp only [List.mem_cons, List.not_mem_nil, or_false, not_or]
          exact ⟨Nat.ne_of_lt (Nat.lt_succ_self _), Nat.ne_of_gt lS⟩
        have vals : ∀ (i : Nat) (v : Value), its[i]? = some v → ∃ k u, ns[i]? = some k ∧ v = .int k u := fun i v hv => by
          have hi : i < ns.length := by
            rw [← len]
            exact (Array.getElem?_eq_some_iff.mp hv).1
          obtain ⟨u, e⟩ := PyProof.Rows.IntsAre.int_at intsA i v (by rw [Array.getElem?_toList]; exact hv)
          refine ⟨ns[i], u, List.getElem?_eq_getElem hi, ?_⟩
          rw [e, List.getD_eq_getElem?_getD, List.getElem?_eq_getElem hi] <;> rfl
        refine set_update_ints ((Walks.list calm3 _ l neI its).toS) t.heap.objs.size notF ns len few vals (its.size - 0) 0 _ (by omega) (Nat.zero_le _) ⟨⟨_, Heap.get?_push_size _ rfl, rfl, rfl⟩, (isl2.push _)⟩ ?first ?last
        case first =>
          exact ⟨0, Nat.le_refl 0, setR_new_at (Heap.get?_push_of_some _ hS)⟩
        case last =>
          intro t3 c3 mv hc3 hS3
          obtain ⟨hN, g3, d3, k3, os3⟩ := t3
          obtain rfl : g3 = t.gens := mv.gens
          obtain rfl : d3 = t.drawn := mv.drawn
          obtain rfl : os3 = t.os := mv.os
          show wpAny _ _ _ _ _ _
          refine wpAny_pure ?_
          show wpAny _ _ (ret Value.none) _ _ _
          rw [len] at hc3
          refine wpAny_pure ⟨rfl, hN, k3, c3, rfl, hS3, hc3, fun b ob e => ?_⟩
          have b0 : b < t.heap.objs.size := Heap.lt_size e
          have b2 : b ≠ (t.heap.push { cls := .type "set", dict := none, data := .set #[] 0 (.fresh 0 0 (!wo.params.followText "set-order")) }).objs.size := by
            rw [Heap.size_push]
            exact Nat.ne_of_lt (Nat.lt_succ_of_lt b0)
          exact mv.heap b ob (by simp only [List.mem_cons, List.not_mem_nil, or_false, not_or]; exact ⟨Nat.ne_of_lt b0, b2⟩) (Heap.get?_push_of_some _ (Heap.get?_push_of_some _ e))
      · cases r2 with
        | error e => exact hr2
        | ok fl2 =>
          cases fl2 with
          | ret r =>
            obtain ⟨rfl, hN, k, c2, rfl, hS2, hc2, hk2⟩ := hr2
            repeat (any_goals (first | assumption | wp_step))
            exact goal _ _ _ hS2 hc2 hk2
          | _ => exact hr2.elim
    | _ => exact hr.elim
end
/-- set(l), l a list of ints -/
def rSetI (K : PySem.W.Frag) (w : World) : List V → Hp → VK → Prop := fun vs H Q => ∃ (a : Addr) (ns : List Int), vs = [V.ref a] ∧ SqL K H a (ns.map V.int) ∧ ns.length + 1 < scanBound ∧ ∀ p c, H p = none → c ≤ ns.length → Q (.ref p) (upd H p (SetO w p (fun j => decide (j ∈ ns)) c))
theorem call_setI {X : Cx} (hc : X.calm = true) : CallR X (.type "set") (rSetI X.K X.w) := by
  intro pins s σ H vs us Q I r h
  obtain ⟨a, ns, rfl, hl, few, q⟩ := h
  rw [Vals.ref1 r]
  obtain ⟨its, rv, pl, _⟩ := I.list hl
  refine set_of_list ns (I.ok.hd hc) pl.isList (by rw [List.toList_toArray]; exact intsAre_of rv) few fun hN k c new hcl keep => ?_
  exact ⟨.ref _, upd H s.heap.objs.size (SetO X.w s.heap.objs.size (fun j => decide (j ∈ ns)) c), I.laid (t' := k) keep (Nat.le_refl _) (setO_new new), rfl, q _ c (I.hok.fresh (Nat.le_refl _)) hcl⟩
end CL

namespace CS
open PySem PySem.Spec PyProof.Rows L2
/-! ### more rules beside the layer's -/
section
variable {X : Cx}
/-- o.f as a target -/
def gFld (K : PySem.W.Frag) (to : TE) (f : Str) : TG := fun v σ H Q => to σ H fun x H1 => ∃ a C dx fs, x = .ref a ∧ H1 a = some (.ins C dx fs) ∧ Cls K C ∧ NoAttr K C f ∧ fs.length < 1000 ∧ Q σ (upd H1 a (.ins C dx (putF f v fs)))
theorem pg_fld {o : Expr} {f : Str} {pos : Pos} {to : TE} (ho : PE X o to) : PG X (.Attribute o f pos) (gFld X.K to f) := by
  refine ⟨fun pins s σ H v u Q I r h => ?_⟩
  rw [assign_Attribute]
  refine wpAny_bind (wpAny_holding (thn (ho.run pins s σ H _ I h) fun ov s1 ⟨x, H1, I1, r1, a, C, dx, fs, ex, ea, c, n, l, q⟩ => ?_))
  subst ex
  obtain rfl : ov = Value.ref a := r1
  refine wpAny_bind (wpAny_standAt (wpAny_bind (wpAny_holding (setattr_ok I1 ea c n l r fun s3 I3 => ?_))))
  exact wpAny_release ⟨σ, _, I3, q⟩
theorem pe_fldK {e : Expr} {f : Str} {pos : Pos} {ta : TE} (K : PySem.W.Frag) (hk : X.K = K) (he : PE X e ta) (hb : attributeBase e f X.env (eval e X.env) = eval e X.env) : PE X (.Attribute e f pos) (tFld K ta f) := by
  subst hk
  exact pe_fld he hb
def rLenQ (K : PySem.W.Frag) : List V → Hp → VK → Prop := fun xs H Q => ∃ p ys, xs = [.ref p] ∧ (SqL K H p ys ∨ SqT K H p ys) ∧ Q (.int ys.length) H
def rListQ (K : PySem.W.Frag) : List V → Hp → VK → Prop := fun xs H Q => ∃ p ys, xs = [.ref p] ∧ (SqL K H p ys ∨ SqT K H p ys) ∧ ∀ l, H l = none → Q (.ref l) (upd H l (.lst ys))
def rTupleQ (K : PySem.W.Frag) : List V → Hp → VK → Prop := fun xs H Q => ∃ p ys, xs = [.ref p] ∧ ((SqL K H p ys ∧ ∀ l, H l = none → Q (.ref l) (upd H l (.tup ys))) ∨ (SqT K H p ys ∧ Q (.ref p) H))
/-- // by a divisor of either sign -/
def CDivNW (_ j : Int) : Prop := j ≠ 0 ∧ j.natAbs.log2 < 9000
theorem op_fdivNW : OpR X (binaryOp .FloorDiv) (rI CDivNW fun i j => .int (i.fdiv j)) := opI fun _ _ _ _ _ _ _ hc q => floordiv_int hc.1 q (.inl (PyProof.noPylong_of_log2 hc.2))
theorem wide_divN {i j : Int} {b : Nat} (h : j ≠ 0) (hb : j.natAbs < 2 ^ b) (h0 : 0 < b) (h9 : b ≤ 9000) : CDivNW i j := ⟨h, Nat.lt_of_lt_of_le (PySem.Flt.log2_lt_of h0 hb) h9⟩
theorem kit_self {K : PySem.W.Frag} {C : Addr} : PySem.W.kitOne K (.ref C) (.ref C) = some true := by
  unfold PySem.W.kitOne
  rw [if_pos (by simp)]
theorem pe_revLK {e : Expr} {te : TE} {k : Nat} {p1 p2 p3 pos : Pos} (K : PySem.W.Frag) (hk : X.K = K) (he : PE X e te) : PE X (.Subscript e (.Slice none none (some (.UnaryOp .USub (.Constant (.int 1) k p1) p2)) p3) pos) (tRevL K te) := by
  subst hk
  exact pe_revL he
/-- x in s, a list or a tuple of data -/
def rInQ (K : PySem.W.Frag) : R2 := fun x y H Q => ∃ d ds, Dp K H x d ∧ (Dp K H y (.list ds) ∨ Dp K H y (.tuple ds)) ∧ SeqAt.shaped d = true ∧ SeqAt.shaped (.list ds) = true ∧ Q (.bl (ds.any fun z => PyData.eqv z d)) H
def rNotInQ (K : PySem.W.Frag) : R2 := fun x y H Q => ∃ d ds, Dp K H x d ∧ (Dp K H y (.list ds) ∨ Dp K H y (.tuple ds)) ∧ SeqAt.shaped d = true ∧ SeqAt.shaped (.list ds) = true ∧ Q (.bl (!ds.any fun z => PyData.eqv z d)) H
theorem op_inQ (hu : X.A.units + 65 < cLine) : OpR X (compareOp .In) (rInQ X.K) := by
  intro pins s σ H x y v u Q I rx ry h
  obtain ⟨d, ds, hd, he, sd, se, q⟩ := h
  obtain ⟨as, r1⟩ := Dp.reads I d x v hd rx
  rcases he with he | he
  · obtain ⟨bs, r2⟩ := Dp.reads I (.list ds) y u he ry
    exact SeqAt.in_list_reads r2 r1 (SeqAt.canLay_of_shaped se) (SeqAt.canLay_of_shaped sd) (room_in_shaped sd hu) ⟨.bl _, H, I, rfl, q⟩
  · obtain ⟨bs, r2⟩ := Dp.reads I (.tuple ds) y u he ry
    exact SeqAt.in_tuple_reads r2 r1 (SeqAt.canLay_of_shaped se) (SeqAt.canLay_of_shaped sd) (room_in_shaped sd hu) ⟨.bl _, H, I, rfl, q⟩
theorem op_notInQ (hu : X.A.units + 65 < cLine) : OpR X (compareOp .NotIn) (rNotInQ X.K) := by
  intro pins s σ H x y v u Q I rx ry h
  obtain ⟨d, ds, hd, he, sd, se, q⟩ := h
  obtain ⟨as, r1⟩ := Dp.reads I d x v hd rx
  rcases he with he | he
  · obtain ⟨bs, r2⟩ := Dp.reads I (.list ds) y u he ry
    exact SeqAt.notIn_list_reads r2 r1 (SeqAt.canLay_of_shaped se) (SeqAt.canLay_of_shaped sd) (room_in_shaped sd hu) ⟨.bl _, H, I, rfl, q⟩
  · obtain ⟨bs, r2⟩ := Dp.reads I (.tuple ds) y u he ry
    exact SeqAt.notIn_tuple_reads r2 r1 (SeqAt.canLay_of_shaped se) (SeqAt.canLay_of_shaped sd) (room_in_shaped sd hu) ⟨.bl _, H, I, rfl, q⟩
end
end CS

-- dictcomps
namespace CD
open PySem PySem.Spec PyProof.Rows L2
/-- d[key] = v where the key is a tuple, within a comprehension -/
theorem putT {X : Cx} {pins : List (Addr × Obj)} {σ : L2.St} {H : Hp} {s : Shared} {E : Value → Shared → Prop} {D b : Addr} {kvs : List (List L2.Key × V)} {k : List L2.Key} {v : V} {r : Value} {Q : Unit → Shared → Prop} (hu : X.A.units + 1 < cLine)
    (I : Inv X pins σ H s) (hD : H D = some (.dT kvs)) (hz : kvs.length < sizeLine) (hb : H b = some (.tup (k.map kV))) (rv : RelV v r) (h : ∀ s2, Inv X pins σ (upd H D (.dT (putK kvs k v))) s2 → Q () s2) : wpAny (model X.prog X.w) X.A (dictSet D (.ref b) r) Q E s := by
  obtain ⟨z, hd, xs, rel, dd⟩ := dt_of I.hok hD
  have l1 : xs.length ≤ sizeLine := Paired.length rel ▸ z
  have l2 : (putK kvs k v).length ≤ sizeLine := Nat.le_trans (length_putK kvs k v) hz
  have hroom : (tupleKind (mixKind X.prog X.w)).room X.A := Nat.lt_of_succ_lt hu
  refine wpAny_dictSet_heap (hsz := l1) hroom (key_of I.hok hb) dd fun g dg sb => h _ ?_
  obtain ⟨q, es, ep, hq, c2, c3, c4, _, c5⟩ := dg
  refine d_write I (by rw [hD]; exact True.intro) sb ⟨q, hq⟩ ⟨l2, hd, _, (rel.put k hb rv).keeps (fun c ys ec => ?_), q, es, ep, hq, c2, c3, c4, c5⟩
  rw [upd_ne (ne_of ec hD (fun z => nomatch z))]
  exact ec
section
variable {X : Cx}
/-- {k: v for target in iter if ..} where the keys are tuples -/
def tDcT (wi : TI) (g : TG) (tt : TT) (tk tv : TE) (vs : List Nat) : TE := fun σ H Q => wi σ H fun J H1 => ∀ D, H1 D = none → ∃ W : Nat → Nat → Hp → Prop, (∃ m, W 0 m (upd H1 D (.dT []))) ∧ ∀ i m H, W i m H →
  (J.stop i H ∧ Q (.ref D) H) ∨ (J.go i H ∧ ∃ Nx : Hp → Prop, (∀ H', Nx H' → ∃ m', m' < m ∧ W (i + 1) m' H') ∧ ∀ x H', J.yld i H x H' → g x (wipe σ vs) H' fun σ2 H2 => wipe σ2 vs = wipe σ vs ∧ tt σ2 H2 fun b H3 =>
    if b = true then tk σ2 H3 fun y H4 => tv σ2 H4 fun z H5 => ∃ kvs k b, y = .ref b ∧ H5 b = some (.tup (k.map kV)) ∧ H5 D = some (.dT kvs) ∧ kvs.length < sizeLine ∧ Nx (upd H5 D (.dT (putK kvs k z))) else Nx H3)
theorem dcT_run {pins : List (Addr × Obj)} {s : Shared} {σ : L2.St} {H : Hp} {Q : VK} {kx vx tg iter : Expr} {ifs : List Expr} {scope : Scope} {own : List (Str × Nat)} {pos pos' : Pos} {wi : TI} {g : TG} {tt : TT} {tk tv : TE} {use : Option (Value → Sem Unit)} {Qf : Value → Shared → Prop}
    (hu : X.A.units + 1 < cLine) (calm : X.calm = true) (nod : X.N.Nodup) (I : Inv X pins σ H s) (hi : PI X tg iter wi) (ok : BlkOk X.N X.env.scope scope own)
    (gg : ∀ (s : Shared) (H : Hp) (C : Addr) (cl : List (Str × Addr)) (fp : List Addr), PG (X.blk s H scope (compEnvC scope cl C X.env) fp) tg g)
    (gt : ∀ (s : Shared) (H : Hp) (C : Addr) (cl : List (Str × Addr)) (fp : List Addr), PTs (X.blk s H scope (compEnvC scope cl C X.env) fp) ifs tt)
    (gk : ∀ (s : Shared) (H : Hp) (C : Addr) (cl : List (Str × Addr)) (fp : List Addr), PE (X.blk s H scope (compEnvC scope cl C X.env) fp) kx tk)
    (gv : ∀ (s : Shared) (H : Hp) (C : Addr) (cl : List (Str × Addr)) (fp : List Addr), PE (X.blk s H scope (compEnvC scope cl C X.env) fp) vx tv) (fold : ∀ x, foldedSetIterable iter X.env x = pure x)
    (h : tDcT wi g tt tk tv (own.map (·.2)) σ H Q)
    (post : ∀ D C s' m H', Inv X pins σ H' s' → Q (.ref D) H' → s'.heap.Ns C m → FpOk X pins H' C → compPost (model X.prog X.w) X.A X.xe use Qf (.ref D) C (.ok .next) s') :
    wpAny (model X.prog X.w) X.A (comprehension (.DictComp kx vx [⟨tg, iter, ifs, 0⟩] scope pos) scope X.env pos' newDict false (eval iter X.env) use) Qf X.xe s := by
  have hasC : ∀ y ∈ scope.names, y.2 = .free → ∃ c, X.env.cells.lookup y.1 = some c := fun y hy e => I.ok.has _ (ok.free y hy e)
  refine wpAny_comprehension_free (use := use) rfl fold (closure_ok hasC) ok.kind (fun y hy e => by rw [ok.uniq y hy, e]) (thn (hi.run pins s σ H _ I h) fun xv s1 hx => thn hx fun itv s2 h2 => ?_)
  obtain ⟨it, fp, tn, J, H2, rfl, I2, T, at2, free2, q⟩ := h2
  refine wpAny_newObj_type (newEnv_comp ?_)
  generalize eD : s2.heap.objs.size = D
  have newD : H2 D = none := I2.hok.fresh (Nat.le_of_eq eD)
  obtain ⟨W, ⟨m0, w0⟩, turn⟩ := q D newD
  generalize es3 : ({ s2 with heap := s2.heap.push { cls := .type "dict", data := .dict #[] } } : Shared) = s3
  have hp3 : s3.heap = s2.heap.push { cls := .type "dict", data := .dict #[] } := by rw [← es3]
  generalize eH3 : upd H2 D (.dT []) = H3
  have I3 : Inv X pins σ H3 s3 := by
    subst es3 eH3
    refine I2.laid (t' := s2.toks) (fun b o e => Heap.get?_push_of_some _ e) (Nat.le_of_eq eD) ?_
    subst eD
    exact dt_empty s2.heap I2.big
  have low : ∀ b ∈ fp, b < s2.heap.objs.size := fun b hb => let ⟨_, e, _⟩ := T.obj _ _ at2 b hb; Heap.lt_size e
  have free3 : ∀ b ∈ fp, FpOk X pins H3 b ∧ b < s3.heap.objs.size := fun b hb => by
    have lt := low b hb
    refine ⟨⟨?_, (free2 b hb).2⟩, by rw [hp3, Heap.size_push]; exact Nat.lt_succ_of_lt lt⟩
    rw [← eH3, upd_ne (by rw [← eD]; exact Nat.ne_of_lt lt)]
    exact (free2 b hb).1
  have at3 : tn 0 s3.heap := T.keep _ _ _ at2 fun b _ o e => hp3 ▸ Heap.get?_push_of_some _ e
  have I4 := block_start I3 ok nod free3
  generalize eC : s3.heap.objs.size = C at I4
  generalize ecl : cellsFrom (C + 1) scope.names (cloFrom X.env.cells scope.names []) = cl at I4
  have pg := gg s3 H3 C cl fp
  have pt := gt s3 H3 C cl fp
  have pk := gk s3 H3 C cl fp
  have pv := gv s3 H3 C cl fp
  have none3 : ∀ b ∈ fp, H3 b = none := fun b hb => (free3 b hb).1.1
  subst ecl eC
  generalize ece : compEnvC scope (cellsFrom (s3.heap.objs.size + 1) scope.names (cloFrom X.env.cells scope.names [])) s3.heap.objs.size X.env = ce at I4 pg pt pk pv
  have loc : ce.locals = s3.heap.objs.size := by subst ece; rfl
  generalize es4 : ({ s3 with heap := pushCells (s3.heap.push { cls := .type "dict", data := .dict #[] }) scope.names } : Shared) = s4 at I4
  have at4 : tn 0 s4.heap := T.keep _ _ _ at3 fun b _ o e => es4 ▸ pushCells_keeps _ _ _ _ (Heap.get?_push_of_some _ e)
  have wEq : W 0 m0 H3 := eH3 ▸ w0
  have quiet : ∀ {τ : L2.St} {G : Hp} {t : Shared}, Inv (X.blk s3 H3 scope ce fp) [] τ G t → (∀ b ∈ fp, G b = none) → ∀ b ∈ fp, FpOk (X.blk s3 H3 scope ce fp) [] G b := fun {τ G t} J hn b hb =>
    ⟨hn b hb, (J.ok.exf b hb).1, J.ok.exfs b hb, .inl hb, (J.ok.exf b hb).2, fun p hp => absurd (show p ∈ ([] : List (Addr × Obj)) ++ [] from hp) (by simp)⟩
  have run : codeAny (model X.prog X.w) X.A (.compLoop (.DictComp kx vx [⟨tg, iter, ifs, 0⟩] scope pos) 0 (.ref it) (.ref D) ce) (compPost (model X.prog X.w) X.A X.xe use Qf (.ref D) s3.heap.objs.size) s4 := by
    refine compLoop_anyD (fun n t => ∃ i G, Inv (X.blk s3 H3 scope ce fp) [] (wipe σ (own.map (·.2))) G t ∧ tn i t.heap ∧ (∀ b ∈ fp, G b = none) ∧ W i n G) ?_ m0 ⟨0, H3, I4, at4, none3, wEq⟩
    rintro n t5 ⟨i, G5, I5, at5, n5, w5⟩
    rcases turn i n G5 w5 with ⟨stop, qq⟩ | ⟨go, Nx, hNx, step⟩
    · refine thnF (T.done (X.blk s3 H3 scope ce fp) rfl rfl rfl calm i [] t5 _ G5 (fun _ _ => False) I5 (quiet I5 n5) at5 stop) fun r t6 ⟨er, I6⟩ => ?_
      subst er
      have I7 : Inv X pins σ G5 t6 := I3.call' (ch := fp) I6.os I6.base I6.hok I6.bare fun b hb => let z := (free3 b hb).1.2; ⟨z.2.2.1, z.1, z.2.2.2.1, z.2.2.2.2⟩
      have nC : G5 s3.heap.objs.size = none := loc ▸ (show G5 ce.locals = none from I6.free)
      obtain ⟨m, hn, _⟩ := I6.loc
      replace hn : t6.heap.Ns s3.heap.objs.size m := loc ▸ (show t6.heap.Ns ce.locals m from hn)
      exact post D s3.heap.objs.size t6 m G5 I7 qq hn (I3.fpOk (Nat.le_refl _) nC)
    · refine thnF (T.item (X.blk s3 H3 scope ce fp) rfl rfl rfl calm i [] t5 _ G5 (fun _ _ => False) I5 (quiet I5 n5) at5 go) fun r t6 ⟨u, er, h6⟩ => ?_
      subst er
      refine thnF h6 fun _ t7 ⟨x, G7, I7, r7, y7, at7, n7⟩ => ?_
      refine thnF (pg.run _ t7 _ G7 x u _ (I7.pinned (quiet I7 n7) (T.obj _ _ at7)) r7 (step x G7 y7)) fun _ t8 ⟨σ8, G8, I8, hw, q8⟩ => ?_
      refine thnF (pt.run _ t8 σ8 G8 _ I8 q8) fun b t9 ⟨G9, I9, q9⟩ => ?_
      have fin : ∀ {t : Shared} {G : Hp}, Inv (X.blk s3 H3 scope ce fp) ([] ++ pinsAt fp t7.heap) σ8 G t → Nx G → ∃ m, m < n ∧ ∃ j G2, Inv (X.blk s3 H3 scope ce fp) [] (wipe σ (own.map (·.2))) G2 t ∧ tn j t.heap ∧ (∀ b ∈ fp, G2 b = none) ∧ W j m G2 := fun {t G} IG nx => by
        obtain ⟨m2, lt, w2⟩ := hNx G nx
        have stay : ∀ b ∈ fp, ∀ o, t7.heap.get? b = some o → t.heap.get? b = some o ∧ G b = none := fun b hb o e => ⟨(IG.pin (b, o) (List.mem_append_right _ (List.mem_append_right _ (mem_pinsAt hb e)))).1, (IG.pin (b, o) (List.mem_append_right _ (List.mem_append_right _ (mem_pinsAt hb e)))).2.1⟩
        have len : (wipe σ (own.map (·.2))).length = σ8.length := by rw [← hw, wipe_length]
        refine ⟨m2, lt, i + 1, G, (IG.unpinned (pins := [])).weak len (fun j v e => (wipe_some (hw ▸ e)).1), T.keep _ _ _ at7 fun b hb o e => (stay b hb o e).1, fun b hb => ?_, w2⟩
        obtain ⟨o, e, _⟩ := T.obj _ _ at7 b hb
        exact (stay b hb o e).2
      cases b with
      | false =>
        rw [if_neg Bool.false_ne_true] at q9 ⊢
        exact fin I9 q9
      | true =>
        rw [if_pos rfl] at q9 ⊢
        refine thnF (pk.run _ t9 σ8 G9 _ I9 q9) fun z ta ⟨yk, Ga, Ia, ra, qa⟩ => ?_
        refine thnF (pv.run _ ta σ8 Ga _ Ia qa) fun z2 tb ⟨yv, Gb, Ib, rb, kvs, k, bb, ek, hbb, hDb, hz, nx⟩ => ?_
        subst ek
        cases (show z = Value.ref bb from ra)
        exact putT (X := X.blk s3 H3 scope ce fp) hu Ib hDb hz hbb rb fun tc Ic => fin Ic nx
  subst ece
  exact codeAny_compStart_dict run (T.self X.A 0 _ _ _ at4 run)
theorem pe_dcT {kx vx tg iter : Expr} {ifs : List Expr} {scope : Scope} {own : List (Str × Nat)} {pos : Pos} {wi : TI} {g : TG} {tt : TT} {tk tv : TE} (hu : X.A.units + 1 < cLine) (calm : X.calm = true) (nod : X.N.Nodup) (hi : PI X tg iter wi) (ok : BlkOk X.N X.env.scope scope own)
    (gg : ∀ (s : Shared) (H : Hp) (C : Addr) (cl : List (Str × Addr)) (fp : List Addr), PG (X.blk s H scope (compEnvC scope cl C X.env) fp) tg g)
    (gt : ∀ (s : Shared) (H : Hp) (C : Addr) (cl : List (Str × Addr)) (fp : List Addr), PTs (X.blk s H scope (compEnvC scope cl C X.env) fp) ifs tt)
    (gk : ∀ (s : Shared) (H : Hp) (C : Addr) (cl : List (Str × Addr)) (fp : List Addr), PE (X.blk s H scope (compEnvC scope cl C X.env) fp) kx tk)
    (gv : ∀ (s : Shared) (H : Hp) (C : Addr) (cl : List (Str × Addr)) (fp : List Addr), PE (X.blk s H scope (compEnvC scope cl C X.env) fp) vx tv) (fold : ∀ x, foldedSetIterable iter X.env x = pure x := by intro _; rfl) :
    PE X (.DictComp kx vx [⟨tg, iter, ifs, 0⟩] scope pos) (tDcT wi g tt tk tv (own.map (·.2))) := by
  refine ⟨fun pins s σ H Q I h => ?_⟩
  rw [arm_eval_DictComp]
  refine dcT_run hu calm nod I hi ok gg gt gk gv fold h fun D C t m G IG q hn f => ⟨m, hn, fun g2 sb => ?_⟩
  exact ⟨.ref D, G, IG.turned (t' := t.toks) (fun b o hb e => (sb.2 b hb).trans e) f.1 f.2.1 f.2.2.2.1 f.2.2.2.2.1 f.2.2.2.2.2, rfl, q⟩
end
/-- over anything that is walked: the keys and values are known from the start -/
theorem dcT_it {J : It} {n : Nat} {G : Hp → Prop} {Y : Nat → Hp → V → Hp → Prop} (w : Walk J n G Y) {g : TG} {tt : TT} {tk tv : TE} {vs : List Nat} {σ : L2.St} {H1 : Hp} {D : Addr} {Qd : Hp → Prop} (Pv : Nat → Hp → Prop) (h0 : Pv 0 (upd H1 D (.dT []))) (hl : ∀ i H, i ≤ n → Pv i H → G H)
    (hs : ∀ i x H H2, i < n → Pv i H → Y i H x H2 → g x (wipe σ vs) H2 fun σ2 H3 => wipe σ2 vs = wipe σ vs ∧ tt σ2 H3 fun b H4 =>
      if b = true then tk σ2 H4 fun y H5 => tv σ2 H5 fun z H6 => ∃ kvs k b, y = .ref b ∧ H6 b = some (.tup (k.map kV)) ∧ H6 D = some (.dT kvs) ∧ kvs.length < sizeLine ∧ Pv (i + 1) (upd H6 D (.dT (putK kvs k z))) else Pv (i + 1) H4)
    (hd : ∀ H, Pv n H → Qd H) :
    ∃ W : Nat → Nat → Hp → Prop, (∃ m, W 0 m (upd H1 D (.dT []))) ∧ ∀ i m H, W i m H →
      (J.stop i H ∧ Qd H) ∨ (J.go i H ∧ ∃ Nx : Hp → Prop, (∀ H', Nx H' → ∃ m', m' < m ∧ W (i + 1) m' H') ∧ ∀ x H', J.yld i H x H' → g x (wipe σ vs) H' fun σ2 H2 => wipe σ2 vs = wipe σ vs ∧ tt σ2 H2 fun b H3 =>
        if b = true then tk σ2 H3 fun y H4 => tv σ2 H4 fun z H5 => ∃ kvs k b, y = .ref b ∧ H5 b = some (.tup (k.map kV)) ∧ H5 D = some (.dT kvs) ∧ kvs.length < sizeLine ∧ Nx (upd H5 D (.dT (putK kvs k z))) else Nx H3) := by
  refine ⟨fun i m H => m = n - i ∧ i ≤ n ∧ Pv i H, ⟨n, rfl, Nat.zero_le _, h0⟩, ?_⟩
  rintro i m H ⟨rfl, hi, p⟩
  have q := hl i H hi p
  by_cases c : i < n
  · exact .inr ⟨w.goes i H c q, Pv (i + 1), fun H2 p2 => ⟨n - (i + 1), by omega, rfl, c, p2⟩, fun x H2 y => hs i x H H2 c p (w.yields i H x H2 c q y)⟩
  · obtain rfl : i = n := by omega
    exact .inl ⟨w.stops H q, hd H p⟩
/-- kvs with the pairs of more put in -/
def mergeT (kvs more : List (List L2.Key × V)) : List (List L2.Key × V) := more.foldl (fun acc p => putK acc p.1 p.2) kvs
theorem mergeT_len (kvs : List (List L2.Key × V)) : ∀ more : List (List L2.Key × V), (mergeT kvs more).length ≤ kvs.length + more.length := fun more => by
  induction more generalizing kvs with
  | nil => exact Nat.le_refl _
  | cons p r ih =>
    have a := ih (putK kvs p.1 p.2)
    have b := length_putK kvs p.1 p.2
    simp only [mergeT, List.foldl_cons, List.length_cons] at *
    omega
theorem KT.merge {H : Hp} : ∀ {more : List (List L2.Key × V)} {ys : List (List L2.Key × Addr × Value)} {kvs : List (List L2.Key × V)} {xs : List (List L2.Key × Addr × Value)}, KT H more ys → KT H kvs xs → KT H (mergeT kvs more) (storedAllH xs ys)
  | _, _, _, _, .nil, h => h
  | (k, v) :: _, (k2, b, u) :: _, kvs, xs, .cons ⟨e, hb, rv⟩ t, h => by
    obtain rfl : k = k2 := e
    exact KT.merge (kvs := putK kvs k v) (xs := storedH xs k b u) t (h.put k hb rv)
section
variable {X : Cx}
/-- d.update(e), both keyed by tuples -/
def rUpdT : V → List V → Hp → VK → Prop := fun x xs H Q => ∃ (a b : Addr) (kvs more : List (List L2.Key × V)), x = .ref a ∧ xs = [.ref b] ∧ a ≠ b ∧ H a = some (.dT kvs) ∧ H b = some (.dT more) ∧ (kvs ≠ [] ∨ more = []) ∧ kvs.length + more.length ≤ sizeLine ∧ Q .non (upd H a (.dT (mergeT kvs more)))
theorem mt_updT (hu : X.A.units + 1 < cLine) : MtR X "dict.update" rUpdT := by
  intro pins s σ H x xs v us Q I rx rxs h
  obtain ⟨a, b, kvs, more, rfl, rfl, ne, ha, hb, nn, le, q⟩ := h
  cases rx
  cases rxs with
  | cons r1 r2 =>
    cases r1
    cases r2
    obtain ⟨z, hd, xs1, rel, dd⟩ := dt_of I.hok ha
    obtain ⟨z2, hd2, xs2, rel2, dd2⟩ := dt_of I.hok hb
    have l1 : kvs.length = xs1.length := Paired.length rel
    have l2 : more.length = xs2.length := Paired.length rel2
    refine call_update_dictH (tupleKind_room_in1 hu) ne hd2 dd dd2 (nn.imp (fun nn e => nn (List.length_eq_zero_iff.mp (by rw [l1, e]; rfl))) fun e => (by
      have e2 : xs2 = [] := List.length_eq_zero_iff.mp (by rw [← l2, e]; rfl)
      rw [e2]
      exact ⟨(fun x hx => by cases hx), .nil⟩)) (by omega) fun h' dd' _ hs => ?_
    obtain ⟨o, es, ep, hq, h2, h3, h4, _, h5⟩ := dd'
    refine ⟨.non, _, d_write (ob := .dT (mergeT kvs more)) (t' := s.toks) I (by rw [ha]; exact True.intro) hs ⟨o, hq⟩ ⟨Nat.le_trans (mergeT_len kvs more) le, hd, _, (KT.merge rel2 rel).keeps (fun c ys ec => (by rw [upd_ne (ne_of ec ha (fun z => nomatch z))]; exact ec)), o, es, ep, hq, h2, h3, h4, h5⟩, rfl, q⟩
end
end CD

namespace CD
open PySem PySem.Spec PyProof.Rows L2
/-- the view d.values() -/
def valsO (p d : Addr) : HO := .ext fun h => h.IsValuesView p d
theorem DTpget {α β : Type} {F : α → β → Prop} : ∀ {l₁ : List α} {l₂ : List β} {j : Nat} {x : β}, Paired F l₁ l₂ → l₂[j]? = some x → ∃ y, l₁[j]? = some y ∧ F y x
  | _, _, _, _, .nil, h => by simp at h
  | _, _, 0, _, .cons r _, h => ⟨_, rfl, by obtain rfl := Option.some.inj h; exact r⟩
  | _, _, j + 1, _, .cons _ t, h => DTpget (j := j) t h
section
variable {X : Cx}
def rValuesT : V → List V → Hp → VK → Prop := fun x xs H Q => ∃ (a : Addr) (kvs : List (List L2.Key × V)), x = .ref a ∧ xs = [] ∧ H a = some (.dT kvs) ∧ ∀ p, H p = none → Q (.ref p) (upd H p (valsO p a))
theorem mt_valuesT : MtR X "dict.values" rValuesT := by
  intro pins s σ H x xs v us Q I rx rxs h
  obtain ⟨a, kvs, rfl, rfl, ha, q⟩ := h
  cases rx
  cases rxs
  obtain ⟨z, hd, ys, rel, o, es, ep, ho, hx, hdat, _⟩ := dt_of I.hok ha
  have raw : s.heap.DictRaw a es ep := ⟨o, ho, hx, hdat⟩
  refine call_meetsIn PySem.F.slot_dict_values raw.typeIs PySem.F.entry_dict_values (PySem.F.args_dict_values_1 _) (meets_dict_values_raw a hd) ⟨⟨es, ep, raw⟩, ?_⟩
  have new : ObjOk X.prog X.w (upd H s.heap.objs.size (valsO s.heap.objs.size a)) (s.heap.push { cls := .type "dict_values", data := .fields #[.ref a] }) s.heap.objs.size (valsO s.heap.objs.size a) :=
    ⟨⟨_, Heap.get?_push_size _ rfl, rfl, rfl⟩, ⟨_, Heap.get?_push_size _ rfl⟩, fun h1 h2 y k => let ⟨u, hu, r⟩ := y; ⟨u, k u hu, r⟩⟩
  exact ⟨.ref s.heap.objs.size, _, I.laid (t' := s.toks) (fun b u e => Heap.get?_push_of_some _ e) (Nat.le_refl _) new, rfl, q _ (I.hok.fresh (Nat.le_refl _))⟩
/-- max(d.values()), whole numbers -/
def rMaxT : List V → Hp → VK → Prop := fun xs H Q => ∃ (p a : Addr) (kvs : List (List L2.Key × V)) (is : List Int), xs = [.ref p] ∧ H p = some (valsO p a) ∧ H a = some (.dT kvs) ∧ kvs.map (·.2) = is.map V.int ∧ is ≠ [] ∧ ∀ m, m ∈ is → (∀ j ∈ is, j ≤ m) → Q (.int m) H
theorem cr_maxT (calm : X.calm = true) : CallR X (.builtin "max") rMaxT := by
  intro pins s σ H xs us Q I r h
  obtain ⟨p, a, kvs, is, rfl, hp, ha, hv, hne, q⟩ := h
  rw [Vals.ref1 r]
  obtain ⟨z, hd, ys, rel, o, es, ep, ho, hx, hdat, hes, _⟩ := dt_of I.hok ha
  have raw : s.heap.DictRaw a es ep := ⟨o, ho, hx, hdat⟩
  have view : s.heap.IsValuesView p a := (show ObjOk X.prog X.w H s.heap p (valsO p a) from I.hok p _ hp).1
  have l1 : es.size = ys.length := by rw [← Array.length_toList, hes, List.length_map]
  have l2 : kvs.length = ys.length := Paired.length rel
  have l3 : is.length = kvs.length := by
    have := congrArg List.length hv
    rw [List.length_map, List.length_map] at this
    exact this.symm
  have hval : ∀ (i : Nat) (v : Value), (∃ hi : i < es.size, v = es[i].val) → ∃ t, v = Value.int (is.getD i 0) t := fun i v ⟨hi, e⟩ => by
    subst e
    have iy : i < ys.length := by omega
    have e1 : es[i] = entryOfKey (tupleKind (mixKind X.prog X.w)) ys[i] := by
      have : es.toList[i]? = some es[i] := by rw [Array.getElem?_toList, Array.getElem?_eq_getElem hi]
      rw [hes, List.getElem?_map, List.getElem?_eq_getElem iy] at this
      exact (Option.some.inj this).symm
    obtain ⟨y, hy, f1, f2, f3⟩ := DTpget rel (List.getElem?_eq_getElem iy)
    have e2 : (kvs.map (·.2))[i]? = some y.2 := by rw [List.getElem?_map, hy]; rfl
    rw [hv, List.getElem?_map] at e2
    obtain ⟨j, hj, e3⟩ := Option.map_eq_some_iff.mp e2
    rw [← e3] at f3
    obtain ⟨t, f3⟩ := f3
    refine ⟨t, ?_⟩
    rw [e1, List.getD_eq_getElem?_getD, hj]
    exact f3
  refine call_max_walk (wpAny_pyIter_values_raw view raw ?_)
  generalize hI : s.heap.objs.size = it
  have al : a < s.heap.objs.size := Heap.lt_size ho
  generalize hh : s.heap.push { cls := .type "dict_valueiterator", data := .fields #[.ref a, .int 0 0, .int es.size 0, .int ep 0] } = h2
  have keep : ∀ b u, s.heap.get? b = some u → h2.get? b = some u := fun b u e => hh ▸ Heap.get?_push_of_some _ e
  have raw2 : h2.DictRaw a es ep := ⟨o, keep _ _ ho, hx, hdat⟩
  have at2 : h2.get? it = some { cls := .type "dict_valueiterator", data := .fields #[.ref a, .int 0 0, .int es.size 0, .int ep 0] } := by rw [← hh, ← hI]; exact Heap.get?_push_size _ rfl
  have sz2 : h2.objs.size = it + 1 := by rw [← hh, Heap.size_push, hI]
  have nea : a ≠ it := by rw [← hI]; exact Nat.ne_of_lt al
  refine ⟨it, _, _, _, _, _, _, rfl, Walks.rawValues (A := X.A.in1) (I.ok.hd calm) it a nea es ep, ⟨⟨_, at2, rfl, rfl⟩, raw2⟩, fun b hb => ?_, by have := List.length_pos_iff.mpr hne; omega, CmpOf.ints_gt (fun i => is.getD i 0) hval, fun v h3 tk hP hk => ?_⟩
  · show b < h2.objs.size
    rw [sz2]
    rcases List.mem_cons.mp hb with e | hb
    · rw [e]
      exact Nat.lt_succ_self _
    · rw [List.mem_singleton.mp hb, ← hI]
      exact Nat.lt_succ_of_lt al
  · obtain ⟨t, rfl⟩ := hval _ v hP
    obtain ⟨b1, b2⟩ := argBest_gt (fun i => is.getD i 0) (es.size - 1)
    have inb : argBest (fun i j => decide (is.getD i 0 > is.getD j 0)) (es.size - 1) < is.length := by
      have := List.length_pos_iff.mpr hne
      omega
    refine ⟨.int _, H, I.kept (t' := tk) fun b u e => hk b u (fun hm => ?_) (keep b u e), ⟨t, rfl⟩, q _ ?_ fun j hj => ?_⟩
    · have e1 : b = it := List.mem_singleton.mp hm
      have e2 := Heap.lt_size e
      rw [e1, hI] at e2
      exact absurd e2 (Nat.lt_irrefl _)
    · rw [List.getD_eq_getElem?_getD, List.getElem?_eq_getElem inb]
      exact List.getElem_mem inb
    · obtain ⟨i, hi⟩ := List.mem_iff_getElem?.mp hj
      have il := (List.getElem?_eq_some_iff.mp hi).1
      have := b2 i (by omega)
      rw [List.getD_eq_getElem?_getD, hi] at this
      exact this
end
end CD

namespace CD
open PySem PySem.Spec PyProof.Rows L2
/-- a slice's part that may be None -/
def tPartO (t : TE) : TO := fun σ H Q => t σ H fun x H1 => (x = .non ∧ Q none H1) ∨ ∃ i, x = .int i ∧ Q (some i) H1
theorem po_opt {X : Cx} {e : Expr} {te : TE} (h : PE X e te) : PO X (some e) (tPartO te) := by
  refine ⟨fun pins s σ H Q I hw => ?_⟩
  rw [evalPart_some]
  refine thn (h.run pins s σ H _ I hw) fun u s1 ⟨x, H1, I1, r1, q1⟩ => ?_
  rcases q1 with ⟨rfl, q⟩ | ⟨i, rfl, q⟩
  · obtain rfl : u = Value.none := r1
    exact ⟨none, H1, I1, .none, q⟩
  · obtain ⟨t, rfl⟩ := r1
    exact ⟨some i, H1, I1, .int i t, q⟩
end CD

namespace CD
open PySem PySem.Spec PyProof.Rows L2
/-! ### dict(xs) of a list of pairs whose keys are tuples -/
def PrT (H : Hp) (x : V) (kv : List L2.Key × V) : Prop := ∃ p b, x = V.ref p ∧ H p = some (.tup [.ref b, kv.2]) ∧ H b = some (.tup (kv.1.map kV))
section
variable {X : Cx}
def rDictT (K : PySem.W.Frag) : List V → Hp → VK → Prop := fun xs H Q => ∃ (a : Addr) (ps : List V) (kvs : List (List L2.Key × V)), xs = [.ref a] ∧ SqL K H a ps ∧ Paired (PrT H) ps kvs ∧ ∀ d, H d = none → Q (.ref d) (upd H d (.dT (mergeT [] kvs)))
theorem pairs_ofT {pins : List (Addr × Obj)} {σ : L2.St} {H : Hp} {s : Shared} (I : Inv X pins σ H s) : ∀ {ps : List V} {us : List Value} {kvs : List (List L2.Key × V)}, Paired (PrT H) ps kvs → Vals ps us →
    ∃ ys : List (List L2.Key × Addr × Value), KT H kvs ys ∧ ys.length = us.length ∧ ∀ (j : Nat) (y : List L2.Key × Addr × Value), ys[j]? = some y → ∃ p, us[j]? = some (Value.ref p) ∧ s.heap.IsTuple p #[.ref y.2.1, y.2.2]
  | _, _, _, .nil, r => by
    cases r
    exact ⟨[], .nil, rfl, fun j q e => by simp at e⟩
  | _, _, _, .cons (a := x) (b := kv) h t, r => by
    obtain ⟨p, b, rfl, hp, hb⟩ := h
    cases r with
    | cons r1 r2 =>
      cases r1
      obtain ⟨ys, rk, hl, hh⟩ := pairs_ofT I t r2
      obtain ⟨its, rv, ht, _⟩ := I.tuple (SqT.of hp)
      obtain ⟨u, y, ei, ru, ry⟩ := vals2 rv
      subst ei
      cases ru
      refine ⟨(kv.1, b, y) :: ys, .cons ⟨rfl, hb, ry⟩ rk, by rw [List.length_cons, List.length_cons, hl], fun j q e => ?_⟩
      cases j with
      | zero =>
        obtain rfl := Option.some.inj e
        obtain ⟨o, ho, hc, n, hd⟩ := ht
        exact ⟨p, rfl, o, ho, hc, n, hd⟩
      | succ j =>
        obtain ⟨p2, e1, e2⟩ := hh j q (by simpa using e)
        exact ⟨p2, by simpa using e1, e2⟩
theorem call_dictT (hcalm : X.calm = true) (hu : X.A.units + 65 < cLine) : CallR X (.type "dict") (rDictT X.K) := by
  intro pins s σ H xs us Q I r q
  obtain ⟨a, ps, kvs, rfl, hq, hp, q⟩ := q
  obtain ⟨u, rfl, rx⟩ := vals1 r
  cases rx
  obtain ⟨its, rv, pl, hz⟩ := I.list hq
  obtain ⟨ys, rk, hl, hpr⟩ := pairs_ofT I hp rv
  obtain ⟨o, n, ho, hc, hd, hdat⟩ := pl
  let Ts : Nat → Addr := fun j => match its[j]? with
    | some (.ref p) => p
    | _ => 0
  let prs : List (Value × Value) := ys.map fun y => (Value.ref y.2.1, y.2.2)
  have lp : prs.length = its.length := by simp [prs, hl]
  have hTs : ∀ {j : Nat} {p : Addr}, its[j]? = some (.ref p) → Ts j = p := fun {j p} e => by
    show (match its[j]? with | some (.ref p) => p | _ => 0) = p
    rw [e]
  have P := PairArg.list (prog := X.prog) (w := X.w) a its.toArray Ts prs
  have ok : PlainSeq "list" s.heap a its.toArray ∧ PairItems s.heap its.toArray Ts prs := by
    refine ⟨⟨o, n, ho, hc, hd, hdat⟩, by rw [List.size_toArray, lp], fun j k v e => ?_⟩
    have e2 : (ys.map fun y => (Value.ref y.2.1, y.2.2))[j]? = some (k, v) := e
    rw [List.getElem?_map] at e2
    obtain ⟨y, hy, ey⟩ := Option.map_eq_some_iff.mp e2
    obtain ⟨p, h1, h2⟩ := hpr j y hy
    obtain ⟨rfl, rfl⟩ := Prod.mk.inj ey
    rw [hTs h1]
    exact ⟨by simpa using h1, .inl h2⟩
  have hroom : (tupleKind (mixKind X.prog X.w)).room X.A.in1.in1 := by
    show X.A.units + 1 + 1 < cLine
    omega
  have keyed : ∀ x ∈ ys, (tupleKind (mixKind X.prog X.w)).is s.heap x.1 x.2.1 := by
    clear hpr P ok hl lp q hp
    intro x hx
    obtain ⟨i, hi⟩ := List.mem_iff_getElem?.mp hx
    induction rk generalizing i with
    | nil => cases hx
    | cons h t ih =>
      rcases List.mem_cons.mp hx with rfl | hx2
      · obtain ⟨h1, h2, _⟩ := h
        exact key_of I.hok (by rw [← h1]; exact h2)
      · obtain ⟨i2, hi2⟩ := List.mem_iff_getElem?.mp hx2
        exact ih hx2 i2 hi2
  refine call_dict_pairsH (knd := tupleKind (mixKind X.prog X.w)) (ps := ys) P (I.ok.hd hcalm) hroom ok ⟨by simp [prs], fun i key v e => ?_⟩ (fun h' hk x hx => ?_) (by rw [lp, ← rv.length]; exact hz) fun h' tk dd k => ?_
  · have e2 : (ys.map fun y => (Value.ref y.2.1, y.2.2))[i]? = some (key, v) := e
    rw [List.getElem?_map] at e2
    obtain ⟨⟨y1, y2, y3⟩, hy, ey⟩ := Option.map_eq_some_iff.mp e2
    obtain ⟨rfl, rfl⟩ := Prod.mk.inj ey
    exact ⟨y1, y2, hy, rfl⟩
  · exact tupleKind_stays.stays (fun b o vs n e _ => hk b o (Nat.ne_of_lt (Heap.lt_size e)) (by simp) e) (keyed x hx)
  · have hm : (s.heap.objs.size == sysModules) = false := beq_eq_false_iff_ne.mpr (Nat.ne_of_gt I.big)
    have fr : H s.heap.objs.size = none := I.hok.fresh (Nat.le_refl _)
    have hlen : (mergeT [] kvs).length ≤ sizeLine := by
      have h1 := mergeT_len [] kvs
      have h2 : kvs.length = ys.length := Paired.length rk
      rw [List.length_nil, h2, hl] at h1
      have : its.length ≤ sizeLine := by rw [← rv.length]; exact hz
      omega
    obtain ⟨o2, es, ep, hq2, h2, h3, h4, _, h5⟩ := dd
    refine ⟨.ref s.heap.objs.size, upd H s.heap.objs.size (.dT (mergeT [] kvs)), I.laid (t' := tk) (fun b o e => k b o (by simp) e) (Nat.le_refl _) (show ObjOk X.prog X.w _ _ _ (.dT (mergeT [] kvs)) from ⟨hlen, hm, storedAllH [] ys, (KT.merge rk .nil).keeps (fun c zs ec => by rw [upd_ne (ne_of_none ec fr)]; exact ec), o2, es, ep, hq2, h2, h3, h4, h5⟩), rfl, q _ fr⟩
end
end CD

-- dictcomps
namespace CD
open PySem PySem.Spec PyProof.Rows L2
/-! ### d != {} -/
section
variable {prog : Program} {w : World} {A : Around} {E : Value → Shared → Prop} {s : Shared}
theorem same_empty {nm : String} {a b : Addr} {es es2 : Array DictEntry} {ep ep2 : Nat} {Q : Bool → Shared → Prop} (ha : (a == sysModules) = false) (hb : (b == sysModules) = false)
    (da : s.heap.DictRaw a es ep) (db : s.heap.DictRaw b es2 ep2) (h0 : es2.size = 0) (h : Q (es.size == 0) s) : wpAny (model prog w) A (Builtin.Dict.samePairs nm a b) Q E s := by
  obtain ⟨oa, hoa, _, hda⟩ := da
  obtain ⟨ob, hob, _, hdb⟩ := db
  unfold Builtin.Dict.samePairs Builtin.Dict.showsAll
  rw [if_neg (show ¬ (a == sysModules) = true by rw [ha]; exact Bool.false_ne_true), if_neg (show ¬ (b == sysModules) = true by rw [hb]; exact Bool.false_ne_true)]
  refine wpAny_bind (wpAny_pure (wpAny_bind (wpAny_pure ?_)))
  refine wpAny_bind (wpAny_dictEntries hoa hda ?_)
  dsimp only
  refine wpAny_bind (wpAny_dictEntries hob hdb ?_)
  by_cases hsz : es.size = 0
  case neg =>
    rw [if_pos (by simpa [h0] using hsz)]
    have hbf : (es.size == 0) = false := by simpa using hsz
    rw [hbf] at h
    exact wpAny_bind (wpAny_rule (wpAny_pure h))
  case pos =>
    rw [hsz] at h
    rw [if_neg (by rw [hsz, h0]; simp)]
    refine wpAny_bind (wpAny_dictEpoch hoa hda ?_)
    refine wpAny_bind ?_
    rw [Std.Legacy.Range.forIn_eq_forIn_range']
    simp only [Std.Legacy.Range.size, Nat.sub_zero, Nat.add_sub_cancel, Nat.div_one]
    refine wpAny_forIn_list _ (fun rest q s' => s' = s ∧ q = (none, ()) ∧ rest = []) _ ?_ ?_ _ _ ⟨rfl, rfl, by rw [hsz]; rfl⟩
    · rintro x rest q s' ⟨_, _, hr⟩
      cases hr
    · rintro q s' ⟨rfl, rfl, _⟩
      exact wpAny_pure h
end
section
variable {X : Cx}
def rNeE : R2 := fun x y H Q => ∃ (a b : Addr) (kvs : List (List L2.Key × V)), x = .ref a ∧ y = .ref b ∧ H a = some (.dT kvs) ∧ H b = some (.dK []) ∧ Q (.bl (!decide (kvs = []))) H
theorem op_neE (hu : X.A.units + 65 < cLine) : OpR X (compareOp .NotEq) rNeE := by
  intro pins s σ H x y v u Q I rx ry h
  obtain ⟨a, b, kvs, rfl, rfl, ea, eb, q⟩ := h
  obtain rfl : v = Value.ref a := rx
  obtain rfl : u = Value.ref b := ry
  obtain ⟨z, hd, xs, rel, o, es, ep, ho, hx, hdat, hes, hxs, hnod⟩ := dt_of I.hok ea
  have raw : s.heap.DictRaw a es ep := ⟨o, ho, hx, hdat⟩
  obtain ⟨_, yb, vb, rb, db⟩ := (show ObjOk X.prog X.w H s.heap b (.dK []) from I.hok b _ eb)
  have lb : vb = [] := by
    have := rb.length
    cases vb with
    | nil => rfl
    | cons _ _ => cases this
  subst lb
  obtain ⟨ob, es2, ep2, hob, hcb, hdb, hkb, hpb, _⟩ := id db
  have raw2 : s.heap.DictRaw b es2 ep2 := ⟨ob, hob, hcb, hdb⟩
  have h0 : es2.size = 0 := by
    have := hpb.length
    rw [List.length_nil] at this
    rw [← Array.length_toList]
    exact this
  have l1 : es.size = xs.length := by rw [← Array.length_toList, hes, List.length_map]
  have l2 : kvs.length = xs.length := Paired.length rel
  refine wpAny_richCompare_same_room (op := .NotEq) raw.typeIs raw2.typeIs PySem.F.slot_dict_ne (wpAny_call_entry PySem.F.slot_dict_ne raw.typeIs PySem.F.entry_dict_ne ?_ (PySem.F.args_dict_ne_2 _ _)) (by omega)
  show wpAny _ _ (Builtin.Dict.dictSlotArgs "__ne__" ⟨[.ref a, .ref b], []⟩ >>= _) _ _ s
  refine wpAny_bind ?_
  unfold Builtin.Dict.dictSlotArgs
  refine wpAny_bind (wpAny_notOrdered_dict raw.typeIs ?_)
  show wpAny _ _ (pure (Value.ref a, Value.ref b)) _ _ s
  refine wpAny_pure ?_
  refine wpAny_bind (wpAny_isInstance (T := "dict") raw2.typeIs PySem.F.sub_dict_dict ?_)
  simp only [Bool.not_true, Bool.false_eq_true, if_false]
  refine wpAny_bind (wpAny_pure (wpAny_bind (wpAny_pure ?_)))
  refine wpAny_bind (same_empty hd yb raw raw2 h0 ?_)
  refine wpAny_pure ⟨_, rfl, ?_, ?_⟩
  · exact fun x => nomatch x
  · have e : (es.size == 0) = decide (kvs = []) := by
      rw [l1, ← l2]
      cases kvs <;> simp
    rw [e]
    exact fin_bl I q (by simp)
end
end CD

-- dictcomps
namespace CD
open PySem PySem.Spec PyProof.Rows L2
/-! ### for k, v in d.items(): d with tuples for keys -/
section
variable {X : Cx} {pins : List (Addr × Obj)} {σ : L2.St} {H : Hp} {s : Shared} {d : Addr} {o : Obj}
theorem frzT2 {kvs : List (List L2.Key × V)} (I : Inv X pins σ H s) (h : H d = some (.frz o (.dT kvs))) :
    (d == sysModules) = false ∧ s.heap.get? d = some o ∧ o.ExactDict ∧ ∃ (es : Array DictEntry) (ep : Nat), o.data = .dict es ep ∧ es.size = kvs.length ∧
      ∀ (i : Nat) (k : List L2.Key) (v : V), kvs[i]? = some (k, v) → ∃ (en : DictEntry) (q : Addr), es[i]? = some en ∧ en.key = .ref q ∧ H q = some (.tup (k.map kV)) ∧ RelV v en.val := by
  obtain ⟨hd, z, hs, xs, pr, o', es, ep, ho, hx, hdt, he, _⟩ := I.hok d _ h
  rw [hd] at ho
  cases ho
  refine ⟨hs, hd, hx, es, ep, hdt, ?_, fun i k v e => ?_⟩
  · have l1 : es.size = xs.length := size_of_entries he
    have l2 : kvs.length = xs.length := Paired.length pr
    omega
  · obtain ⟨b, hb, e1, e2, e3⟩ := paired_get pr e
    have q := entry_at he i
    rw [hb] at q
    exact ⟨_, b.2.1, q, rfl, e2, e3⟩
end
def Itit (d : Addr) (o : Obj) (kvs : List (List L2.Key × V)) : It :=
  ⟨fun i H => H d = some (.frz o (.dT kvs)) ∧ i < kvs.length, fun i H x H' => ∃ (T q : Addr) (k : List L2.Key) (v : V), kvs[i]? = some (k, v) ∧ x = .ref T ∧ H T = none ∧ H q = some (.tup (k.map kV)) ∧ H' = upd H T (.tup [.ref q, v]), fun i H => H d = some (.frz o (.dT kvs)) ∧ kvs.length ≤ i⟩
theorem walk_itemsT {d : Addr} {o : Obj} {kvs : List (List L2.Key × V)} : Walk (Itit d o kvs) kvs.length (fun H => H d = some (.frz o (.dT kvs)))
    (fun i H x H' => ∃ (T q : Addr) (k : List L2.Key) (v : V), kvs[i]? = some (k, v) ∧ x = .ref T ∧ H T = none ∧ H q = some (.tup (k.map kV)) ∧ H' = upd H T (.tup [.ref q, v])) :=
  ⟨fun _ _ hi q => ⟨q, hi⟩, fun _ q => ⟨q, Nat.le_refl _⟩, fun _ _ _ _ _ _ y => y⟩
theorem turn_itemsT {P : Program} {w : World} {K : PySem.W.Frag} {d : Addr} {o : Obj} {es : Array DictEntry} {ep : Nat} {kvs : List (List L2.Key × V)} {elts : List Expr} {kk : Nat} {tpos : Pos} (it : Addr) (hod : o.data = .dict es ep) :
    Turn P w K (.Tuple elts kk tpos) (Itit d o kvs) [it] it (fun i h => ∃ ok ov, IsItemIter h it d i kvs.length ep ok ov) where
  mem := by simp
  obj := fun i h st b hb => by
    have e : b = it := by simpa using hb
    subst e
    obtain ⟨ok, ov, e⟩ := st
    exact ⟨_, e, fun v z => nomatch z⟩
  keep := fun i h h' st k => let ⟨ok, ov, e⟩ := st; ⟨ok, ov, k it (by simp) _ e⟩
  item := by
    intro X hP hw hK hc i pins s σ H E I hf st hg
    subst hP hw hK
    obtain ⟨hd, hi⟩ := hg
    obtain ⟨hs, hgd, hx, es', ep', hdt, hsz, ent⟩ := frzT2 I hd
    obtain ⟨rfl, rfl⟩ := dict_ep hdt hod
    obtain ⟨⟨k, v⟩, hkv⟩ : ∃ p, kvs[i]? = some p := ⟨kvs[i], List.getElem?_eq_getElem hi⟩
    obtain ⟨en, q, hen, hkey, hq, rv⟩ := ent i k v hkv
    obtain ⟨ok, ov, he⟩ := st
    rw [← hsz] at he
    have hlt : it < s.heap.objs.size := Heap.lt_size he
    have raw : s.heap.DictRaw d es ep := ⟨o, hgd, hx, hod⟩
    have hi2 : i < es.size := by omega
    have een : es[i] = en := Option.some.inj ((Array.getElem?_eq_getElem hi2).symm.trans hen)
    refine wpAny_pyNext_items_item_raw he raw hi2 fun h' ho hT hz hk => ?_
    rw [een, hkey] at ho hT
    refine ⟨_, rfl, wpAny_letOwnedTupleGo_items (s := { s with heap := h' }) ho fun h'' he' sb => ?_⟩
    have hT2 : h''.get? s.heap.objs.size = some { cls := .type "tuple", data := .seq #[.ref q, en.val] } := (sb.2 _ (Nat.ne_of_gt hlt)).trans hT
    have new : ObjOk X.prog X.w (upd H s.heap.objs.size (.tup [.ref q, v])) h'' s.heap.objs.size (.tup [.ref q, v]) :=
      ⟨by show 2 ≤ sizeLine; decide, [.ref q, en.val], .cons rfl (.cons rv .nil), ⟨_, hT2, rfl, _, rfl⟩⟩
    have I1 : Inv X pins σ (upd H s.heap.objs.size (.tup [.ref q, v])) { s with heap := h'' } :=
      I.turnedNew (t' := s.toks) (ch := [it]) (fun b ob hb e => (sb.2 b (by simpa using hb)).trans (hk b ob (by simpa using hb) e)) hf (Nat.le_refl _) new
    refine ⟨.ref s.heap.objs.size, _, I1, rfl, ⟨_, q, k, v, hkv, rfl, I.hok.fresh (Nat.le_refl _), hq, rfl⟩, ⟨.ref q, en.val, ?_⟩, fun b hb => ?_⟩
    · rw [← hsz]; exact he'
    · have e : b = it := by simpa using hb
      rw [e, upd_ne (Nat.ne_of_lt hlt)]
      exact (hf it (by simp)).1
  done := by
    intro X hP hw hK hc i pins s σ H E I hf st hg
    subst hP hw hK
    obtain ⟨hd, hi⟩ := hg
    obtain ⟨f0, f1, f2, f3, f4, f5⟩ := hf it (by simp)
    obtain ⟨hs, hgd, hx, es', ep', hdt, hsz, ent⟩ := frzT2 I hd
    obtain ⟨rfl, rfl⟩ := dict_ep hdt hod
    obtain ⟨ok, ov, he⟩ := st
    rw [← hsz] at he
    have raw : s.heap.DictRaw d es ep := ⟨o, hgd, hx, hod⟩
    exact wpAny_pyNext_items_end_raw (I.ok.hd hc) he raw (by omega) fun h' eb => ⟨rfl, I.turned (t' := s.toks) (fun b ob hb e => eb b ob hb e) f0 f1 f3 f4 f5⟩
  self := fun A i s Q E st h => let ⟨_, _, e⟩ := st; PySem.W.kcp_self e h
def iItemsT (td : TE) : TI := fun σ H R => td σ H fun x H1 => ∃ d o kvs, x = .ref d ∧ H1 d = some (.frz o (.dT kvs)) ∧ R (Itit d o kvs) H1
theorem pi_itemsT {X : Cx} {e : Expr} {td : TE} {apos cpos tpos : Pos} {elts : List Expr} {kk : Nat} (he : PE X e td) (hbase : attributeBase e "items" X.env (eval e X.env) = eval e X.env := by rfl) (hline : (apos.endLine == cpos.line) = true := by rfl) :
    PI X (.Tuple elts kk tpos) (.Call (.Attribute e "items" apos) [] [] cpos) (iItemsT td) := by
  refine ⟨fun pins s σ H R I h => ?_⟩
  refine wpAny_Call_method (T := "dict") (id := "dict.items") hbase rfl hline F.plainAttrs_dict F.slot_dict_items F.type_dict_items (thn (he.run pins s σ H _ I h) fun u s1 ⟨x, H1, I1, rx, d, o, kvs, ex, hd, q⟩ => ?_)
  subst ex
  obtain rfl : u = Value.ref d := rx
  obtain ⟨hs, hgd, hx, es, ep, hdt, hsz, ent⟩ := frzT2 I1 hd
  have raw : s1.heap.DictRaw d es ep := ⟨o, hgd, hx, hdt⟩
  refine ⟨raw.typeIs, ?_, ?_⟩
  · intro a ea
    cases ea
    exact ⟨o, hgd, hx.2.1⟩
  have I2 : Inv X pins σ H1 { s1 with heap := s1.heap.push { cls := .type "dict_items", data := .fields #[.ref d] } } := I1.kept (t' := s1.toks) fun b ob q => Heap.get?_push_of_some _ q
  have fin : wpAny (model X.prog X.w) X.A (pyIter (.ref s1.heap.objs.size)) (PIE X pins σ (.Tuple elts kk tpos) R) X.xe { s1 with heap := s1.heap.push { cls := .type "dict_items", data := .fields #[.ref d] } } := by
    refine wpAny_pyIter_items_raw (d := d) ⟨_, Heap.get?_push_size _ rfl, rfl, rfl⟩ ⟨o, Heap.get?_push_of_some _ hgd, hx, hdt⟩ (pi_one (tk := s1.toks) I2 _ (turn_itemsT _ hdt) ⟨.none, .none, ?_⟩ q)
    rw [← hsz]
    exact Heap.get?_push_size _ rfl
  show wpAny _ _ (callWith cpos (.builtin "dict.items") [.ref d] [] []) _ X.xe s1
  exact method_meetsIn F.slot_dict_items F.entry_dict_items rfl (PySem.evalArgs_none ⟨rfl, raw.typeIs, F.args_dict_items_1 _, _, meets_dict_items_raw d hs, ⟨es, ep, raw⟩, fin⟩)
end CD

-- dictcomps
namespace CD
open PySem PySem.Spec PyProof.Rows L2
/-! ### d.values() and list(d.values()), d with ints and texts for keys (behind baseY2) -/
section
variable {X : Cx}
def rValuesK : V → List V → Hp → VK → Prop := fun x xs H Q => ∃ (a : Addr) (kvs : List (L2.Key × V)), x = .ref a ∧ xs = [] ∧ H a = some (.dK kvs) ∧ ∀ p, H p = none → Q (.ref p) (upd H p (valsO p a))
theorem mt_valuesK : MtR X "dict.values" rValuesK := by
  intro pins s σ H x xs v us Q I rx rxs h
  obtain ⟨a, kvs, rfl, rfl, ha, q⟩ := h
  cases rx
  cases rxs
  obtain ⟨z, hd, vs, rel, dd⟩ := dk_of I.hok ha
  obtain ⟨es, ep, raw, _⟩ := dd.raw
  refine call_meetsIn PySem.F.slot_dict_values raw.typeIs PySem.F.entry_dict_values (PySem.F.args_dict_values_1 _) (meets_dict_values_raw a hd) ⟨⟨es, ep, raw⟩, ?_⟩
  have new : ObjOk X.prog X.w (upd H s.heap.objs.size (valsO s.heap.objs.size a)) (s.heap.push { cls := .type "dict_values", data := .fields #[.ref a] }) s.heap.objs.size (valsO s.heap.objs.size a) :=
    ⟨⟨_, Heap.get?_push_size _ rfl, rfl, rfl⟩, ⟨_, Heap.get?_push_size _ rfl⟩, fun h1 h2 y k => let ⟨u, hu, r⟩ := y; ⟨u, k u hu, r⟩⟩
  exact ⟨.ref s.heap.objs.size, _, I.laid (t' := s.toks) (fun b u e => Heap.get?_push_of_some _ e) (Nat.le_refl _) new, rfl, q _ (I.hok.fresh (Nat.le_refl _))⟩
theorem vals_of {vs : List (L2.Key × Value)} : ∀ {kvs : List (L2.Key × V)}, KV kvs vs → Vals (kvs.map (·.2)) (vs.map (·.2)) := by
  induction vs with
  | nil => intro kvs h; cases h; exact .nil
  | cons v vs ih =>
    intro kvs h
    cases h with
    | cons r t => exact .cons r.2 (ih t)
theorem call_listVals (hcalm : X.calm = true) : CallR X (.type "list") (fun xs H Q => ∃ (p a : Addr) (kvs : List (L2.Key × V)), xs = [.ref p] ∧ H p = some (valsO p a) ∧ H a = some (.dK kvs) ∧ ∀ l, H l = none → Q (.ref l) (upd H l (.lst (kvs.map (·.2))))) := by
  intro pins s σ H xs us Q I r h
  obtain ⟨p, a, kvs, rfl, hp, ha, q⟩ := h
  rw [Vals.ref1 r]
  obtain ⟨z, hd, vs, rel, dd⟩ := dk_of I.hok ha
  obtain ⟨ep, hat⟩ := dd.dictAt
  have view : s.heap.IsValuesView p a := (show ObjOk X.prog X.w H s.heap p (valsO p a) from I.hok p _ hp).1
  have hl : kvs.length = vs.length := rel.length
  refine PySem.W.kdl_call (PySem.W.kdl_values (knd := mixKind X.prog X.w) (kvs := vs) (ep := ep) (r := p)) (I.ok.hd hcalm) ⟨view, hat⟩ (by rw [← hl]; exact z) fun h' tk acc c' hk hD hacc => ?_
  have hv : acc.toList = vs.map (·.2) := PySem.W.kdl_vals_eq acc.toList (by rw [Array.length_toList]; exact hacc.1) fun j v e => hacc.2 j v (by rw [← Array.getElem?_toList]; exact e)
  refine ⟨.ref s.heap.objs.size, upd H s.heap.objs.size (.lst (kvs.map (·.2))), I.laid (t' := tk) hk (Nat.le_refl _)
    (show ObjOk X.prog X.w _ _ _ (.lst (kvs.map (·.2))) from ⟨by rw [List.length_map]; exact z, acc.toList, c', by rw [hv]; exact vals_of rel, by rw [Array.toArray_toList]; exact hD⟩), rfl, q _ (I.hok.fresh (Nat.le_refl _))⟩
end
end CD

-- dictcomps
namespace CD
open PySem PySem.Spec PyProof.Rows L2
/-! ### name = {k: v for ..} on one line, the name a local -/
theorem sw_trueD {kx vx : Expr} {gs : List Comprehension} {scope : Scope} {pos py : Pos} {y : Str} {l : Nat} {env : Env} (hk : env.scope.kind = .function) (hy : env.scope.names.lookup y = some .local) (hl : (py.line == pos.line) = true)
    (ha : (scope.names.any fun (n, k) => n == y && (k == .local || k == .cell)) = false) : swapsWith (.DictComp kx vx gs scope pos) (some (.Name y py)) l env = pure true := by
  have ky : env.kindOf y = some .local := hy
  have hb : env.blockKind = .function := by unfold Env.blockKind; rw [hk]; rfl
  unfold swapsWith
  simp only [hb, ky, ha, Expr.pos, hl]
  rfl
section
variable {X : Cx}
theorem ps_setDcT {i : Nat} {y : Str} {py : Pos} {kx vx tg iter : Expr} {ifs : List Expr} {scope : Scope} {own : List (Str × Nat)} {pos spos : Pos} {wi : TI} {g : TG} {tt : TT} {tk tv : TE} (hu : X.A.units + 1 < cLine) (calm : X.calm = true) (nod : X.N.Nodup) (hy : X.N[i]? = some y) (hyl : X.env.scope.names.lookup y = some .local)
    (hsw : swapsWith (.DictComp kx vx [⟨tg, iter, ifs, 0⟩] scope pos) (some (.Name y py)) spos.line X.env = pure true) (hi : PI X tg iter wi) (ok : BlkOk X.N X.env.scope scope own)
    (gg : ∀ (s : Shared) (H : Hp) (C : Addr) (cl : List (Str × Addr)) (fp : List Addr), PG (X.blk s H scope (compEnvC scope cl C X.env) fp) tg g)
    (gt : ∀ (s : Shared) (H : Hp) (C : Addr) (cl : List (Str × Addr)) (fp : List Addr), PTs (X.blk s H scope (compEnvC scope cl C X.env) fp) ifs tt)
    (gk : ∀ (s : Shared) (H : Hp) (C : Addr) (cl : List (Str × Addr)) (fp : List Addr), PE (X.blk s H scope (compEnvC scope cl C X.env) fp) kx tk)
    (gv : ∀ (s : Shared) (H : Hp) (C : Addr) (cl : List (Str × Addr)) (fp : List Addr), PE (X.blk s H scope (compEnvC scope cl C X.env) fp) vx tv) (fold : ∀ x, foldedSetIterable iter X.env x = pure x := by intro _; rfl) :
    PS X (.Assign [.Name y py] (.DictComp kx vx [⟨tg, iter, ifs, 0⟩] scope pos) spos) (tAsg (tDcT wi g tt tk tv (own.map (·.2))) (gName i)) := by
  refine ⟨fun pins s σ H D I h => ?_⟩
  rw [exec_Assign_Name_used _ _ _ _ hsw]
  refine wpAny_bind (wpAny_standAt (wpAny_bind ?_))
  show wpAny _ X.A (do let _ ← comprehension (.DictComp kx vx [⟨tg, iter, ifs, 0⟩] scope pos) scope X.env (firstIterPos [⟨tg, iter, ifs, 0⟩] pos) newDict false (eval iter X.env) (some (assign (.Name y py) X.env))) _ _ s
  have h : tDcT wi g tt tk tv (own.map (·.2)) σ H (fun x H1 => gName i x σ H1 D.nx) := h
  refine wpAny_bind (thn (dcT_run (Qf := fun _ s' => SP X pins D .next s') hu calm nod I hi ok gg gt gk gv fold h fun L C s' m H' I' q hn f => ?_) fun _ s' hq => wpAny_pure (wpAny_pure hq))
  show wpAny _ _ (assign (.Name y py) X.env (.ref L)) _ _ _
  refine wpAny_assign_Name (store_ok2 (v := V.ref L) I' nod hy (.inl hyl) rfl (fun s2 I2 ⟨a, sb, ha⟩ => ?_) (.inr hyl))
  obtain ⟨f0, f1, f2, f3, f4, f5⟩ := f
  have haC : C ≠ a := by
    rcases ha with z | z
    · rw [z]; exact f1
    · exact fun e => f4 y a z e.symm
  refine ⟨m, hn.sameBut sb haC, fun h3 sb3 => ?_⟩
  exact ⟨_, H', I2.turned (t' := s2.toks) (fun b o hb e => (sb3.2 b hb).trans e) f0 f1 f3 f4 f5, q⟩
end
end CD

-- dictcomps
-- sortkw
-- sortdi
namespace CD
open PySem PySem.Spec PyProof.Rows L2
/-! ### name = {k: v for ..} on one line, the name a local, the keys ints or texts -/
section
variable {X : Cx}
theorem ps_setDcK {i : Nat} {y : Str} {py : Pos} {kx vx tg iter : Expr} {ifs : List Expr} {scope : Scope} {own : List (Str × Nat)} {pos spos : Pos} {wi : TI} {g : TG} {tt : TT} {tk tv : TE} (calm : X.calm = true) (nod : X.N.Nodup) (hy : X.N[i]? = some y) (hyl : X.env.scope.names.lookup y = some .local)
    (hsw : swapsWith (.DictComp kx vx [⟨tg, iter, ifs, 0⟩] scope pos) (some (.Name y py)) spos.line X.env = pure true) (hi : PI X tg iter wi) (ok : BlkOk X.N X.env.scope scope own)
    (gg : ∀ (s : Shared) (H : Hp) (C : Addr) (cl : List (Str × Addr)) (fp : List Addr), PG (X.blk s H scope (compEnvC scope cl C X.env) fp) tg g)
    (gt : ∀ (s : Shared) (H : Hp) (C : Addr) (cl : List (Str × Addr)) (fp : List Addr), PTs (X.blk s H scope (compEnvC scope cl C X.env) fp) ifs tt)
    (gk : ∀ (s : Shared) (H : Hp) (C : Addr) (cl : List (Str × Addr)) (fp : List Addr), PE (X.blk s H scope (compEnvC scope cl C X.env) fp) kx tk)
    (gv : ∀ (s : Shared) (H : Hp) (C : Addr) (cl : List (Str × Addr)) (fp : List Addr), PE (X.blk s H scope (compEnvC scope cl C X.env) fp) vx tv) (fold : ∀ x, foldedSetIterable iter X.env x = pure x := by intro _; rfl) :
    PS X (.Assign [.Name y py] (.DictComp kx vx [⟨tg, iter, ifs, 0⟩] scope pos) spos) (tAsg (tDc wi g tt tk tv (own.map (·.2))) (gName i)) := by
  refine ⟨fun pins s σ H D I h => ?_⟩
  rw [exec_Assign_Name_used _ _ _ _ hsw]
  refine wpAny_bind (wpAny_standAt (wpAny_bind ?_))
  show wpAny _ X.A (do let _ ← comprehension (.DictComp kx vx [⟨tg, iter, ifs, 0⟩] scope pos) scope X.env (firstIterPos [⟨tg, iter, ifs, 0⟩] pos) newDict false (eval iter X.env) (some (assign (.Name y py) X.env))) _ _ s
  have h : tDc wi g tt tk tv (own.map (·.2)) σ H (fun x H1 => gName i x σ H1 D.nx) := h
  refine wpAny_bind (thn (dc_core (Qf := fun _ s' => SP X pins D .next s') calm nod I hi ok gg gt gk gv fold h fun L C s' m H' I' q hn f => ?_) fun _ s' hq => wpAny_pure (wpAny_pure hq))
  show wpAny _ _ (assign (.Name y py) X.env (.ref L)) _ _ _
  refine wpAny_assign_Name (store_ok2 (v := V.ref L) I' nod hy (.inl hyl) rfl (fun s2 I2 ⟨a, sb, ha⟩ => ?_) (.inr hyl))
  obtain ⟨f0, f1, f2, f3, f4, f5⟩ := f
  have haC : C ≠ a := by
    rcases ha with z | z
    · rw [z]; exact f1
    · exact fun e => f4 y a z e.symm
  refine ⟨m, hn.sameBut sb haC, fun h3 sb3 => ?_⟩
  exact ⟨_, H', I2.turned (t' := s2.toks) (fun b o hb e => (sb3.2 b hb).trans e) f0 f1 f3 f4 f5, q⟩
end
/-- such a comprehension over what is walked -/
theorem dcK_it {J : It} {n : Nat} {G : Hp → Prop} {Y : Nat → Hp → V → Hp → Prop} (w : Walk J n G Y) {g : TG} {tt : TT} {tk tv : TE} {vs : List Nat} {σ : L2.St} {H1 : Hp} {D : Addr} {Qd : Hp → Prop} (Pv : Nat → Hp → Prop) (h0 : Pv 0 (upd H1 D (.dK []))) (hl : ∀ i H, i ≤ n → Pv i H → G H)
    (hs : ∀ i x H H2, i < n → Pv i H → Y i H x H2 → g x (wipe σ vs) H2 fun σ2 H3 => wipe σ2 vs = wipe σ vs ∧ tt σ2 H3 fun b H4 =>
      if b = true then tk σ2 H4 fun y H5 => tv σ2 H5 fun z H6 => ∃ kvs k, y = kV k ∧ H6 D = some (.dK kvs) ∧ kvs.length < sizeLine ∧ Pv (i + 1) (upd H6 D (.dK (putK kvs k z))) else Pv (i + 1) H4)
    (hd : ∀ H, Pv n H → Qd H) :
    ∃ W : Nat → Nat → Hp → Prop, (∃ m, W 0 m (upd H1 D (.dK []))) ∧ ∀ i m H, W i m H →
      (J.stop i H ∧ Qd H) ∨ (J.go i H ∧ ∃ Nx : Hp → Prop, (∀ H', Nx H' → ∃ m', m' < m ∧ W (i + 1) m' H') ∧ ∀ x H', J.yld i H x H' → g x (wipe σ vs) H' fun σ2 H2 => wipe σ2 vs = wipe σ vs ∧ tt σ2 H2 fun b H3 =>
        if b = true then tk σ2 H3 fun y H4 => tv σ2 H4 fun z H5 => ∃ kvs k, y = kV k ∧ H5 D = some (.dK kvs) ∧ kvs.length < sizeLine ∧ Nx (upd H5 D (.dK (putK kvs k z))) else Nx H3) := by
  refine ⟨fun i m H => m = n - i ∧ i ≤ n ∧ Pv i H, ⟨n, rfl, Nat.zero_le _, h0⟩, ?_⟩
  rintro i m H ⟨rfl, hi, p⟩
  have q := hl i H hi p
  by_cases c : i < n
  · exact .inr ⟨w.goes i H c q, Pv (i + 1), fun H2 p2 => ⟨n - (i + 1), by omega, rfl, c, p2⟩, fun x H2 y => hs i x H H2 c p (w.yields i H x H2 c q y)⟩
  · obtain rfl : i = n := by omega
    exact .inl ⟨w.stops H q, hd H p⟩
end CD

namespace CS
open PySem PySem.Spec PyProof.Rows L2
def top (i : Nat) : Stmt := PySem.Challenge.pw_calledseats_k66_max_more_by_search.main.body.getD i (.Pass ⟨0, 0, 0, 0⟩)
abbrev s_wall : Stmt := top 0
abbrev N_wall : List Str := ["k"]
theorem sc_wall : FnScope N_wall ["k"] (defScope s_wall) := ⟨rfl, rfl, rfl, by decide +kernel, rfl, by decide +kernel, by decide +kernel⟩
abbrev s_is_integer : Stmt := top 8
abbrev N_is_integer : List Str := ["value"]
theorem sc_is_integer : FnScope N_is_integer ["value"] (defScope s_is_integer) := ⟨rfl, rfl, rfl, by decide +kernel, rfl, by decide +kernel, by decide +kernel⟩
abbrev s_is_at_least : Stmt := top 9
abbrev N_is_at_least : List Str := ["value", "low"]
theorem sc_is_at_least : FnScope N_is_at_least ["value", "low"] (defScope s_is_at_least) := ⟨rfl, rfl, rfl, by decide +kernel, rfl, by decide +kernel, by decide +kernel⟩
abbrev s_is_between : Stmt := top 10
abbrev N_is_between : List Str := ["value", "low", "high"]
theorem sc_is_between : FnScope N_is_between ["value", "low", "high"] (defScope s_is_between) := ⟨rfl, rfl, rfl, by decide +kernel, rfl, by decide +kernel, by decide +kernel⟩
abbrev s_greatest_common_divisor : Stmt := top 11
abbrev N_greatest_common_divisor : List Str := ["first", "second"]
theorem sc_greatest_common_divisor : FnScope N_greatest_common_divisor ["first", "second"] (defScope s_greatest_common_divisor) := ⟨rfl, rfl, rfl, by decide +kernel, rfl, by decide +kernel, by decide +kernel⟩
abbrev s_Table_init : Stmt := inClass (top 14) 0
abbrev N_Table_init : List Str := ["self", "rings", "size"]
theorem sc_Table_init : FnScope N_Table_init ["self", "rings"] (defScope s_Table_init) := ⟨rfl, rfl, rfl, by decide +kernel, rfl, by decide +kernel, by decide +kernel⟩
abbrev s_Table_sizes : Stmt := inClass (top 14) 1
abbrev N_Table_sizes : List Str := ["self"]
theorem sc_Table_sizes : FnScope N_Table_sizes ["self"] (defScope s_Table_sizes) := ⟨rfl, rfl, rfl, by decide +kernel, rfl, by decide +kernel, by decide +kernel⟩
abbrev s_Table_count : Stmt := inClass (top 14) 2
abbrev N_Table_count : List Str := ["self", "product", "size"]
theorem sc_Table_count : FnScope N_Table_count ["self"] (defScope s_Table_count) := ⟨rfl, rfl, rfl, by decide +kernel, rfl, by decide +kernel, by decide +kernel⟩
abbrev s_Table_is_seat : Stmt := inClass (top 14) 3
abbrev N_Table_is_seat : List Str := ["self", "value", "place", "size"]
theorem sc_Table_is_seat : FnScope N_Table_is_seat ["self", "value"] (defScope s_Table_is_seat) := ⟨rfl, rfl, rfl, by decide +kernel, rfl, by decide +kernel, by decide +kernel⟩
abbrev s_Table_is_call : Stmt := inClass (top 14) 4
abbrev N_Table_is_call : List Str := ["self", "value"]
theorem sc_Table_is_call : FnScope N_Table_is_call ["self", "value"] (defScope s_Table_is_call) := ⟨rfl, rfl, rfl, by decide +kernel, rfl, by decide +kernel, by decide +kernel⟩
abbrev s_Table_shifted : Stmt := inClass (top 14) 5
abbrev N_Table_shifted : List Str := ["self", "seat", "call", "factor"]
theorem sc_Table_shifted : FnScope N_Table_shifted ["self", "seat", "call", "factor"] (defScope s_Table_shifted) := ⟨rfl, rfl, rfl, by decide +kernel, rfl, by decide +kernel, by decide +kernel⟩
abbrev s_Table_moves : Stmt := inClass (top 14) 6
abbrev N_Table_moves : List Str := ["self", "seat", "call"]
theorem sc_Table_moves : FnScope N_Table_moves ["self", "seat", "call"] (defScope s_Table_moves) := ⟨rfl, rfl, rfl, by decide +kernel, rfl, by decide +kernel, by decide +kernel⟩
abbrev s_Table_step : Stmt := inClass (top 14) 7
abbrev N_Table_step : List Str := ["self", "seat", "call", "direction"]
theorem sc_Table_step : FnScope N_Table_step ["self", "seat", "call", "direction"] (defScope s_Table_step) := ⟨rfl, rfl, rfl, by decide +kernel, rfl, by decide +kernel, by decide +kernel⟩
abbrev s_Table_order : Stmt := inClass (top 14) 8
abbrev N_Table_order : List Str := ["self", "seat", "least", "place", "size", "period"]
theorem sc_Table_order : FnScope N_Table_order ["self", "seat"] (defScope s_Table_order) := ⟨rfl, rfl, rfl, by decide +kernel, rfl, by decide +kernel, by decide +kernel⟩
abbrev s_Table_halves : Stmt := inClass (top 14) 9
abbrev N_Table_halves : List Str := ["self", "seat"]
theorem sc_Table_halves : FnScope N_Table_halves ["self", "seat"] (defScope s_Table_halves) := ⟨rfl, rfl, rfl, by decide +kernel, rfl, by decide +kernel, by decide +kernel⟩
abbrev s_require_table : Stmt := top 15
abbrev N_require_table : List Str := ["table"]
theorem sc_require_table : FnScope N_require_table ["table"] (defScope s_require_table) := ⟨rfl, rfl, rfl, by decide +kernel, rfl, by decide +kernel, by decide +kernel⟩
abbrev s_require_seat : Stmt := top 16
abbrev N_require_seat : List Str := ["table", "seat"]
theorem sc_require_seat : FnScope N_require_seat ["table", "seat"] (defScope s_require_seat) := ⟨rfl, rfl, rfl, by decide +kernel, rfl, by decide +kernel, by decide +kernel⟩
abbrev s_all_seats : Stmt := top 17
abbrev N_all_seats : List Str := ["table", "found", "size", "start", "place"]
theorem sc_all_seats : FnScope N_all_seats ["table"] (defScope s_all_seats) := ⟨rfl, rfl, rfl, by decide +kernel, rfl, by decide +kernel, by decide +kernel⟩
abbrev s_mirror_seat : Stmt := top 19
abbrev N_mirror_seat : List Str := ["table", "seat", "other", "place", "one", "size"]
theorem sc_mirror_seat : FnScope N_mirror_seat ["table", "seat", "other"] (defScope s_mirror_seat) := ⟨rfl, rfl, rfl, by decide +kernel, rfl, by decide +kernel, by decide +kernel⟩
abbrev s_require_visited : Stmt := top 22
abbrev N_require_visited : List Str := ["table", "visited", "seen", "index", "seat"]
theorem sc_require_visited : FnScope N_require_visited ["table", "visited"] (defScope s_require_visited) := ⟨rfl, rfl, rfl, by decide +kernel, rfl, by decide +kernel, by decide +kernel⟩
abbrev s_require_state : Stmt := top 23
abbrev N_require_state : List Str := ["table", "visited", "seat"]
theorem sc_require_state : FnScope N_require_state ["table", "visited", "seat"] (defScope s_require_state) := ⟨rfl, rfl, rfl, by decide +kernel, rfl, by decide +kernel, by decide +kernel⟩
abbrev s_unvisited_seats : Stmt := top 24
abbrev N_unvisited_seats : List Str := ["table", "visited", "seat", "known", "one"]
theorem sc_unvisited_seats : FnScope N_unvisited_seats ["table", "visited", "seat"] (defScope s_unvisited_seats) := ⟨rfl, rfl, rfl, by decide +kernel, rfl, by decide +kernel, by decide +kernel⟩
abbrev s_forced_seats : Stmt := top 25
abbrev N_forced_seats : List Str := ["table", "goals", "allowed", "found", "changed", "seat", "goal", "one"]
theorem sc_forced_seats : FnScope N_forced_seats ["table", "goals", "allowed"] (defScope s_forced_seats) := ⟨rfl, rfl, rfl, by decide +kernel, rfl, by decide +kernel, by decide +kernel⟩
abbrev s_final_counts : Stmt := top 26
abbrev N_final_counts : List Str := ["table", "open_seats", "known", "allowed", "outcomes", "goal", "rest", "found", "limits", "outcome", "forced", "seat"]
theorem sc_final_counts : FnScope N_final_counts ["table", "open_seats", "known"] (defScope s_final_counts) := ⟨rfl, rfl, rfl, by decide +kernel, rfl, by decide +kernel, by decide +kernel⟩
abbrev s_max_more : Stmt := top 27
abbrev N_max_more : List Str := ["table", "visited", "seat", "open_seats"]
theorem sc_max_more : FnScope N_max_more ["table", "visited", "seat"] (defScope s_max_more) := ⟨rfl, rfl, rfl, by decide +kernel, rfl, by decide +kernel, by decide +kernel⟩
abbrev s_law_mix : Stmt := top 29
abbrev N_law_mix : List Str := ["_law_cell", "_law_step", "_law_number"]
theorem sc_law_mix : FnScope N_law_mix ["_law_cell", "_law_step"] (defScope s_law_mix) := ⟨rfl, rfl, rfl, by decide +kernel, rfl, by decide +kernel, by decide +kernel⟩
abbrev s_law_source : Stmt := top 30
abbrev N_law_source : List Str := ["_law_cell"]
theorem sc_law_source : FnScope N_law_source ["_law_cell"] (defScope s_law_source) := ⟨rfl, rfl, rfl, by decide +kernel, rfl, by decide +kernel, by decide +kernel⟩
abbrev s_law_draw : Stmt := top 31
abbrev N_law_draw : List Str := ["_law_source_here", "_law_bound", "_law_drawn"]
theorem sc_law_draw : FnScope N_law_draw ["_law_source_here", "_law_bound"] (defScope s_law_draw) := ⟨rfl, rfl, rfl, by decide +kernel, rfl, by decide +kernel, by decide +kernel⟩
abbrev s_law_choice : Stmt := top 32
abbrev N_law_choice : List Str := ["_law_source_here", "_law_options"]
theorem sc_law_choice : FnScope N_law_choice ["_law_source_here", "_law_options"] (defScope s_law_choice) := ⟨rfl, rfl, rfl, by decide +kernel, rfl, by decide +kernel, by decide +kernel⟩
abbrev s_law_shuffle : Stmt := top 33
abbrev N_law_shuffle : List Str := ["_law_source_here", "_law_options", "_law_pool", "_law_shuffled"]
theorem sc_law_shuffle : FnScope N_law_shuffle ["_law_source_here", "_law_options"] (defScope s_law_shuffle) := ⟨rfl, rfl, rfl, by decide +kernel, rfl, by decide +kernel, by decide +kernel⟩
abbrev s_law_dims : Stmt := top 34
abbrev N_law_dims : List Str := ["_law_source_here", "_law_bound", "_law_some", "_law_dims_here"]
theorem sc_law_dims : FnScope N_law_dims ["_law_source_here", "_law_bound"] (defScope s_law_dims) := ⟨rfl, rfl, rfl, by decide +kernel, rfl, by decide +kernel, by decide +kernel⟩
abbrev s_law_total : Stmt := top 35
abbrev N_law_total : List Str := ["_law_dims_here", "_law_total_here", "_law_size"]
theorem sc_law_total : FnScope N_law_total ["_law_dims_here"] (defScope s_law_total) := ⟨rfl, rfl, rfl, by decide +kernel, rfl, by decide +kernel, by decide +kernel⟩
abbrev s_law_spots : Stmt := top 36
abbrev N_law_spots : List Str := ["_law_dims_here", "_law_spots_here", "_law_size", "_law_longer", "_law_spot", "_law_place"]
theorem sc_law_spots : FnScope N_law_spots ["_law_dims_here"] (defScope s_law_spots) := ⟨rfl, rfl, rfl, by decide +kernel, rfl, by decide +kernel, by decide +kernel⟩
abbrev s_law_moved : Stmt := top 37
abbrev N_law_moved : List Str := ["_law_dims_here", "_law_spot", "_law_hop", "_law_factor", "_law_place", "_law_one", "_law_size"]
theorem sc_law_moved : FnScope N_law_moved ["_law_dims_here", "_law_spot", "_law_hop", "_law_factor"] (defScope s_law_moved) := ⟨rfl, rfl, rfl, by decide +kernel, rfl, by decide +kernel, by decide +kernel⟩
abbrev s_law_forced : Stmt := top 38
abbrev N_law_forced : List Str := ["_law_dims_here", "_law_goals", "_law_allowed", "_law_every", "_law_forced_here", "_law_changed", "_law_spot", "_law_both", "_law_one", "_law_hop", "_law_factor", "_law_other"]
theorem sc_law_forced : FnScope N_law_forced ["_law_dims_here", "_law_goals", "_law_allowed"] (defScope s_law_forced) := ⟨rfl, rfl, rfl, by decide +kernel, rfl, by decide +kernel, by decide +kernel⟩
abbrev s_law_final : Stmt := top 39
abbrev N_law_final : List Str := ["_law_dims_here", "_law_goals", "_law_known", "_law_allowed", "_law_outcomes", "_law_goal", "_law_fewer", "_law_final_here", "_law_bound", "_law_good", "_law_spot", "_law_one", "_law_outcome"]
theorem sc_law_final : FnScope N_law_final ["_law_dims_here", "_law_goals", "_law_known"] (defScope s_law_final) := ⟨rfl, rfl, rfl, by decide +kernel, rfl, by decide +kernel, by decide +kernel⟩
abbrev s_law : Stmt := top 40
abbrev N_law : List Str := ["_law_script", "_law_source_here", "_law_dims_here", "_law_goals", "_law_been", "_law_cell", "_law_every", "_law_spot", "_law_handed", "_law_due", "_law_found", "_law_one"]
theorem sc_law : FnScope N_law ["_law_script"] (defScope s_law) := ⟨rfl, rfl, rfl, by decide +kernel, rfl, by decide +kernel, by decide +kernel⟩
/-- what the top has written -/
structure TX (K : PySem.W.Frag) (mg : Str → Option Value) where
  f_wall : Addr
  fd_wall : FuncData
  F_wall : Fun K "_wall" "_wall" s_wall f_wall fd_wall
  b_wall : Binds K fd_wall ["k"] []
  m_wall : mg "_wall" = some (.ref f_wall)
  f_is_integer : Addr
  fd_is_integer : FuncData
  F_is_integer : Fun K "is_integer" "is_integer" s_is_integer f_is_integer fd_is_integer
  b_is_integer : Binds K fd_is_integer ["value"] []
  m_is_integer : mg "is_integer" = some (.ref f_is_integer)
  f_is_at_least : Addr
  fd_is_at_least : FuncData
  F_is_at_least : Fun K "is_at_least" "is_at_least" s_is_at_least f_is_at_least fd_is_at_least
  b_is_at_least : Binds K fd_is_at_least ["value", "low"] []
  m_is_at_least : mg "is_at_least" = some (.ref f_is_at_least)
  f_is_between : Addr
  fd_is_between : FuncData
  F_is_between : Fun K "is_between" "is_between" s_is_between f_is_between fd_is_between
  b_is_between : Binds K fd_is_between ["value", "low", "high"] []
  m_is_between : mg "is_between" = some (.ref f_is_between)
  f_greatest_common_divisor : Addr
  fd_greatest_common_divisor : FuncData
  F_greatest_common_divisor : Fun K "greatest_common_divisor" "greatest_common_divisor" s_greatest_common_divisor f_greatest_common_divisor fd_greatest_common_divisor
  b_greatest_common_divisor : Binds K fd_greatest_common_divisor ["first", "second"] []
  m_greatest_common_divisor : mg "greatest_common_divisor" = some (.ref f_greatest_common_divisor)
  f_Table_init : Addr
  fd_Table_init : FuncData
  F_Table_init : Fun K "__init__" "Table.__init__" s_Table_init f_Table_init fd_Table_init
  b_Table_init : Binds K fd_Table_init ["self", "rings"] []
  f_Table_sizes : Addr
  fd_Table_sizes : FuncData
  F_Table_sizes : Fun K "sizes" "Table.sizes" s_Table_sizes f_Table_sizes fd_Table_sizes
  b_Table_sizes : Binds K fd_Table_sizes ["self"] []
  f_Table_count : Addr
  fd_Table_count : FuncData
  F_Table_count : Fun K "count" "Table.count" s_Table_count f_Table_count fd_Table_count
  b_Table_count : Binds K fd_Table_count ["self"] []
  f_Table_is_seat : Addr
  fd_Table_is_seat : FuncData
  F_Table_is_seat : Fun K "is_seat" "Table.is_seat" s_Table_is_seat f_Table_is_seat fd_Table_is_seat
  b_Table_is_seat : Binds K fd_Table_is_seat ["self", "value"] []
  f_Table_is_call : Addr
  fd_Table_is_call : FuncData
  F_Table_is_call : Fun K "is_call" "Table.is_call" s_Table_is_call f_Table_is_call fd_Table_is_call
  b_Table_is_call : Binds K fd_Table_is_call ["self", "value"] []
  f_Table_shifted : Addr
  fd_Table_shifted : FuncData
  F_Table_shifted : Fun K "shifted" "Table.shifted" s_Table_shifted f_Table_shifted fd_Table_shifted
  b_Table_shifted : Binds K fd_Table_shifted ["self", "seat", "call", "factor"] []
  f_Table_moves : Addr
  fd_Table_moves : FuncData
  F_Table_moves : Fun K "moves" "Table.moves" s_Table_moves f_Table_moves fd_Table_moves
  b_Table_moves : Binds K fd_Table_moves ["self", "seat", "call"] []
  f_Table_step : Addr
  fd_Table_step : FuncData
  F_Table_step : Fun K "step" "Table.step" s_Table_step f_Table_step fd_Table_step
  b_Table_step : Binds K fd_Table_step ["self", "seat", "call", "direction"] []
  f_Table_order : Addr
  fd_Table_order : FuncData
  F_Table_order : Fun K "order" "Table.order" s_Table_order f_Table_order fd_Table_order
  b_Table_order : Binds K fd_Table_order ["self", "seat"] []
  f_Table_halves : Addr
  fd_Table_halves : FuncData
  F_Table_halves : Fun K "halves" "Table.halves" s_Table_halves f_Table_halves fd_Table_halves
  b_Table_halves : Binds K fd_Table_halves ["self", "seat"] []
  f_require_table : Addr
  fd_require_table : FuncData
  F_require_table : Fun K "require_table" "require_table" s_require_table f_require_table fd_require_table
  b_require_table : Binds K fd_require_table ["table"] []
  m_require_table : mg "require_table" = some (.ref f_require_table)
  f_require_seat : Addr
  fd_require_seat : FuncData
  F_require_seat : Fun K "require_seat" "require_seat" s_require_seat f_require_seat fd_require_seat
  b_require_seat : Binds K fd_require_seat ["table", "seat"] []
  m_require_seat : mg "require_seat" = some (.ref f_require_seat)
  f_all_seats : Addr
  fd_all_seats : FuncData
  F_all_seats : Fun K "all_seats" "all_seats" s_all_seats f_all_seats fd_all_seats
  b_all_seats : Binds K fd_all_seats ["table"] []
  m_all_seats : mg "all_seats" = some (.ref f_all_seats)
  f_mirror_seat : Addr
  fd_mirror_seat : FuncData
  F_mirror_seat : Fun K "mirror_seat" "mirror_seat" s_mirror_seat f_mirror_seat fd_mirror_seat
  b_mirror_seat : Binds K fd_mirror_seat ["table", "seat", "other"] []
  m_mirror_seat : mg "mirror_seat" = some (.ref f_mirror_seat)
  f_require_visited : Addr
  fd_require_visited : FuncData
  F_require_visited : Fun K "require_visited" "require_visited" s_require_visited f_require_visited fd_require_visited
  b_require_visited : Binds K fd_require_visited ["table", "visited"] []
  m_require_visited : mg "require_visited" = some (.ref f_require_visited)
  f_require_state : Addr
  fd_require_state : FuncData
  F_require_state : Fun K "require_state" "require_state" s_require_state f_require_state fd_require_state
  b_require_state : Binds K fd_require_state ["table", "visited", "seat"] []
  m_require_state : mg "require_state" = some (.ref f_require_state)
  f_unvisited_seats : Addr
  fd_unvisited_seats : FuncData
  F_unvisited_seats : Fun K "unvisited_seats" "unvisited_seats" s_unvisited_seats f_unvisited_seats fd_unvisited_seats
  b_unvisited_seats : Binds K fd_unvisited_seats ["table", "visited", "seat"] []
  m_unvisited_seats : mg "unvisited_seats" = some (.ref f_unvisited_seats)
  f_forced_seats : Addr
  fd_forced_seats : FuncData
  F_forced_seats : Fun K "forced_seats" "forced_seats" s_forced_seats f_forced_seats fd_forced_seats
  b_forced_seats : Binds K fd_forced_seats ["table", "goals", "allowed"] []
  m_forced_seats : mg "forced_seats" = some (.ref f_forced_seats)
  f_final_counts : Addr
  fd_final_counts : FuncData
  F_final_counts : Fun K "final_counts" "final_counts" s_final_counts f_final_counts fd_final_counts
  b_final_counts : Binds K fd_final_counts ["table", "open_seats", "known"] []
  m_final_counts : mg "final_counts" = some (.ref f_final_counts)
  f_max_more : Addr
  fd_max_more : FuncData
  F_max_more : Fun K "max_more" "max_more" s_max_more f_max_more fd_max_more
  b_max_more : Binds K fd_max_more ["table", "visited", "seat"] []
  m_max_more : mg "max_more" = some (.ref f_max_more)
  f_law_mix : Addr
  fd_law_mix : FuncData
  F_law_mix : Fun K "_law_mix" "_law_mix" s_law_mix f_law_mix fd_law_mix
  b_law_mix : Binds K fd_law_mix ["_law_cell", "_law_step"] []
  m_law_mix : mg "_law_mix" = some (.ref f_law_mix)
  f_law_source : Addr
  fd_law_source : FuncData
  F_law_source : Fun K "_law_source" "_law_source" s_law_source f_law_source fd_law_source
  b_law_source : Binds K fd_law_source ["_law_cell"] []
  m_law_source : mg "_law_source" = some (.ref f_law_source)
  f_law_draw : Addr
  fd_law_draw : FuncData
  F_law_draw : Fun K "_law_draw" "_law_draw" s_law_draw f_law_draw fd_law_draw
  b_law_draw : Binds K fd_law_draw ["_law_source_here", "_law_bound"] []
  m_law_draw : mg "_law_draw" = some (.ref f_law_draw)
  f_law_choice : Addr
  fd_law_choice : FuncData
  F_law_choice : Fun K "_law_choice" "_law_choice" s_law_choice f_law_choice fd_law_choice
  b_law_choice : Binds K fd_law_choice ["_law_source_here", "_law_options"] []
  m_law_choice : mg "_law_choice" = some (.ref f_law_choice)
  f_law_shuffle : Addr
  fd_law_shuffle : FuncData
  F_law_shuffle : Fun K "_law_shuffle" "_law_shuffle" s_law_shuffle f_law_shuffle fd_law_shuffle
  b_law_shuffle : Binds K fd_law_shuffle ["_law_source_here", "_law_options"] []
  m_law_shuffle : mg "_law_shuffle" = some (.ref f_law_shuffle)
  f_law_dims : Addr
  fd_law_dims : FuncData
  F_law_dims : Fun K "_law_dims" "_law_dims" s_law_dims f_law_dims fd_law_dims
  b_law_dims : Binds K fd_law_dims ["_law_source_here", "_law_bound"] []
  m_law_dims : mg "_law_dims" = some (.ref f_law_dims)
  f_law_total : Addr
  fd_law_total : FuncData
  F_law_total : Fun K "_law_total" "_law_total" s_law_total f_law_total fd_law_total
  b_law_total : Binds K fd_law_total ["_law_dims_here"] []
  m_law_total : mg "_law_total" = some (.ref f_law_total)
  f_law_spots : Addr
  fd_law_spots : FuncData
  F_law_spots : Fun K "_law_spots" "_law_spots" s_law_spots f_law_spots fd_law_spots
  b_law_spots : Binds K fd_law_spots ["_law_dims_here"] []
  m_law_spots : mg "_law_spots" = some (.ref f_law_spots)
  f_law_moved : Addr
  fd_law_moved : FuncData
  F_law_moved : Fun K "_law_moved" "_law_moved" s_law_moved f_law_moved fd_law_moved
  b_law_moved : Binds K fd_law_moved ["_law_dims_here", "_law_spot", "_law_hop", "_law_factor"] []
  m_law_moved : mg "_law_moved" = some (.ref f_law_moved)
  f_law_forced : Addr
  fd_law_forced : FuncData
  F_law_forced : Fun K "_law_forced" "_law_forced" s_law_forced f_law_forced fd_law_forced
  b_law_forced : Binds K fd_law_forced ["_law_dims_here", "_law_goals", "_law_allowed"] []
  m_law_forced : mg "_law_forced" = some (.ref f_law_forced)
  f_law_final : Addr
  fd_law_final : FuncData
  F_law_final : Fun K "_law_final" "_law_final" s_law_final f_law_final fd_law_final
  b_law_final : Binds K fd_law_final ["_law_dims_here", "_law_goals", "_law_known"] []
  m_law_final : mg "_law_final" = some (.ref f_law_final)
  f_law : Addr
  fd_law : FuncData
  F_law : Fun K "law" "law" s_law f_law fd_law
  b_law : Binds K fd_law ["_law_script"] []
  m_law : mg "law" = some (.ref f_law)
  C_Table : Addr
  cl_Table : Cls K C_Table
  m_Table : mg "Table" = some (.ref C_Table)
  M_Table : Mk K C_Table f_Table_init
  me_Table_sizes : Meth K C_Table "sizes" f_Table_sizes
  me_Table_count : Meth K C_Table "count" f_Table_count
  me_Table_is_seat : Meth K C_Table "is_seat" f_Table_is_seat
  me_Table_is_call : Meth K C_Table "is_call" f_Table_is_call
  me_Table_shifted : Meth K C_Table "shifted" f_Table_shifted
  me_Table_moves : Meth K C_Table "moves" f_Table_moves
  me_Table_step : Meth K C_Table "step" f_Table_step
  me_Table_order : Meth K C_Table "order" f_Table_order
  me_Table_halves : Meth K C_Table "halves" f_Table_halves
  n_Table_rings : NoAttr K C_Table "rings"
  ic_Table : PySem.W.findIn K (.ref C_Table) "__class__" = some (some (.builtin "object.__class__"))
  im_Table : PySem.W.mroIn K C_Table (.type "object") = some true
  ig_ : PySem.W.specialIn K (.builtin "object.__class__") "__get__" = some (some (.builtin "getset_descriptor.__get__"))
  it_ : PySem.W.takesIn K (.builtin "object.__class__") = some true
  t_MAX_RINGS : Tok
  c_MAX_RINGS : mg "MAX_RINGS" = some (.int 4 t_MAX_RINGS)
  t_MAX_SEARCHED : Tok
  c_MAX_SEARCHED : mg "MAX_SEARCHED" = some (.int 9 t_MAX_SEARCHED)
  z_abs : mg "abs" = none
  z_all : mg "all" = none
  z_any : mg "any" = none
  z_bool : mg "bool" = none
  z_enumerate : mg "enumerate" = none
  z_int : mg "int" = none
  z_isinstance : mg "isinstance" = none
  z_len : mg "len" = none
  z_list : mg "list" = none
  z_min : mg "min" = none
  z_range : mg "range" = none
  z_sorted : mg "sorted" = none
  z_tuple : mg "tuple" = none
  z_zip : mg "zip" = none
/-- not an int (a bool is none) -/
def NotI (K : PySem.W.Frag) (H : Hp) (x : V) : Prop := ∃ t b1 b2, TyX K H x t ∧ PySem.W.kitOne K t (.type "int") = some b1 ∧ PySem.W.kitOne K t (.type "bool") = some b2 ∧ (b1 && !b2) = false
/-- what x is, if an int -/
def IsI (K : PySem.W.Frag) (H : Hp) (x : V) : Option Int → Prop
  | some i => x = .int i
  | none => NotI K H x
def atLeast : Option Int → Int → Bool
  | some i, low => decide (low ≤ i)
  | none, _ => false
def between : Option Int → Int → Int → Bool
  | some i, low, high => decide (low ≤ i) && decide (i ≤ high)
  | none, _, _ => false

section
variable {P : Program} {w : World} {K : PySem.W.Frag} {mg : Str → Option Value} {base : Heap}
def sp_is_integer (K : PySem.W.Frag) : Sp := fun vs H Q _ => ∃ x o, vs = [x] ∧ IsI K H x o ∧ Q (.bl o.isSome) H
theorem ok_is_integer (T : TX K mg) : FnOk P w K mg base CX0 1 T.f_is_integer T.fd_is_integer ["value"] (sp_is_integer K) := by
  refine T.F_is_integer.ok sc_is_integer (fun vs H Q E h => ?_) (fun cdv A outer s H vs Q E hr h => ?_)
  · obtain ⟨x, o, rfl, _⟩ := h
    rfl
  · obtain ⟨x, o, rfl, hx, k⟩ := h
    refine ⟨_, (pss_one (ps_ret (pe_and (pe_callB call_isi (by rfl) T.z_isinstance (by decide +kernel) (pa_cons (pv 0) (pa_cons (pe_bltn (v := .ty "int") rfl T.z_int (by decide +kernel) rfl) pa_nil))) (pe_one (pe_not (pe_callB call_isi (by rfl) T.z_isinstance (by decide +kernel) (pa_cons (pv 0) (pa_cons (pe_bltn (v := .ty "bool") rfl T.z_bool (by decide +kernel) rfl) pa_nil)))))))), ?_⟩
    cases o with
    | some i =>
      cases hx
      exact ⟨_, rfl, _, _, _, _, true, rfl, .ty _, .base (.int i), kit_ty (by decide +kernel), _, rfl, _, rfl, _, _, _, _, false, rfl, .ty _, .base (.int i), kit_ty (by decide +kernel), _, rfl, k⟩
    | none =>
      obtain ⟨t, b1, b2, ht, h1, h2, hb⟩ := hx
      refine ⟨_, rfl, _, _, _, _, b1, rfl, .ty _, ht, h1, _, rfl, ?_⟩
      cases b1 with
      | false => exact k
      | true =>
        refine ⟨_, rfl, _, _, _, _, b2, rfl, .ty _, ht, h2, _, rfl, ?_⟩
        have e : (!b2) = false := hb
        rw [e]
        exact k
def sp_is_at_least (K : PySem.W.Frag) : Sp := fun vs H Q _ => ∃ x o low, vs = [x, .int low] ∧ IsI K H x o ∧ Q (.bl (atLeast o low)) H
theorem ok_is_at_least (T : TX K mg) : FnOk P w K mg base CX0 2 T.f_is_at_least T.fd_is_at_least ["value", "low"] (sp_is_at_least K) := by
  refine T.F_is_at_least.ok sc_is_at_least (fun vs H Q E h => ?_) (fun cdv A outer s H vs Q E hr h => ?_)
  · obtain ⟨x, o, low, rfl, _⟩ := h
    rfl
  · obtain ⟨x, o, low, rfl, hx, k⟩ := h
    refine ⟨_, (pss_one (ps_ret (pe_and (pe_call (ok_is_integer T) hr rfl T.m_is_integer T.F_is_integer.kp T.b_is_integer .nil pass0 (pa_cons (pv 0) pa_nil)) (pe_one (pe_cmpR op_ge (pv 0) (pv 1) (nomark _)))))), ?_⟩
    refine ⟨_, rfl, x, o, rfl, hx, _, rfl, ?_⟩
    cases o with
    | none => exact k
    | some i =>
      cases hx
      exact ⟨_, rfl, _, rfl, _, _, rfl, rfl, k⟩
def sp_is_between (K : PySem.W.Frag) : Sp := fun vs H Q _ => ∃ x o low high, vs = [x, .int low, .int high] ∧ IsI K H x o ∧ Q (.bl (between o low high)) H
theorem ok_is_between (T : TX K mg) : FnOk P w K mg base CX0 2 T.f_is_between T.fd_is_between ["value", "low", "high"] (sp_is_between K) := by
  refine T.F_is_between.ok sc_is_between (fun vs H Q E h => ?_) (fun cdv A outer s H vs Q E hr h => ?_)
  · obtain ⟨x, o, low, high, rfl, _⟩ := h
    rfl
  · obtain ⟨x, o, low, high, rfl, hx, k⟩ := h
    refine ⟨_, (pss_one (ps_ret (pe_and (pe_call (ok_is_integer T) hr rfl T.m_is_integer T.F_is_integer.kp T.b_is_integer .nil pass0 (pa_cons (pv 0) pa_nil)) (pe_one (pe_chain op_le op_le (pv 1) (pv 0) (pv 2)))))), ?_⟩
    refine ⟨_, rfl, x, o, rfl, hx, _, rfl, ?_⟩
    cases o with
    | none => exact k
    | some i =>
      cases hx
      refine ⟨_, rfl, _, rfl, _, _, rfl, rfl, _, rfl, ?_⟩
      refine ite2 (fun c => ?_) (fun c => ?_)
      · have c1 : low ≤ i := of_decide_eq_true c
        refine ⟨_, rfl, _, _, rfl, rfl, ?_⟩
        have e : between (some i) low high = decide (i ≤ high) := by show (decide (low ≤ i) && decide (i ≤ high)) = _; rw [c]; rfl
        rw [e] at k
        exact k
      · have e : between (some i) low high = false := by show (decide (low ≤ i) && decide (i ≤ high)) = _; rw [Bool.eq_false_iff.mpr c]; rfl
        rw [e] at k
        exact k
end

/-- a table of these sizes stands at a -/
def TabAt (C : Addr) (H : Hp) (a : Addr) (ns : List Int) : Prop := ∃ dx t, H a = some (.ins C dx [("rings", .ref t)]) ∧ H t = some (.tup (ns.map V.int))
theorem TabAt.mono {C : Addr} {H H2 : Hp} {a : Addr} {ns : List Int} (e : Ex H H2) (h : TabAt C H a ns) : TabAt C H2 a ns := by
  obtain ⟨dx, t, h1, h2⟩ := h
  exact ⟨dx, t, e _ _ h1, e _ _ h2⟩
/-- a tracked list (false) or tuple (true) -/
def SqH (H : Hp) (p : Bool × Addr) (xs : List V) : Prop := if p.1 = true then H p.2 = some (.tup xs) else H p.2 = some (.lst xs)
theorem SqH.sq {K : PySem.W.Frag} {H : Hp} {p : Bool × Addr} {xs : List V} (h : SqH H p xs) : CZ.SqK K H p xs := by
  obtain ⟨b, a⟩ := p
  cases b
  · exact SqL.of (show H a = some (.lst xs) from h)
  · exact SqT.of (show H a = some (.tup xs) from h)
theorem SqH.mono {H H2 : Hp} {p : Bool × Addr} {xs : List V} (e : Ex H H2) (h : SqH H p xs) : SqH H2 p xs := by
  obtain ⟨b, a⟩ := p
  cases b
  · exact e _ _ (show H a = some (.lst xs) from h)
  · exact e _ _ (show H a = some (.tup xs) from h)
theorem SqH.ty {K : PySem.W.Frag} {H : Hp} {p : Bool × Addr} {xs : List V} (h : SqH H p xs) : TyX K H (.ref p.2) (.type (if p.1 = true then "tuple" else "list")) := by
  obtain ⟨b, a⟩ := p
  cases b
  · exact .base (.lst (show H a = some (.lst xs) from h))
  · exact .base (.tup (show H a = some (.tup xs) from h))
/-- sizes of a table -/
structure SzOk (ns : List Int) : Prop where
  pos : ns ≠ []
  le : ns.length ≤ 4
  one : ∀ n ∈ ns, 1 ≤ n
theorem len_line {α : Type} {l : List α} (h : l.length ≤ 4) : l.length ≤ sizeLine := Nat.le_trans h (by decide)
theorem take_lt {α : Type} {l : List α} (h : l.length ≤ 1000) (i : Nat) : (l.take i).length < sizeLine := by
  rw [List.length_take]
  exact Nat.lt_of_le_of_lt (Nat.le_trans (Nat.min_le_right _ _) h) (by decide)
theorem take_more {α : Type} {l : List α} {i : Nat} {x : α} (h : l[i]? = some x) : l.take (i + 1) = l.take i ++ [x] := by
  rw [List.take_add_one, h]
  rfl
theorem kit_seq {K : PySem.W.Frag} (b : Bool) : PySem.W.kitAny K (.type (if b = true then "tuple" else "list")) [.type "list", .type "tuple"] = some true := by
  cases b
  · exact kitAny_cons (b := true) (kit_ty (by decide +kernel)) (fun h => nomatch h) (fun _ => rfl)
  · exact kitAny_cons (b := false) (kit_ty (by decide +kernel)) (fun _ => kitAny_cons (b := true) (kit_ty (by decide +kernel)) (fun h => nomatch h) (fun _ => rfl)) (fun h => nomatch h)
theorem sq_or {K : PySem.W.Frag} {H : Hp} {b : Bool} {a : Addr} {xs : List V} (h : SqH H (b, a) xs) : SqL K H a xs ∨ SqT K H a xs := by
  cases b
  · exact .inl (SqL.of (show H a = some (.lst xs) from h))
  · exact .inr (SqT.of (show H a = some (.tup xs) from h))
section
variable {P : Program} {w : World} {K : PySem.W.Frag} {mg : Str → Option Value} {base : Heap}
def sp_Table_init (C : Addr) : Sp := fun vs H Q _ => ∃ (p dx : Addr) (q : Bool × Addr) (ns : List Int), vs = [.ref p, .ref q.2] ∧ H p = some (.ins C dx []) ∧ SqH H q (ns.map V.int) ∧ SzOk ns ∧
  ∀ H2, (∀ c o, c ≠ p → H c = some o → H2 c = some o) → (∃ t, H2 p = some (.ins C dx [("rings", .ref t)]) ∧ H2 t = some (.tup (ns.map V.int))) → Q .non H2
theorem ok_Table_init (T : TX K mg) : FnOk P w K mg base CX0 3 T.f_Table_init T.fd_Table_init ["self", "rings"] (sp_Table_init T.C_Table) := by
  refine T.F_Table_init.ok sc_Table_init (fun vs H Q E h => ?_) (fun cdv A outer s H vs Q E hr h => ?_)
  · obtain ⟨p, dx, q, ns, rfl, _⟩ := h
    rfl
  · obtain ⟨p, dx, ⟨b, a⟩, ns, rfl, hp, hq, ok, k⟩ := h
    refine ⟨_, (pss_cons (ps_if (PW.pt (pw_or (pt_not (pt_val (pe_callB call_isiT (by rfl) T.z_isinstance (by decide +kernel) (pa_cons (pv 1) (pa_cons (pe_tup (pa_cons (pe_bltn (v := .ty "list") rfl T.z_list (by decide +kernel) rfl) (pa_cons (pe_bltn (v := .ty "tuple") rfl T.z_tuple (by decide +kernel) rfl) pa_nil))) pa_nil))))) (pw_or1 (pt_not (pt_chain op_le op_le pe_int (pe_callB call_len_seq (by rfl) T.z_len (by decide +kernel) (pa_cons (pv 1) pa_nil)) (pe_glob (v := .int 4) rfl T.c_MAX_RINGS ⟨_, rfl⟩)))))) pss_never pss_nil) (pss_cons (ps_if (pt_not (pt_val (pe_callB (cr_all rfl) (by rfl) T.z_all (by decide +kernel) (pa_cons (pe_lc (own := [("size", 2)]) (g := (gName 2)) rfl sc_Table_init.nd (pi_seq (pv 1)) (blkOk_by (N := N_Table_init) (sc := defScope s_Table_init) (by decide +kernel)) (fun _ _ _ _ _ => (pg_name (i := 2) sc_Table_init.nd rfl (Or.inl rfl))) (fun _ _ _ _ _ => pts_nil) (fun _ _ _ _ _ => (pe_call (ok_is_at_least T) hr rfl T.m_is_at_least T.F_is_at_least.kp T.b_is_at_least .nil pass0 (pa_cons (pv 2) (pa_cons pe_int pa_nil))))) pa_nil)))) pss_never pss_nil) (pss_one (ps_fld (pv 0) (pe_callTy call_tuple_of (by rfl) T.z_tuple (by decide +kernel) (pa_cons (pv 1) pa_nil)) rfl)))), ?_⟩
    refine ⟨_, rfl, by show 2 ≤ sizeLine; decide, fun y hy => ?_⟩
    refine ⟨_, y, _, _, _, true, rfl, upd_same, .cons (.ty _) (.cons (.ty _) .nil), (hq.mono (exn hy)).ty, kit_seq b, _, rfl, iteF ?_⟩
    have q1 := hq.mono (exn (o := .tup [.ty "list", .ty "tuple"]) hy)
    have lp : 1 ≤ ns.length := List.length_pos_iff.mpr ok.pos
    have l4 := ok.le
    refine ⟨_, rfl, a, _, rfl, sq_or q1, _, _, rfl, rfl, _, rfl, itt (decide_eq_true (by rw [List.length_map]; omega)) ?_⟩
    refine ⟨_, _, rfl, rfl, _, rfl, itf ?_ ?_⟩
    · rw [List.length_map, decide_eq_true (by omega)]
      rfl
    · have all1 : (ns.map fun n => atLeast (some n) 1).all id = true := by
        rw [List.all_map, List.all_eq_true]
        exact fun n hn => decide_eq_true (ok.one n hn)
      refine ⟨_, rfl, (b, a), rfl, ⟨_, q1.sq⟩, fun D hD => ?_⟩
      refine lc_vals walk_seq ((ns.map fun n => atLeast (some n) 1).map V.bl) (by simp) (by rw [List.length_map]; omega) hD (fun H3 e => (q1.mono e).sq) ?_ gmono_name ?_
      · intro i x H3 H4 R hi e yy kk
        obtain ⟨rfl, hx⟩ := yy
        obtain ⟨n, hn, rfl⟩ := map_get hx
        exact ⟨rfl, _, rfl, _, some n, 1, rfl, rfl, kk _ _ exr (by simp [hn])⟩
      · intro H3 e hD3
        have hp3 := e _ _ (exn hy _ _ hp)
        have q3 := q1.mono e
        have ex3 : Ex H H3 := fun c o z => e _ _ (exn hy _ _ z)
        refine ⟨D, _, rfl, SqL.of hD3, _, rfl, itf (by rw [all1]; rfl) ?_⟩
        cases b with
        | false =>
          refine ⟨_, rfl, a, _, rfl, .inl ⟨SqL.of q3, fun l hl => ?_⟩⟩
          have npl : p ≠ l := ne_of_none hp3 hl
          refine ⟨_, rfl, p, _, dx, _, rfl, (by rw [upd_ne npl]; exact hp3), T.cl_Table, T.n_Table_rings, (by show 0 < 1000; decide), ?_⟩
          refine k _ (fun c o hc z => ?_) ⟨l, upd_same, by rw [upd_ne npl.symm, upd_same]⟩
          rw [upd_ne hc, upd_ne (ne_of_none (ex3 c o z) hl)]
          exact ex3 c o z
        | true =>
          refine ⟨_, rfl, a, _, rfl, .inr ⟨SqT.of q3, ?_⟩⟩
          refine ⟨_, rfl, p, _, dx, _, rfl, hp3, T.cl_Table, T.n_Table_rings, (by show 0 < 1000; decide), ?_⟩
          have q3 : H3 a = some (.tup (ns.map V.int)) := q3
          refine k _ (fun c o hc z => ?_) ⟨a, upd_same, by rw [upd_ne (ne_of q3 hp3 (by intro z; cases z))]; exact q3⟩
          rw [upd_ne hc]
          exact ex3 c o z
end

theorem TyX.mono {K : PySem.W.Frag} {H H2 : Hp} {x : V} {t : Value} (e : Ex H H2) (h : TyX K H x t) : TyX K H2 x t := by
  cases h with
  | base h =>
    cases h with
    | non => exact .base .non
    | bl x => exact .base (.bl x)
    | int x => exact .base (.int x)
    | str x => exact .base (.str x)
    | flt x => exact .base (.flt x)
    | lst h => exact .base (.lst (e _ _ h))
    | frz h => exact .base (.frz (e _ _ h))
    | tup h => exact .base (.tup (e _ _ h))
    | dK h => exact .base (.dK (e _ _ h))
    | dT h => exact .base (.dT (e _ _ h))
    | ins h a b c d f => exact .base (.ins (e _ _ h) a b c d f)
  | byt b => exact .byt b
  | set h => exact .set (e _ _ h)
  | kList a b => exact .kList a b
  | kTuple a b => exact .kTuple a b
  | kDict a b => exact .kDict a b
  | fTuple h => exact .fTuple (e _ _ h)
  | fDict h => exact .fDict (e _ _ h)
theorem IsI.mono {K : PySem.W.Frag} {H H2 : Hp} {x : V} {o : Option Int} (e : Ex H H2) (h : IsI K H x o) : IsI K H2 x o := by
  cases o with
  | some i => exact h
  | none =>
    obtain ⟨t, b1, b2, ht, r⟩ := h
    exact ⟨t, b1, b2, TyX.mono e ht, r⟩
theorem paired_get {α β : Type} {R : α → β → Prop} : ∀ {l : List α} {m : List β} {i : Nat} {x : α}, Paired R l m → l[i]? = some x → ∃ y, m[i]? = some y ∧ R x y
  | _, _, _, _, .nil, h => by simp at h
  | _, _, 0, _, .cons r _, h => by simp at h; subst h; exact ⟨_, rfl, r⟩
  | _, _, i + 1, x, .cons _ t, h => by
    obtain ⟨y, h1, h2⟩ := paired_get (i := i) (x := x) t (by simpa using h)
    exact ⟨y, by simpa using h1, h2⟩
/-- what an argument is as a tuple: its items, as ints or not -/
def TupA (K : PySem.W.Frag) (H : Hp) (x : V) : Option (List (Option Int)) → Prop
  | some os => ∃ a xs, x = .ref a ∧ H a = some (.tup xs) ∧ xs.length ≤ 1000 ∧ Paired (IsI K H) xs os
  | none => ∃ t, TyX K H x t ∧ PySem.W.kitOne K t (.type "tuple") = some false
theorem paired_ints {K : PySem.W.Frag} {H : Hp} : ∀ ps : List Int, Paired (IsI K H) (ps.map V.int) (ps.map some)
  | [] => .nil
  | p :: ps => .cons rfl (paired_ints ps)
theorem TupA.ints {K : PySem.W.Frag} {H : Hp} {a : Addr} {ps : List Int} (h : H a = some (.tup (ps.map V.int))) (hl : ps.length ≤ 1000) : TupA K H (.ref a) (some (ps.map some)) :=
  ⟨a, _, rfl, h, by rw [List.length_map]; exact hl, paired_ints ps⟩
def isSeatO (ns : List Int) : Option (List (Option Int)) → Bool
  | some os => decide (os.length = ns.length) && (List.zipWith (fun o n => between o 0 (n - 1)) os ns).all id
  | none => false
def isCallO (ns : List Int) : Option (List (Option Int)) → Bool
  | some os => decide (os.length = ns.length) && (os.map Option.isSome).all id
  | none => false
/-- a seat: one place a ring -/
def SeatOk : List Int → List Int → Prop
  | n :: ns, p :: ps => (0 ≤ p ∧ p < n) ∧ SeatOk ns ps
  | [], [] => True
  | _, _ => False
theorem SeatOk.len : ∀ {ns ps : List Int}, SeatOk ns ps → ps.length = ns.length
  | [], [], _ => rfl
  | _ :: _, _ :: _, h => by
    show _ + 1 = _ + 1
    rw [SeatOk.len h.2]
theorem seat_is : ∀ {ns ps : List Int}, SeatOk ns ps → (List.zipWith (fun o n => between o 0 (n - 1)) (ps.map some) ns).all id = true
  | [], [], _ => rfl
  | n :: ns, p :: ps, h => by
    have ih := seat_is h.2
    show (between (some p) 0 (n - 1) && _) = true
    rw [Bool.and_eq_true]
    refine ⟨?_, ih⟩
    show (decide (0 ≤ p) && decide (p ≤ n - 1)) = true
    rw [decide_eq_true h.1.1, decide_eq_true (by have := h.1.2; omega)]
    rfl
theorem isSeat_ok {ns ps : List Int} (h : SeatOk ns ps) : isSeatO ns (some (ps.map some)) = true := by
  show (decide ((ps.map some).length = ns.length) && _) = true
  rw [Bool.and_eq_true]
  exact ⟨decide_eq_true (by rw [List.length_map]; exact h.len), seat_is h⟩
theorem isCall_ok {ns cs : List Int} (h : cs.length = ns.length) : isCallO ns (some (cs.map some)) = true := by
  show (decide ((cs.map some).length = ns.length) && _) = true
  rw [Bool.and_eq_true]
  refine ⟨decide_eq_true (by rw [List.length_map]; exact h), ?_⟩
  rw [List.map_map, List.all_map, List.all_eq_true]
  exact fun _ _ => rfl
/-- a step by a multiple of a call -/
def shiftL : List Int → List Int → List Int → Int → List Int
  | n :: ns, p :: ps, c :: cs, f => (p + f * c) % n :: shiftL ns ps cs f
  | _, _, _, _ => []
theorem shift_len : ∀ {ns ps cs : List Int} {f : Int}, ps.length = ns.length → cs.length = ns.length → (shiftL ns ps cs f).length = ns.length
  | [], _, _, _, _, _ => by simp [shiftL]
  | _ :: ns, p :: ps, c :: cs, f, h1, h2 => by
    have ih := @shift_len ns ps cs f (by simpa using h1) (by simpa using h2)
    show (shiftL ns ps cs f).length + 1 = _ + 1
    rw [ih]
theorem shift_get : ∀ {ns ps cs : List Int} {f : Int} {i : Nat} {n p c : Int}, ns[i]? = some n → ps[i]? = some p → cs[i]? = some c → (shiftL ns ps cs f)[i]? = some ((p + f * c) % n)
  | n :: ns, p :: ps, c :: cs, f, 0, _, _, _, h1, h2, h3 => by
    simp at h1 h2 h3
    subst h1 h2 h3
    rfl
  | n :: ns, p :: ps, c :: cs, f, i + 1, a, b, d, h1, h2, h3 => by
    have ih := @shift_get ns ps cs f i a b d (by simpa using h1) (by simpa using h2) (by simpa using h3)
    show (shiftL ns ps cs f)[i]? = _
    exact ih
  | [], _, _, _, i, _, _, _, h1, _, _ => by simp at h1
  | _ :: _, [], _, _, i, _, _, _, _, h2, _ => by simp at h2
  | _ :: _, _ :: _, [], _, i, _, _, _, _, _, h3 => by simp at h3
theorem mul_ok {i j : Int} (h : (-(2 ^ 64) < i ∧ i < 2 ^ 64) ∨ (-(2 ^ 64) < j ∧ j < 2 ^ 64)) : IntMulOk i j := CMul.ok h
theorem zip_get {α β γ : Type} {f : α → β → γ} {l : List α} {m : List β} {i : Nat} {x : α} {y : β} (h1 : l[i]? = some x) (h2 : m[i]? = some y) : (List.zipWith f l m)[i]? = some (f x y) := by
  rw [List.getElem?_zipWith, h1, h2]
section
variable {P : Program} {w : World} {K : PySem.W.Frag} {mg : Str → Option Value} {base : Heap}
def sp_Table_sizes (C : Addr) : Sp := fun vs H Q _ => ∃ (a dx t : Addr), vs = [.ref a] ∧ H a = some (.ins C dx [("rings", .ref t)]) ∧ Q (.ref t) H
theorem ok_Table_sizes (T : TX K mg) : FnOk P w K mg base CX0 1 T.f_Table_sizes T.fd_Table_sizes ["self"] (sp_Table_sizes T.C_Table) := by
  refine T.F_Table_sizes.ok sc_Table_sizes (fun vs H Q E h => ?_) (fun cdv A outer s H vs Q E hr h => ?_)
  · obtain ⟨a, dx, t, rfl, _⟩ := h
    rfl
  · obtain ⟨a, dx, t, rfl, h1, k⟩ := h
    exact ⟨_, (pss_one (ps_ret (pe_fld (pv 0) rfl))), ⟨_, rfl, a, _, dx, _, _, rfl, h1, T.cl_Table, T.n_Table_rings, rfl, k⟩⟩
def sp_Table_is_seat (K : PySem.W.Frag) (C : Addr) : Sp := fun vs H Q _ => ∃ (a : Addr) (x : V) (ns : List Int) (ot : Option (List (Option Int))), vs = [.ref a, x] ∧ TabAt C H a ns ∧ ns.length ≤ 4 ∧ TupA K H x ot ∧ ∀ H2, Ex H H2 → Q (.bl (isSeatO ns ot)) H2
theorem ok_Table_is_seat (T : TX K mg) : FnOk P w K mg base CX0 3 T.f_Table_is_seat T.fd_Table_is_seat ["self", "value"] (sp_Table_is_seat K T.C_Table) := by
  refine T.F_Table_is_seat.ok sc_Table_is_seat (fun vs H Q E h => ?_) (fun cdv A outer s H vs Q E hr h => ?_)
  · obtain ⟨a, x, ns, ot, rfl, _⟩ := h
    rfl
  · obtain ⟨a, x, ns, ot, rfl, ⟨dx, t, h1, h2⟩, l4, hx, k⟩ := h
    refine ⟨_, (pss_cons (ps_if (PW.pt (pw_or (pt_not (pt_val (pe_callB call_isi (by rfl) T.z_isinstance (by decide +kernel) (pa_cons (pv 1) (pa_cons (pe_bltn (v := .ty "tuple") rfl T.z_tuple (by decide +kernel) rfl) pa_nil))))) (pw_or1 (pt_cmpR op_ne (pe_callB call_len_seq (by rfl) T.z_len (by decide +kernel) (pa_cons (pv 1) pa_nil)) (pe_callB call_len_seq (by rfl) T.z_len (by decide +kernel) (pa_cons (pe_fld (pv 0) rfl) pa_nil)) (nomark _))))) (pss_one (ps_ret pe_bl)) pss_nil) (pss_one (ps_ret (pe_callB (cr_all rfl) (by rfl) T.z_all (by decide +kernel) (pa_cons (pe_lc (own := [("place", 2), ("size", 3)]) (g := (gTup K 2 (gCons (gName 2) (gCons (gName 3) gNil)))) rfl sc_Table_is_seat.nd (CZ.pi_z2s (fl := [true, true]) rfl (by rfl) T.z_zip (pa_cons (pv 1) (pa_cons (pe_fld (pv 0) rfl) pa_nil))) (blkOk_by (N := N_Table_is_seat) (sc := defScope s_Table_is_seat) (by decide +kernel)) (fun _ _ _ _ _ => (pg_tup rfl (pgs_cons (pg_name (i := 2) sc_Table_is_seat.nd rfl (Or.inl rfl)) (pgs_cons (pg_name (i := 3) sc_Table_is_seat.nd rfl (Or.inl rfl)) pgs_nil)))) (fun _ _ _ _ _ => pts_nil) (fun _ _ _ _ _ => (pe_call (ok_is_between T) hr rfl T.m_is_between T.F_is_between.kp T.b_is_between .nil pass0 (pa_cons (pv 2) (pa_cons pe_int (pa_cons (pe_op op_sub (pv 3) pe_int) pa_nil)))))) pa_nil))))), ?_⟩
    cases ot with
    | none =>
      obtain ⟨ty, hty, hk⟩ := hx
      exact ⟨_, rfl, _, _, _, _, false, rfl, .ty _, hty, hk, _, rfl, k _ exr⟩
    | some os =>
      obtain ⟨v, xs, rfl, hv, hl, hp⟩ := hx
      have lo : xs.length = os.length := Paired.length hp
      refine ⟨_, rfl, _, _, _, _, true, rfl, .ty _, .base (.tup hv), kit_ty (by decide +kernel), _, rfl, iteF ?_⟩
      refine ⟨_, rfl, v, _, rfl, .inr (SqT.of hv), _, rfl, a, _, dx, _, _, rfl, h1, T.cl_Table, T.n_Table_rings, rfl, t, _, rfl, .inr (SqT.of h2), rfl, _, rfl, ?_⟩
      by_cases c : os.length = ns.length
      · refine itf ?_ ?_
        · rw [List.length_map, lo, c]
          simp
        · refine ⟨_, rfl, _, rfl, a, _, dx, _, _, rfl, h1, T.cl_Table, T.n_Table_rings, rfl, [v, t], rfl, rfl, ?_, fun D hD => ?_⟩
          · intro p hp2
            rcases List.mem_cons.mp (show p ∈ [(true, v), (true, t)] from hp2) with e | e
            · rw [e]; exact ⟨xs, SqT.of hv⟩
            · rw [List.mem_singleton.mp e]; exact ⟨_, SqT.of h2⟩
          · have lv : (List.zipWith (fun o n => between o 0 (n - 1)) os ns).length = ns.length := by rw [List.length_zipWith, c, Nat.min_self]
            refine lc_vals (CZ.walk_rows (xss := [xs, ns.map V.int]) (n := ns.length) ?_) ((List.zipWith (fun o n => between o 0 (n - 1)) os ns).map V.bl) (by rw [List.length_map, lv]) (by omega) hD (fun H3 e => .cons (SqT.of (e _ _ hv)) (.cons (SqT.of (e _ _ h2)) .nil)) ?_ (gmono_tup (gmono_cons gmono_name (gmono_cons gmono_name gmono_nil))) ?_
            · intro ys hy
              rcases List.mem_cons.mp hy with e | e
              · rw [e, lo, c]
              · rw [List.mem_singleton.mp e, List.length_map]
            · intro i y H3 H4 R hi e yy kk
              obtain ⟨Ta, vs, rfl, hT, rfl, hr2⟩ := yy
              cases hr2 with
              | cons r1 hr2 =>
                cases hr2 with
                | cons r2 hr2 =>
                  cases hr2
                  obtain ⟨n, hn, rfl⟩ := map_get r2
                  obtain ⟨o, ho, hi2⟩ := paired_get hp r1
                  refine ⟨Ta, _, rfl, SqT.of upd_same, rfl, _, _, rfl, _, _, rfl, rfl, rfl, ?_⟩
                  refine ⟨_, rfl, _, rfl, _, _, rfl, rfl, _, o, 0, n - 1, rfl, hi2.mono (fun b u z => exn hT b u (e b u z)), ?_⟩
                  refine kk _ _ (exn hT) ?_
                  rw [List.getElem?_map, zip_get ho hn]
                  rfl
            · intro H3 e hD3
              refine ⟨D, _, rfl, SqL.of hD3, ?_⟩
              have es : isSeatO ns (some os) = (List.zipWith (fun o n => between o 0 (n - 1)) os ns).all id := by
                show (decide _ && _) = _
                rw [decide_eq_true c, Bool.true_and]
              rw [← es]
              exact k _ e
      · refine itt ?_ ?_
        · rw [List.length_map, lo]
          simp
          omega
        · have es : isSeatO ns (some os) = false := by
            show (decide _ && _) = _
            rw [decide_eq_false c, Bool.false_and]
          have := k _ exr
          rw [es] at this
          exact this
end

/-- what an argument is as a text -/
def StrA (K : PySem.W.Frag) (H : Hp) (x : V) : Option Str → Prop
  | some z => x = .str z
  | none => ∃ t, TyX K H x t ∧ PySem.W.kitOne K t (.type "str") = some false
def isDirO : Option Str → Bool
  | some z => decide (z = "forward") || decide (z = "backward")
  | none => false
theorem tup_ge {xs : List V} (h : xs.length ≤ 4) : xs.length ≤ sizeLine := Nat.le_trans h (by decide)
section
variable {P : Program} {w : World} {K : PySem.W.Frag} {mg : Str → Option Value} {base : Heap}
def sp_require_seat (K : PySem.W.Frag) (C : Addr) : Sp := fun vs H Q _ => ∃ (a : Addr) (x : V) (ns : List Int) (ot : Option (List (Option Int))), vs = [.ref a, x] ∧ TabAt C H a ns ∧ ns.length ≤ 4 ∧ TupA K H x ot ∧ isSeatO ns ot = true ∧ ∀ H2, Ex H H2 → Q .non H2
theorem ok_require_seat (T : TX K mg) : FnOk P w K mg base CX0 4 T.f_require_seat T.fd_require_seat ["table", "seat"] (sp_require_seat K T.C_Table) := by
  refine T.F_require_seat.ok sc_require_seat (fun vs H Q E h => ?_) (fun cdv A outer s H vs Q E hr h => ?_)
  · obtain ⟨a, x, ns, ot, rfl, _⟩ := h
    rfl
  · obtain ⟨a, x, ns, ot, rfl, ht, l4, hx, ok, k⟩ := h
    refine ⟨_, (pss_one (ps_if (pt_not (pt_val (pe_meth (pv 0) T.cl_Table T.me_Table_is_seat (ok_Table_is_seat T) hr T.b_Table_is_seat .nil pass0 (pa_cons (pv 1) pa_nil)))) pss_never pss_nil)), ?_⟩
    obtain ⟨dx, t, h1, h2⟩ := id ht
    refine ⟨_, rfl, a, dx, _, rfl, h1, rfl, _, rfl, a, x, ns, ot, rfl, ht, l4, hx, fun H2 e => ⟨_, rfl, itf (by rw [ok]; rfl) (k _ e)⟩⟩
end

/-- all but what is at s stays -/
def XB (s : Addr) (H H2 : Hp) : Prop := ∀ c o, c ≠ s → H c = some o → H2 c = some o
theorem XB.refl {s : Addr} {H : Hp} : XB s H H := fun _ _ _ h => h
theorem XB.trans {s : Addr} {H H1 H2 : Hp} (a : XB s H H1) (b : XB s H1 H2) : XB s H H2 := fun c o n h => b c o n (a c o n h)
theorem XB.upd {s : Addr} {H : Hp} {o : HO} : XB s H (upd H s o) := fun c u n h => by rw [upd_ne n]; exact h
theorem XB.of {s : Addr} {H H2 : Hp} (e : Ex H H2) : XB s H H2 := fun c o _ h => e c o h
theorem XB.back {s : Addr} {H H2 : Hp} (e : XB s H H2) {p : Addr} (hn : p ≠ s) (h : H2 p = none) : H p = none := by
  cases q : H p with
  | none => rfl
  | some o => rw [e p o hn q] at h; cases h
theorem mod_lo {i n : Int} (h : 0 < n) : 0 ≤ i % n := Int.emod_nonneg i (by omega)
theorem mod_hi {i n : Int} (h : 0 < n) : i % n < n := Int.emod_lt_of_pos i h

/-! ### data -/
mutual
theorem eqv_refl : ∀ d : PyData, d.canLay0 = true → PyData.eqv d d = true
  | .none, _ => by simp only [PyData.eqv]
  | .bool b, _ => by simp only [PyData.eqv, beq_self_eq_true]
  | .int i, _ => by simp only [PyData.eqv, beq_self_eq_true]
  | .str x, _ => by simp only [PyData.eqv, beq_self_eq_true]
  | .list xs, h => by
    simp only [PyData.canLay0] at h
    simp only [PyData.eqv]
    exact eqvAll_refl xs h
  | .tuple xs, h => by
    simp only [PyData.canLay0] at h
    simp only [PyData.eqv]
    exact eqvAll_refl xs h
  | .dict _, h => by simp [PyData.canLay0] at h
theorem eqvAll_refl : ∀ ds : List PyData, PyData.canLayAll0 ds = true → PyData.eqvAll ds ds = true
  | [], _ => by simp only [PyData.eqvAll]
  | d :: ds, h => by
    simp only [PyData.canLayAll0, Bool.and_eq_true] at h
    simp only [PyData.eqvAll, Bool.and_eq_true]
    exact ⟨eqv_refl d h.1, eqvAll_refl ds h.2⟩
end
/-- data of a depth below n, in a form that may be laid -/
def Sh (n : Nat) (d : PyData) : Prop := d.canLay0 = true ∧ d.depth ≤ n
theorem Sh.ok {d : PyData} (h : Sh 60 d) : SeqAt.shaped d = true := by
  unfold SeqAt.shaped
  rw [h.1, decide_eq_true (Nat.le_trans h.2 (by decide))]
  rfl
theorem sh_int {n : Nat} (i : Int) : Sh n (.int i) := ⟨by simp only [PyData.canLay0], by simp only [PyData.depth]; omega⟩
theorem sh_bool {n : Nat} (i : Bool) : Sh n (.bool i) := ⟨by simp only [PyData.canLay0], by simp only [PyData.depth]; omega⟩
theorem sh_none {n : Nat} : Sh n .none := ⟨by simp only [PyData.canLay0], by simp only [PyData.depth]; omega⟩
theorem sh_all {n : Nat} : ∀ {ds : List PyData}, (∀ d ∈ ds, Sh n d) → PyData.canLayAll0 ds = true ∧ PyData.depthAll ds ≤ n
  | [], _ => ⟨by simp only [PyData.canLayAll0], by simp only [PyData.depthAll]; omega⟩
  | d :: ds, h => by
    obtain ⟨h1, h2⟩ := h d List.mem_cons_self
    obtain ⟨g1, g2⟩ := sh_all fun x hx => h x (List.mem_cons_of_mem _ hx)
    refine ⟨by simp only [PyData.canLayAll0, h1, g1, Bool.and_self], ?_⟩
    simp only [PyData.depthAll]
    omega
theorem sh_tuple {n : Nat} {ds : List PyData} (h : ∀ d ∈ ds, Sh n d) : Sh (n + 1) (.tuple ds) := by
  obtain ⟨h1, h2⟩ := sh_all h
  exact ⟨by simp only [PyData.canLay0, h1], by simp only [PyData.depth]; omega⟩
theorem sh_list {n : Nat} {ds : List PyData} (h : ∀ d ∈ ds, Sh n d) : Sh (n + 1) (.list ds) := by
  obtain ⟨h1, h2⟩ := sh_all h
  exact ⟨by simp only [PyData.canLay0, h1], by simp only [PyData.depth]; omega⟩
theorem Sh.up {n m : Nat} {d : PyData} (h : Sh n d) (e : n ≤ m) : Sh m d := ⟨h.1, Nat.le_trans h.2 e⟩
/-- a tuple of ints -/
abbrev iT (ns : List Int) : PyData := .tuple (ns.map PyData.int)
theorem sh_ints {n : Nat} (ns : List Int) : Sh (n + 1) (iT ns) := sh_tuple fun d hd => by
  obtain ⟨i, _, rfl⟩ := List.mem_map.mp hd
  exact sh_int i
theorem dpall_ints {K : PySem.W.Frag} {H : Hp} : ∀ ns : List Int, DpAll K H (ns.map V.int) (ns.map PyData.int)
  | [] => .nil
  | n :: ns => .cons (.int n) (dpall_ints ns)
theorem dp_ints {K : PySem.W.Frag} {H : Hp} {a : Addr} {ns : List Int} (h : H a = some (.tup (ns.map V.int))) : Dp K H (.ref a) (iT ns) := .tup (SqT.of h) (dpall_ints ns)
theorem eqvAll_ints : ∀ ns ms : List Int, PyData.eqvAll (ns.map PyData.int) (ms.map PyData.int) = decide (ns = ms)
  | [], [] => by simp [PyData.eqvAll]
  | [], _ :: _ => by simp [PyData.eqvAll]
  | _ :: _, [] => by simp [PyData.eqvAll]
  | n :: ns, m :: ms => by
    have ih := eqvAll_ints ns ms
    simp only [List.map_cons, PyData.eqvAll, PyData.eqv, ih]
    by_cases h : n = m
    · subst h
      simp
    · have : (n == m) = false := by simpa using h
      rw [this]
      simp [h]
theorem eqv_ints (ns ms : List Int) : PyData.eqv (iT ns) (iT ms) = decide (ns = ms) := by
  simp only [PyData.eqv]
  exact eqvAll_ints ns ms
theorem sh_pair {n : Nat} {a b : PyData} (ha : Sh n a) (hb : Sh n b) : Sh (n + 1) (.tuple [a, b]) := sh_tuple fun d hd => by
  rcases List.mem_cons.mp hd with e | e
  · rw [e]; exact ha
  · rw [List.mem_singleton.mp e]; exact hb
theorem eqv_same {d : PyData} (h : Sh 60 d) : (!PyData.eqv d d) = false := by rw [eqv_refl d h.1]; rfl

/-! ### zip's rows, nested comprehensions, lists of tuples of ints -/
theorem yrow2 {xs ys : List V} {i : Nat} {H H2 : Hp} {x : V} (h : CZ.YRow [xs, ys] i H x H2) : ∃ (Ta : Addr) (a b : V), x = .ref Ta ∧ H Ta = none ∧ H2 = upd H Ta (.tup [a, b]) ∧ xs[i]? = some a ∧ ys[i]? = some b := by
  obtain ⟨Ta, vs, rfl, hT, rfl, r⟩ := h
  cases r with
  | cons r1 r =>
    cases r with
    | cons r2 r =>
      cases r
      exact ⟨Ta, _, _, rfl, hT, rfl, r1, r2⟩
theorem yrow3 {xs ys zs : List V} {i : Nat} {H H2 : Hp} {x : V} (h : CZ.YRow [xs, ys, zs] i H x H2) : ∃ (Ta : Addr) (a b c : V), x = .ref Ta ∧ H Ta = none ∧ H2 = upd H Ta (.tup [a, b, c]) ∧ xs[i]? = some a ∧ ys[i]? = some b ∧ zs[i]? = some c := by
  obtain ⟨Ta, vs, rfl, hT, rfl, r⟩ := h
  cases r with
  | cons r1 r =>
    cases r with
    | cons r2 r =>
      cases r with
      | cons r3 r =>
        cases r
        exact ⟨Ta, _, _, _, rfl, hT, rfl, r1, r2, r3⟩
theorem yints2 {xs ys : List Int} {i : Nat} {H H2 : Hp} {x : V} (h : CZ.YRow [xs.map V.int, ys.map V.int] i H x H2) : ∃ (Ta : Addr) (a b : Int), x = .ref Ta ∧ H Ta = none ∧ H2 = upd H Ta (.tup [.int a, .int b]) ∧ xs[i]? = some a ∧ ys[i]? = some b := by
  obtain ⟨Ta, a, b, rfl, hT, rfl, r1, r2⟩ := yrow2 h
  obtain ⟨p, hp, rfl⟩ := map_get r1
  obtain ⟨q, hq, rfl⟩ := map_get r2
  exact ⟨Ta, p, q, rfl, hT, rfl, hp, hq⟩
theorem yints3 {xs ys zs : List Int} {i : Nat} {H H2 : Hp} {x : V} (h : CZ.YRow [xs.map V.int, ys.map V.int, zs.map V.int] i H x H2) : ∃ (Ta : Addr) (a b c : Int), x = .ref Ta ∧ H Ta = none ∧ H2 = upd H Ta (.tup [.int a, .int b, .int c]) ∧ xs[i]? = some a ∧ ys[i]? = some b ∧ zs[i]? = some c := by
  obtain ⟨Ta, a, b, c, rfl, hT, rfl, r1, r2, r3⟩ := yrow3 h
  obtain ⟨p, hp, rfl⟩ := map_get r1
  obtain ⟨q, hq, rfl⟩ := map_get r2
  obtain ⟨r, hr, rfl⟩ := map_get r3
  exact ⟨Ta, p, q, r, rfl, hT, rfl, hp, hq, hr⟩
theorem all2 {K : PySem.W.Frag} {H : Hp} {p q : Bool × Addr} {xs ys : List V} (hp : CZ.SqK K H p xs) (hq : CZ.SqK K H q ys) : ∀ r ∈ [p, q], ∃ zs, CZ.SqK K H r zs := fun r hr => by
  rcases List.mem_cons.mp hr with e | hr
  · rw [e]; exact ⟨_, hp⟩
  · rw [List.mem_singleton.mp hr]; exact ⟨_, hq⟩
theorem all3 {K : PySem.W.Frag} {H : Hp} {p q t : Bool × Addr} {xs ys us : List V} (hp : CZ.SqK K H p xs) (hq : CZ.SqK K H q ys) (ht : CZ.SqK K H t us) : ∀ r ∈ [p, q, t], ∃ zs, CZ.SqK K H r zs := fun r hr => by
  rcases List.mem_cons.mp hr with e | hr
  · rw [e]; exact ⟨_, hp⟩
  · exact all2 hq ht r hr
theorem lens2 {xs ys : List V} {n : Nat} (h1 : xs.length = n) (h2 : ys.length = n) : ∀ zs ∈ [xs, ys], zs.length = n := fun zs hz => by
  rcases List.mem_cons.mp hz with e | hz
  · rw [e]; exact h1
  · rw [List.mem_singleton.mp hz]; exact h2
theorem lens3 {xs ys us : List V} {n : Nat} (h1 : xs.length = n) (h2 : ys.length = n) (h3 : us.length = n) : ∀ zs ∈ [xs, ys, us], zs.length = n := fun zs hz => by
  rcases List.mem_cons.mp hz with e | hz
  · rw [e]; exact h1
  · exact lens2 h2 h3 zs hz
theorem sqT {K : PySem.W.Frag} {H : Hp} {a : Addr} {xs : List V} (h : H a = some (.tup xs)) : CZ.SqK K H (true, a) xs := SqT.of h
theorem sqL {K : PySem.W.Frag} {H : Hp} {a : Addr} {xs : List V} (h : H a = some (.lst xs)) : CZ.SqK K H (false, a) xs := SqL.of h
section
variable {J : It} {n : Nat} {G : Hp → Prop} {Y : Nat → Hp → V → Hp → Prop}
/-- a comprehension of two loops: the outer -/
theorem lc2_it (w : Walk J n G Y) {g g1 : TG} {tt tt1 : TT} {te : TE} {wi1 : TI} {vs vs1 : List Nat} {σ : L2.St} {H1 : Hp} {D : Addr} {Qd : Hp → Prop} (Pv : Nat → Hp → Prop) (h0 : Pv 0 (upd H1 D (.lst []))) (hG : ∀ i H, i ≤ n → Pv i H → G H)
    (hs : ∀ i x H H2, i < n → Pv i H → Y i H x H2 → g x (wipe σ vs) H2 fun σ2 H2 => wipe σ2 vs = wipe σ vs ∧ tt σ2 H2 fun b H3 =>
      if b = true then wi1 σ2 H3 fun J1 H4 => ∃ W1 : Nat → Nat → Hp → Prop, (∃ m, W1 0 m H4) ∧ ∀ j k H, W1 j k H →
        (J1.stop j H ∧ Pv (i + 1) H) ∨ (J1.go j H ∧ ∃ Nx1 : Hp → Prop, (∀ H2, Nx1 H2 → ∃ k2, k2 < k ∧ W1 (j + 1) k2 H2) ∧ ∀ x H2, J1.yld j H x H2 → g1 x (wipe σ2 vs1) H2 fun σ3 H5 => wipe σ3 vs1 = wipe σ2 vs1 ∧ tt1 σ3 H5 fun b H6 =>
          if b = true then te σ3 H6 fun y H7 => ∃ acc, H7 D = some (.lst acc) ∧ acc.length < sizeLine ∧ Nx1 (upd H7 D (.lst (acc ++ [y]))) else Nx1 H6)
      else Pv (i + 1) H3) (hd : ∀ H, Pv n H → Qd H) :
    ∃ W : Nat → Nat → Hp → Prop, (∃ m, W 0 m (upd H1 D (.lst []))) ∧ ∀ i m H, W i m H →
      (J.stop i H ∧ Qd H) ∨ (J.go i H ∧ ∃ Nx : Hp → Prop, (∀ H2, Nx H2 → ∃ m2, m2 < m ∧ W (i + 1) m2 H2) ∧ ∀ x H2, J.yld i H x H2 → g x (wipe σ vs) H2 fun σ2 H2 => wipe σ2 vs = wipe σ vs ∧ tt σ2 H2 fun b H3 =>
        if b = true then wi1 σ2 H3 fun J1 H4 => ∃ W1 : Nat → Nat → Hp → Prop, (∃ m, W1 0 m H4) ∧ ∀ j k H, W1 j k H →
          (J1.stop j H ∧ Nx H) ∨ (J1.go j H ∧ ∃ Nx1 : Hp → Prop, (∀ H2, Nx1 H2 → ∃ k2, k2 < k ∧ W1 (j + 1) k2 H2) ∧ ∀ x H2, J1.yld j H x H2 → g1 x (wipe σ2 vs1) H2 fun σ3 H5 => wipe σ3 vs1 = wipe σ2 vs1 ∧ tt1 σ3 H5 fun b H6 =>
            if b = true then te σ3 H6 fun y H7 => ∃ acc, H7 D = some (.lst acc) ∧ acc.length < sizeLine ∧ Nx1 (upd H7 D (.lst (acc ++ [y]))) else Nx1 H6)
        else Nx H3) := by
  refine ⟨fun i m H => m = n - i ∧ i ≤ n ∧ Pv i H, ⟨n, by simp, Nat.zero_le _, h0⟩, ?_⟩
  rintro i m H ⟨rfl, hi, p⟩
  have q := hG i H hi p
  by_cases hlt : i < n
  · refine .inr ⟨w.goes i H hlt q, Pv (i + 1), fun H2 p2 => ⟨n - (i + 1), by omega, rfl, hlt, p2⟩, fun x H2 y => hs i x H H2 hlt p (w.yields i H x H2 hlt q y)⟩
  · have e : i = n := by omega
    subst e
    exact .inl ⟨w.stops H q, hd H p⟩
/-- .. the inner -/
theorem in_it (w : Walk J n G Y) {g1 : TG} {tt1 : TT} {te : TE} {vs1 : List Nat} {σ2 : L2.St} {H4 : Hp} {D : Addr} {Nx : Hp → Prop} (Pw : Nat → Hp → Prop) (h0 : Pw 0 H4) (hG : ∀ i H, i ≤ n → Pw i H → G H)
    (hs : ∀ j x H H2, j < n → Pw j H → Y j H x H2 → g1 x (wipe σ2 vs1) H2 fun σ3 H5 => wipe σ3 vs1 = wipe σ2 vs1 ∧ tt1 σ3 H5 fun b H6 =>
      if b = true then te σ3 H6 fun y H7 => ∃ acc, H7 D = some (.lst acc) ∧ acc.length < sizeLine ∧ Pw (j + 1) (upd H7 D (.lst (acc ++ [y]))) else Pw (j + 1) H6) (hd : ∀ H, Pw n H → Nx H) :
    ∃ W1 : Nat → Nat → Hp → Prop, (∃ m, W1 0 m H4) ∧ ∀ j k H, W1 j k H →
      (J.stop j H ∧ Nx H) ∨ (J.go j H ∧ ∃ Nx1 : Hp → Prop, (∀ H2, Nx1 H2 → ∃ k2, k2 < k ∧ W1 (j + 1) k2 H2) ∧ ∀ x H2, J.yld j H x H2 → g1 x (wipe σ2 vs1) H2 fun σ3 H5 => wipe σ3 vs1 = wipe σ2 vs1 ∧ tt1 σ3 H5 fun b H6 =>
        if b = true then te σ3 H6 fun y H7 => ∃ acc, H7 D = some (.lst acc) ∧ acc.length < sizeLine ∧ Nx1 (upd H7 D (.lst (acc ++ [y]))) else Nx1 H6) := by
  refine ⟨fun i m H => m = n - i ∧ i ≤ n ∧ Pw i H, ⟨n, by simp, Nat.zero_le _, h0⟩, ?_⟩
  rintro i m H ⟨rfl, hi, p⟩
  have q := hG i H hi p
  by_cases hlt : i < n
  · refine .inr ⟨w.goes i H hlt q, Pw (i + 1), fun H2 p2 => ⟨n - (i + 1), by omega, rfl, hlt, p2⟩, fun x H2 y => hs i x H H2 hlt p (w.yields i H x H2 hlt q y)⟩
  · have e : i = n := by omega
    subst e
    exact .inl ⟨w.stops H q, hd H p⟩
end
/-- refs of tuples of ints -/
def RowsR (H : Hp) (xs : List V) (hss : List (List Int)) : Prop := Paired (fun x hs => ∃ r, x = V.ref r ∧ H r = some (.tup (hs.map V.int))) xs hss
theorem RowsR.mono {H H2 : Hp} (e : Ex H H2) : ∀ {xs : List V} {hss : List (List Int)}, RowsR H xs hss → RowsR H2 xs hss
  | _, _, .nil => .nil
  | _, _, .cons ⟨r, h1, h2⟩ t => .cons ⟨r, h1, e _ _ h2⟩ (RowsR.mono e t)
theorem RowsR.snoc {H : Hp} {r : Addr} {hs : List Int} (h : H r = some (.tup (hs.map V.int))) : ∀ {xs : List V} {hss : List (List Int)}, RowsR H xs hss → RowsR H (xs ++ [.ref r]) (hss ++ [hs])
  | _, _, .nil => .cons ⟨r, rfl, h⟩ .nil
  | _, _, .cons q t => .cons q (RowsR.snoc h t)
theorem RowsR.app {H : Hp} {ys : List V} {kss : List (List Int)} (h : RowsR H ys kss) : ∀ {xs : List V} {hss : List (List Int)}, RowsR H xs hss → RowsR H (xs ++ ys) (hss ++ kss)
  | _, _, .nil => h
  | _, _, .cons q t => .cons q (RowsR.app h t)
theorem RowsR.len {H : Hp} : ∀ {xs : List V} {hss : List (List Int)}, RowsR H xs hss → xs.length = hss.length
  | _, _, .nil => rfl
  | _, _, .cons _ t => by rw [List.length_cons, List.length_cons, RowsR.len t]
theorem RowsR.get {H : Hp} : ∀ {xs : List V} {hss : List (List Int)} {i : Nat} {x : V}, RowsR H xs hss → xs[i]? = some x → ∃ hs r, hss[i]? = some hs ∧ x = V.ref r ∧ H r = some (.tup (hs.map V.int))
  | _, _, _, _, .nil, h => by simp at h
  | _, _, 0, _, .cons ⟨r, e, q⟩ _, h => by
    simp only [List.length_cons, Nat.zero_lt_succ, List.getElem?_eq_getElem, List.getElem_cons_zero, Option.some.injEq] at h
    subst h
    exact ⟨_, r, rfl, e, q⟩
  | _, _, i + 1, _, .cons _ t, h => by
    rw [List.getElem?_cons_succ] at h ⊢
    exact RowsR.get t h
theorem RowsR.dp {K : PySem.W.Frag} {H : Hp} : ∀ {xs : List V} {hss : List (List Int)}, RowsR H xs hss → DpAll K H xs (hss.map iT)
  | _, _, .nil => .nil
  | _, _, .cons ⟨r, e, q⟩ t => by
    subst e
    exact .cons (dp_ints q) (RowsR.dp t)
/-- a list of tuples of ints -/
def RowsAt (H : Hp) (D : Addr) (hss : List (List Int)) : Prop := ∃ xs, H D = some (.lst xs) ∧ RowsR H xs hss
theorem RowsAt.mono {H H2 : Hp} {D : Addr} {hss : List (List Int)} (e : Ex H H2) (h : RowsAt H D hss) : RowsAt H2 D hss := by
  obtain ⟨xs, h1, h2⟩ := h
  exact ⟨xs, e _ _ h1, h2.mono e⟩
theorem RowsAt.dp {K : PySem.W.Frag} {H : Hp} {D : Addr} {hss : List (List Int)} (h : RowsAt H D hss) : Dp K H (.ref D) (.list (hss.map iT)) := by
  obtain ⟨xs, h1, h2⟩ := h
  exact .lst (SqL.of h1) h2.dp
theorem sh_rows {n : Nat} (hss : List (List Int)) : Sh (n + 2) (.list (hss.map iT)) := sh_list fun d hd => by
  obtain ⟨hs, _, rfl⟩ := List.mem_map.mp hd
  exact sh_ints hs
theorem eqvAll_rows : ∀ ns ms : List (List Int), PyData.eqvAll (ns.map iT) (ms.map iT) = decide (ns = ms)
  | [], [] => by simp [PyData.eqvAll]
  | [], _ :: _ => by simp [PyData.eqvAll]
  | _ :: _, [] => by simp [PyData.eqvAll]
  | n :: ns, m :: ms => by
    have ih := eqvAll_rows ns ms
    simp only [List.map_cons, PyData.eqvAll, eqv_ints, ih]
    by_cases h : n = m
    · subst h
      simp
    · simp [h]
theorem eqv_rows (ns ms : List (List Int)) : PyData.eqv (.list (ns.map iT)) (.list (ms.map iT)) = decide (ns = ms) := by
  simp only [PyData.eqv]
  exact eqvAll_rows ns ms
theorem RowsR.upd {H : Hp} {D : Addr} {acc : List V} {o : HO} (hD : H D = some (.lst acc)) : ∀ {xs : List V} {hss : List (List Int)}, RowsR H xs hss → RowsR (upd H D o) xs hss
  | _, _, .nil => .nil
  | _, _, .cons ⟨r, h1, h2⟩ t => .cons ⟨r, h1, by rw [upd_ne (ne_of h2 hD (by intro z; cases z))]; exact h2⟩ (RowsR.upd hD t)
theorem rows_push {H : Hp} {D u : Addr} {hss : List (List Int)} {ks : List Int} (h : RowsAt H D hss) (hu : H u = some (.tup (ks.map V.int))) : ∃ acc, H D = some (.lst acc) ∧ acc.length = hss.length ∧ RowsAt (upd H D (.lst (acc ++ [.ref u]))) D (hss ++ [ks]) := by
  obtain ⟨xs, h1, h2⟩ := h
  refine ⟨xs, h1, h2.len, _, upd_same, ?_⟩
  exact RowsR.snoc (by rw [upd_ne (ne_of hu h1 (by intro z; cases z))]; exact hu) (h2.upd h1)
theorem ex_upd {H H2 : Hp} {D : Addr} {o : HO} (e : Ex H H2) (hD : H D = none) : Ex H (upd H2 D o) := fun c u z => by
  rw [upd_ne (ne_of_none z hD)]
  exact e c u z
theorem ext {H H1 H2 : Hp} (a : Ex H H1) (b : Ex H1 H2) : Ex H H2 := fun c o z => b c o (a c o z)

/-! ### tuple * int, from 1 on -/
theorem u65 {k : Nat} {A : Around} (r : Room k A) : A.units + 65 < cLine := by have := r.un; omega
theorem tuple_mul1 (l : Addr) (items : Array Value) (n : Nat) (dd : Option Addr) (sl : Array (Option Value)) (x : Int) (u : Tok) (c0 : (decide (x < -(2 ^ 63)) || decide (x ≥ 2 ^ 63)) = false) (c1 : (items.isEmpty || x == 1) = true) :
    Meets (Builtin.«tuple.__mul__» ⟨[.ref l, .int x u], []⟩) (fun _ R s => s.heap.get? l = some { cls := .type "tuple", dict := dd, data := .seq items n, slots := sl } ∧ R (.ok (.ret (Value.ref l))) s) :=
  .of_wp fun prog w A R s h => by
    obtain ⟨hp, g, d, tk, os⟩ := s
    obtain ⟨hl, h⟩ := h
    have f1 := AutoSeq1.idx_int
    wp_walk using wpAny_loadPart' hl
    repeat (first
      | (refine wpAny_ite_false (decide_eq_false (by rw [c0]; exact Bool.false_ne_true)) ?_; wp_walk using wpAny_loadPart' hl)
      | (refine wpAny_ite_true (decide_eq_true c1) ?_; wp_walk using wpAny_loadPart' hl))
    exact ⟨_, rfl, h⟩
def rRepA (K : PySem.W.Frag) : R2 := fun x y H Q => ∃ l k xs, x = .ref l ∧ y = .int k ∧ SqT K H l xs ∧ xs ≠ [] ∧ 1 ≤ k ∧ k ≤ 1000 ∧ xs.length ≤ 1000 ∧ (k = 1 → Q (.ref l) H) ∧ ∀ p, H p = none → Q (.ref p) (upd H p (.tup (List.replicate k.toNat xs).flatten))
theorem op_repA {X : Cx} : OpR X (binaryOp .Mult) (rRepA X.K) := by
  intro pins s σ H x y v u Q I rx ry h
  obtain ⟨l, k, xs, ex, ey, hT, hne, h1, h2, hz, q1, q⟩ := h
  by_cases hk : k = 1
  · subst ex ey hk
    cases rx
    obtain ⟨t, rfl⟩ := ry
    obtain ⟨its, r, ⟨⟨cls, dd, data, sl⟩, ho, hc, n, hd⟩, hs⟩ := I.tuple hT
    simp only at hc hd
    subst hc hd
    refine wpAny_binaryOp_repeat_ref (T := "tuple") (U := "int") (by decide) ⟨_, ho, rfl⟩ (fun s2 => typeIs_int s2 1 t) noFill_tuple_mul PySem.F.fills_int_mul PySem.F.slot_int_rmul repeat_tuple PySem.F.slot_int_index.lookup
      (call_meets PySem.F.slot_int_rmul (typeIs_int s 1 t) PySem.F.entry_int_rmul (PySem.F.args_int_rmul_2 _ _) (int_rmul_tuple 1 t l its.toArray n dd sl)
        ⟨ho, rfl, ⟨_, ho, rfl⟩, call_meets PySem.F.slot_tuple_mul ⟨_, ho, rfl⟩ PySem.F.entry_tuple_mul (PySem.F.args_tuple_mul_2 _ _) (tuple_mul1 l its.toArray n dd sl 1 t (by decide) (by simp)) ⟨ho, ?_⟩⟩)
    exact ⟨.ref l, H, I, rfl, q1 rfl⟩
  · exact op_repT pins s σ H x y v u Q I rx ry ⟨l, k, xs, ex, ey, hT, hne, by omega, h2, hz, q⟩
/-- (x,) * k -/
theorem rep_one (x : V) (k : Nat) : (List.replicate k [x]).flatten = List.replicate k x := by
  induction k with
  | zero => rfl
  | succ k ih => rw [List.replicate_succ, List.flatten_cons, ih, List.replicate_succ]; rfl
theorem rep_ints {K : PySem.W.Frag} {H : Hp} {Q : VK} {u : Addr} {x k : Int} (hu : H u = some (.tup [.int x])) (h1 : 1 ≤ k) (h2 : k ≤ 1000) (h : ∀ q H2, Ex H H2 → H2 q = some (.tup ((List.replicate k.toNat x).map V.int)) → Q (.ref q) H2) : rRepA K (.ref u) (.int k) H Q := by
  refine ⟨u, k, [.int x], rfl, rfl, SqT.of hu, (fun z => nomatch z), h1, h2, (by show 1 ≤ 1000; decide), fun e => ?_, fun p hp => ?_⟩
  · subst e
    exact h u H exr hu
  · refine h p _ (exn hp) ?_
    rw [upd_same, rep_one, List.map_replicate]
theorem ne_same {a b : List Int} (h : a = b) : (!PyData.eqv (iT a) (iT b)) = false := by rw [h]; exact eqv_same (sh_ints b)
/-- a comprehension over a tuple of ints, by a value each -/
theorem row_in {hss : List (List Int)} {ps : List Int} (h : ps ∈ hss) : ((hss.map iT).any fun z => PyData.eqv z (iT ps)) = true := by
  rw [List.any_eq_true]
  exact ⟨iT ps, List.mem_map.mpr ⟨ps, h, rfl⟩, by rw [eqv_ints]; simp⟩
/-- a list of ints -/
abbrev iL (ns : List Int) : PyData := .list (ns.map PyData.int)
theorem sh_ilist {n : Nat} (ns : List Int) : Sh (n + 1) (iL ns) := sh_list fun d hd => by
  obtain ⟨i, _, rfl⟩ := List.mem_map.mp hd
  exact sh_int i
theorem dp_ilist {K : PySem.W.Frag} {H : Hp} {a : Addr} {ns : List Int} (h : H a = some (.lst (ns.map V.int))) : Dp K H (.ref a) (iL ns) := .lst (SqL.of h) (dpall_ints ns)
theorem eqv_ilist (ns ms : List Int) : PyData.eqv (iL ns) (iL ms) = decide (ns = ms) := by
  simp only [PyData.eqv]
  exact eqvAll_ints ns ms
theorem dec_bl {a b : Bool} (h : a = b) : (!decide (V.bl a = V.bl b)) = false := by rw [h]; simp
theorem emod_eq_iff {a b n : Int} : a % n = b % n ↔ n ∣ a - b := by
  rw [Int.emod_eq_emod_iff_emod_sub_eq_zero, Int.dvd_iff_emod_eq_zero]
/-- behind an if that changes names alone -/
theorem ifs_cutS {c : TT} {t u : TS} {D : Ends} {σ : L2.St} {H : Hp} (R : L2.St → Prop) (hR : ∀ σ2, R σ2 → D.nx σ2 H) (h : ∀ N : L2.St → Hp → Prop, (∀ σ2, R σ2 → N σ2 H) → tIfS c t u { D with nx := N } σ H) : tIfS c t u D σ H :=
  h D.nx hR

/-- a comprehension that lengthens a row by each of ks -/
theorem lc_rows {J : It} {n : Nat} {G : Hp → Prop} {Y : Nat → Hp → V → Hp → Prop} (w : Walk J n G Y) {g : TG} {te : TE} {vs : List Nat} {σ : L2.St} {H1 : Hp} {D : Addr} {Qd : Hp → Prop} (row ks : List Int) (hn : ks.length = n) (hl : n ≤ 10000000) (hD : H1 D = none)
    (hG : ∀ H, Ex H1 H → G H)
    (hs : ∀ i x H H2 (R : VK), i < n → Ex H1 H → Y i H x H2 → (∀ k v H5, Ex H H5 → ks[i]? = some k → H5 v = some (.tup ((row ++ [k]).map V.int)) → R (.ref v) H5) → g x (wipe σ vs) H2 fun σ2 H3 => wipe σ2 vs = wipe σ vs ∧ te σ2 H3 R)
    (hg : ∀ x σ2 H2 (R R2 : L2.St → Hp → Prop), (∀ σ3 H3, R σ3 H3 → R2 σ3 H3) → g x σ2 H2 R → g x σ2 H2 R2)
    (hd : ∀ H, Ex H1 H → RowsAt H D (ks.map fun k => row ++ [k]) → Qd H) :
    ∃ W : Nat → Nat → Hp → Prop, (∃ m, W 0 m (upd H1 D (.lst []))) ∧ ∀ i m H, W i m H →
      (J.stop i H ∧ Qd H) ∨ (J.go i H ∧ ∃ Nx : Hp → Prop, (∀ H2, Nx H2 → ∃ m2, m2 < m ∧ W (i + 1) m2 H2) ∧ ∀ x H2, J.yld i H x H2 → g x (wipe σ vs) H2 fun σ2 H3 => wipe σ2 vs = wipe σ vs ∧ tYes σ2 H3 fun b H4 =>
        if b = true then te σ2 H4 fun y H5 => ∃ acc, H5 D = some (.lst acc) ∧ acc.length < sizeLine ∧ Nx (upd H5 D (.lst (acc ++ [y]))) else Nx H4) := by
  refine lc_it w (fun i H => Ex H1 H ∧ RowsAt H D ((ks.take i).map fun k => row ++ [k])) ⟨exn hD, _, upd_same, .nil⟩ (fun i H _ p => hG H p.1) (fun i x H H2 hi p y => ?_) (fun H p => hd H p.1 (by have := p.2; rwa [List.take_of_length_le (by rw [hn]; exact Nat.le_refl _)] at this))
  refine hg _ _ _ _ _ (fun σ3 H3 q => ⟨q.1, q.2⟩) (hs i x H H2 (fun y H5 => ∃ acc, H5 D = some (.lst acc) ∧ acc.length < sizeLine ∧ Ex H1 (upd H5 D (.lst (acc ++ [y]))) ∧ RowsAt (upd H5 D (.lst (acc ++ [y]))) D ((ks.take (i + 1)).map fun k => row ++ [k])) hi p.1 y fun k v H5 e hk hv => ?_)
  obtain ⟨acc, h1, h2, h3⟩ := rows_push (p.2.mono e) hv
  refine ⟨acc, h1, ?_, ex_upd (ext p.1 e) hD, ?_⟩
  · rw [h2, List.length_map, List.length_take]
    exact Nat.lt_of_le_of_lt (Nat.le_trans (Nat.min_le_right _ _) (by rw [hn]; exact hl)) (by decide)
  · rw [take_more hk, List.map_append]
    exact h3
/-- row + (k,) -/
theorem cat_row {K : PySem.W.Frag} {H : Hp} {Q : VK} {r u : Addr} {row : List Int} {k : Int} (hr : H r = some (.tup (row.map V.int))) (hu : H u = some (.tup [.int k])) (hl : row.length ≤ 1000) (h : ∀ v H5, Ex H H5 → H5 v = some (.tup ((row ++ [k]).map V.int)) → Q (.ref v) H5) : rCatA K (.ref r) (.ref u) H Q := by
  refine ⟨r, u, row.map V.int, [.int k], rfl, rfl, SqT.of hr, SqT.of hu, ?_, fun z => ?_, fun _ z => (nomatch z), fun _ _ v hv => ?_⟩
  · rw [List.length_map]
    exact Nat.le_trans (show _ + 1 ≤ 1001 by omega) (by decide)
  · have : row = [] := List.map_eq_nil_iff.mp z
    subst this
    exact h u H exr hu
  · refine h v _ (exn hv) ?_
    rw [upd_same, List.map_append]
    rfl
theorem rows_ext {H : Hp} {D E : Addr} {hss kss : List (List Int)} (h1 : RowsAt H D hss) (h2 : RowsAt H E kss) (ne : D ≠ E) : ∃ xs zs, H D = some (.lst xs) ∧ H E = some (.lst zs) ∧ xs.length = hss.length ∧ zs.length = kss.length ∧ RowsAt (upd H D (.lst (xs ++ zs))) D (hss ++ kss) := by
  obtain ⟨xs, a1, a2⟩ := h1
  obtain ⟨zs, b1, b2⟩ := h2
  exact ⟨xs, zs, a1, b1, a2.len, b2.len, _, upd_same, RowsR.app (b2.upd a1) (a2.upd a1)⟩

theorem eqT {i j : Int} (h : decide (V.int i = V.int j) = true) : i = j := V.int.inj (of_decide_eq_true h)
theorem eqF {i j : Int} (h : ¬decide (V.int i = V.int j) = true) : i ≠ j := fun z => h (decide_eq_true (by rw [z]))
/-- behind an if -/
theorem ifs_cutG {c : TT} {t u : TS} {D : Ends} {σ : L2.St} {H : Hp} (R : L2.St → Hp → Prop) (hR : ∀ σ2 H2, R σ2 H2 → D.nx σ2 H2) (h : ∀ N : L2.St → Hp → Prop, (∀ σ2 H2, R σ2 H2 → N σ2 H2) → tIfS c t u { D with nx := N } σ H) : tIfS c t u D σ H :=
  h D.nx hR
theorem exG {H H4 : Hp} {p : Addr} {o : HO} (h : upd H p o = H4) (n : H p = none) : Ex H H4 := h ▸ exn n
theorem atG {H H4 : Hp} {p : Addr} {o : HO} (h : upd H p o = H4) : H4 p = some o := h ▸ upd_same
theorem slen {n : Nat} (h : Nat.ble n 1000 = true) : n ≤ sizeLine := Nat.le_trans (Nat.le_of_ble_eq_true h) (by decide)
/-- a comprehension with a test: what passes, by f -/
theorem lc_filt {α : Type} {J : It} {n : Nat} {G : Hp → Prop} {Y : Nat → Hp → V → Hp → Prop} (w : Walk J n G Y) {g : TG} {tt : TT} {te : TE} {vs : List Nat} {σ : L2.St} {H1 : Hp} {D : Addr} {Qd : Hp → Prop} (xs : List α) (c : α → Bool) (f : α → V) (hn : xs.length = n) (hl : n ≤ 10000000) (hD : H1 D = none)
    (hG : ∀ H, Ex H1 H → G H)
    (hs : ∀ i x a H H2 (R : VK) (S : Hp → Prop), xs[i]? = some a → Ex H1 H → Y i H x H2 → (∀ y H5, Ex H H5 → c a = true → y = f a → R y H5) → (∀ H4, Ex H H4 → c a = false → S H4) → g x (wipe σ vs) H2 fun σ2 H3 => wipe σ2 vs = wipe σ vs ∧ tt σ2 H3 fun b H4 => if b = true then te σ2 H4 R else S H4)
    (hd : ∀ H, Ex H1 H → H D = some (.lst ((xs.filter c).map f)) → Qd H) :
    ∃ W : Nat → Nat → Hp → Prop, (∃ m, W 0 m (upd H1 D (.lst []))) ∧ ∀ i m H, W i m H →
      (J.stop i H ∧ Qd H) ∨ (J.go i H ∧ ∃ Nx : Hp → Prop, (∀ H2, Nx H2 → ∃ m2, m2 < m ∧ W (i + 1) m2 H2) ∧ ∀ x H2, J.yld i H x H2 → g x (wipe σ vs) H2 fun σ2 H3 => wipe σ2 vs = wipe σ vs ∧ tt σ2 H3 fun b H4 =>
        if b = true then te σ2 H4 fun y H5 => ∃ acc, H5 D = some (.lst acc) ∧ acc.length < sizeLine ∧ Nx (upd H5 D (.lst (acc ++ [y]))) else Nx H4) := by
  refine lc_out w (fun i => ((xs.take i).filter c).map f) (by simp) hD (fun i hi => ?_) hG (fun i x H H2 Nx hi e hDi y kA kN => ?_) (fun H e h => hd H e ?_)
  · rw [List.length_map]
    refine Nat.lt_of_le_of_lt (Nat.le_trans (List.length_filter_le _ _) (Nat.le_trans (by rw [List.length_take]; exact Nat.min_le_right _ _) (by rw [hn]; exact hl))) (by decide)
  · obtain ⟨a, ha⟩ : ∃ a, xs[i]? = some a := ⟨xs[i]'(by omega), List.getElem?_eq_getElem (by omega)⟩
    refine hs i x a H H2 _ _ ha e y (fun y2 H5 e5 hc hy => kA y2 H5 e5 ?_) (fun H4 e4 hc => kN H4 e4 ?_)
    · rw [take_more ha, List.filter_append, List.map_append, hy]
      simp [hc]
    · rw [take_more ha, List.filter_append, List.map_append]
      simp [hc]
  · rw [h, List.take_of_length_le (by rw [hn]; exact Nat.le_refl _)]
/-- rows that pass a test -/
theorem RowsR.filt {H : Hp} (c : List Int → Bool) : ∀ {xs : List V} {hss : List (List Int)}, RowsR H xs hss → RowsR H (((xs.zip hss).filter fun z => c z.2).map fun z => z.1) (hss.filter c)
  | _, _, .nil => .nil
  | _, _, .cons (a := x) (b := hs) q t => by
    have ih := RowsR.filt c t
    rw [List.zip_cons_cons]
    cases e : c hs with
    | false =>
      rw [List.filter_cons_of_neg (by simp [e]), List.filter_cons_of_neg (by simp [e])]
      exact ih
    | true =>
      rw [List.filter_cons_of_pos (by simp [e]), List.filter_cons_of_pos (by simp [e])]
      exact .cons q ih
theorem zip_at2 {α β : Type} {l : List α} {m : List β} {i : Nat} {z : α × β} (h : (l.zip m)[i]? = some z) : l[i]? = some z.1 ∧ m[i]? = some z.2 := by
  rw [List.getElem?_zip_eq_some] at h
  exact h
/-- tuple(s), s a list or a tuple -/
theorem tup_of {K : PySem.W.Frag} {H : Hp} {q : Bool × Addr} {xs : List V} {Q : VK} (h : SqH H q xs) (k : ∀ t H2, Ex H H2 → H2 t = some (.tup xs) → Q (.ref t) H2) : (SqL K H q.2 xs ∧ ∀ p, H p = none → Q (.ref p) (upd H p (.tup xs))) ∨ SqT K H q.2 xs ∧ Q (.ref q.2) H := by
  obtain ⟨b, a⟩ := q
  cases b
  · exact .inl ⟨SqL.of (show H a = some (.lst xs) from h), fun p hp => k p _ (exn hp) upd_same⟩
  · exact .inr ⟨SqT.of (show H a = some (.tup xs) from h), k a H exr h⟩
def rTupQ : List V → Hp → VK → Prop := fun vs H Q => ∃ (q : Bool × Addr) (xs : List V), vs = [.ref q.2] ∧ SqH H q xs ∧ ∀ t H2, Ex H H2 → H2 t = some (.tup xs) → Q (.ref t) H2
theorem call_tuple_q {X : Cx} : CallR X (.type "tuple") rTupQ := by
  intro pins s σ H vs us Q I r h
  obtain ⟨q, xs, rfl, hq, k⟩ := h
  exact call_tuple_of pins s σ H _ us Q I r ⟨q.2, xs, rfl, tup_of hq k⟩
theorem SqH.uniq {H : Hp} {q : Bool × Addr} {xs ys : List V} (h1 : SqH H q xs) (h2 : SqH H q ys) : xs = ys := by
  obtain ⟨b, a⟩ := q
  cases b
  · have e : some (HO.lst xs) = some (HO.lst ys) := (show H a = some (.lst xs) from h1).symm.trans (show H a = some (.lst ys) from h2)
    injection e with e
    injection e
  · have e : some (HO.tup xs) = some (HO.tup ys) := (show H a = some (.tup xs) from h1).symm.trans (show H a = some (.tup ys) from h2)
    injection e with e
    injection e
theorem RowsR.monoT {H H2 : Hp} (e : ∀ c xs, H c = some (.tup xs) → H2 c = some (.tup xs)) : ∀ {xs : List V} {hss : List (List Int)}, RowsR H xs hss → RowsR H2 xs hss
  | _, _, .nil => .nil
  | _, _, .cons ⟨r, h1, h2⟩ t => .cons ⟨r, h1, e _ _ h2⟩ (RowsR.monoT e t)

theorem shift_back {f : Int} : ∀ {ns ps cs : List Int}, SeatOk ns ps → cs.length = ns.length → shiftL ns (shiftL ns ps cs f) cs (-f) = ps
  | [], [], [], _, _ => rfl
  | n :: ns, p :: ps, c :: cs, h, l => by
    show ((p + f * c) % n + -f * c) % n :: _ = _
    rw [shift_back h.2 (Nat.succ.inj l), Int.emod_add_emod, Int.neg_mul, Int.add_neg_cancel_right, Int.emod_eq_of_lt h.1.1 h.1.2]
theorem shift_neg {f : Int} : ∀ {ns ps cs : List Int}, shiftL ns ps (cs.map fun c => 0 - c) f = shiftL ns ps cs (-f)
  | [], _, _ => by cases ‹List Int› <;> simp [shiftL]
  | _ :: _, [], _ => by simp [shiftL]
  | _ :: _, _ :: _, [] => by simp [shiftL]
  | n :: ns, p :: ps, c :: cs => by
    show (p + f * (0 - c)) % n :: _ = (p + -f * c) % n :: _
    rw [shift_neg, Int.zero_sub, Int.mul_neg, Int.neg_mul]
theorem shift_comm {f g : Int} : ∀ {ns ps cs ds : List Int}, ps.length = ns.length → cs.length = ns.length → ds.length = ns.length → shiftL ns (shiftL ns ps cs f) ds g = shiftL ns (shiftL ns ps ds g) cs f
  | [], [], [], [], _, _, _ => rfl
  | n :: ns, p :: ps, c :: cs, d :: ds, l1, l2, l3 => by
    show ((p + f * c) % n + g * d) % n :: _ = ((p + g * d) % n + f * c) % n :: _
    rw [shift_comm (Nat.succ.inj l1) (Nat.succ.inj l2) (Nat.succ.inj l3), Int.emod_add_emod, Int.emod_add_emod, Int.add_right_comm]
theorem shift_seat {f : Int} : ∀ {ns ps cs : List Int}, (∀ n ∈ ns, 1 ≤ n) → ps.length = ns.length → cs.length = ns.length → SeatOk ns (shiftL ns ps cs f)
  | [], [], [], _, _, _ => True.intro
  | n :: ns, p :: ps, c :: cs, h, l1, l2 => by
    have n1 := h n List.mem_cons_self
    exact ⟨⟨Int.emod_nonneg _ (by omega), Int.emod_lt_of_pos _ (by omega)⟩, shift_seat (fun m hm => h m (List.mem_cons_of_mem _ hm)) (Nat.succ.inj l1) (Nat.succ.inj l2)⟩
theorem shift_same {f g : Int} : ∀ {ns ps cs : List Int}, ps.length = ns.length → cs.length = ns.length → (shiftL ns ps cs f = shiftL ns ps cs g ↔ ∀ z ∈ cs.zip ns, z.2 ∣ (f - g) * z.1)
  | [], [], [], _, _ => by simp [shiftL]
  | n :: ns, p :: ps, c :: cs, l1, l2 => by
    have e : p + f * c - (p + g * c) = (f - g) * c := by rw [Int.sub_mul]; omega
    show (p + f * c) % n :: _ = (p + g * c) % n :: _ ↔ _
    rw [List.cons.injEq, shift_same (Nat.succ.inj l1) (Nat.succ.inj l2), emod_eq_iff, e, List.zip_cons_cons, List.forall_mem_cons]
theorem shift_zero : ∀ {ns ps cs : List Int}, SeatOk ns ps → cs.length = ns.length → shiftL ns ps cs 0 = ps
  | [], [], [], _, _ => rfl
  | n :: ns, p :: ps, c :: cs, h, l => by
    show (p + 0 * c) % n :: _ = _
    rw [shift_zero h.2 (Nat.succ.inj l), Int.zero_mul, Int.add_zero, Int.emod_eq_of_lt h.1.1 h.1.2]
/-- a call times k -/
theorem shift_times {k : Int} : ∀ {ns ps cs : List Int}, shiftL ns ps (cs.map fun c => c * k) 1 = shiftL ns ps cs k
  | [], _, _ => by cases ‹List Int› <;> simp [shiftL]
  | _ :: _, [], _ => by simp [shiftL]
  | _ :: _, _ :: _, [] => by simp [shiftL]
  | n :: ns, p :: ps, c :: cs => by
    show (p + 1 * (c * k)) % n :: _ = (p + k * c) % n :: _
    rw [shift_times, Int.one_mul, Int.mul_comm c]
theorem zero_seat : ∀ {ns : List Int}, (∀ n ∈ ns, 1 ≤ n) → SeatOk ns (List.replicate ns.length 0)
  | [], _ => True.intro
  | n :: ns, h => ⟨⟨Int.le_refl _, by have := h n List.mem_cons_self; omega⟩, zero_seat fun m hm => h m (List.mem_cons_of_mem _ hm)⟩

/-- Table(..) -/
theorem mk_tab {C a : Addr} {b : Bool} {H : Hp} {ns : List Int} {R : Addr → Hp → Prop} {E : XK} (hq : SqH H (b, a) (ns.map V.int)) (ok : SzOk ns) (k : ∀ x H2, Ex H H2 → H x = none → TabAt C H2 x ns → R x H2) :
    ∀ x dx, H x = none → H dx = none → dx ≠ x → sp_Table_init C [.ref x, .ref a] (upd (upd H dx (.own x)) x (.ins C dx [])) (fun v H2 => v = .non ∧ R x H2) E := by
  intro x dx nx ndx _
  have exB : Ex H (upd (upd H dx (.own x)) x (.ins C dx [])) := fun c o z => by
    rw [upd_ne (ne_of_none z nx), upd_ne (ne_of_none z ndx)]
    exact z
  refine ⟨x, dx, (b, a), ns, rfl, upd_same, hq.mono exB, ok, fun H3 k3 ht3 => ⟨rfl, ?_⟩⟩
  obtain ⟨t, g1, g2⟩ := ht3
  exact k x H3 (fun c o z => k3 c o (ne_of_none z nx) (exB c o z)) nx ⟨dx, t, g1, g2⟩
theorem eqN {i j : Int} (h : ¬(!decide (V.int i = V.int j)) = true) : i = j := by
  by_cases e : i = j
  · exact e
  · exact absurd (by simp [e]) h
/-! ### lists and tuples alike -/
theorem cut_from (xs : List V) (k : Nat) : cutV xs (some (k : Int)) none = xs.drop k := by
  unfold cutV
  rw [HT.sIx_nat, HT.sIx_none]
  by_cases h : k ≤ xs.length
  · rw [Nat.min_eq_left h]
    exact List.take_of_length_le (by rw [List.length_drop]; omega)
  · rw [Nat.min_eq_right (by omega), List.drop_of_length_le (Nat.le_refl _), List.drop_of_length_le (by omega)]
    simp
theorem cut_to (xs : List V) (k : Nat) : cutV xs none (some (k : Int)) = xs.take k := by
  unfold cutV
  rw [HT.sIx_nat, HT.sIx_none, List.drop_zero, Nat.sub_zero]
  by_cases h : k ≤ xs.length
  · rw [Nat.min_eq_left h]
  · rw [Nat.min_eq_right (by omega), List.take_of_length_le (Nat.le_refl _), List.take_of_length_le (by omega)]
theorem cut_whole {xs : List V} {lo hi : Option Int} (h : HT.sIx xs.length 0 lo = 0 ∧ HT.sIx xs.length xs.length hi = xs.length) : cutV xs lo hi = xs := by
  unfold cutV
  rw [h.1, h.2, List.drop_zero, Nat.sub_zero, List.take_of_length_le (Nat.le_refl _)]
def rIxQ (K : PySem.W.Frag) : R2 := fun x y H Q => ∃ (q : Bool × Addr) (xs : List V) (i : Int) (v : V), x = .ref q.2 ∧ y = .int i ∧ CZ.SqK K H q xs ∧ atI xs i = some v ∧ Q v H
theorem ix_q {X : Cx} : IxR X (rIxQ X.K) := by
  intro value slice pins s σ H x y v u Q I rx ry h hsub
  obtain ⟨⟨b, a⟩, xs, i, z, rfl, rfl, hq, hz, q⟩ := h
  cases b
  · exact ix_list value slice pins s σ H _ _ v u Q I rx ry ⟨a, xs, i, z, rfl, rfl, hq, hz, q⟩ hsub
  · exact ix_tup value slice pins s σ H _ _ v u Q I rx ry ⟨a, xs, i, z, rfl, rfl, hq, hz, q⟩ hsub
def rSlQ : V → Option Int → Option Int → Hp → VK → Prop := fun x lo hi H Q => ∃ (q : Bool × Addr) (xs : List V), x = .ref q.2 ∧ SqH H q xs ∧ ∀ p H2, Ex H H2 → SqH H2 (q.1, p) (cutV xs lo hi) → Q (.ref p) H2
theorem sl_q {X : Cx} : SlR X rSlQ := by
  intro pins s σ H x v vl vu lo hi sl Q I rx hs pl pu h
  obtain ⟨⟨b, a⟩, xs, rfl, hq, k⟩ := h
  cases b
  · exact sl_list pins s σ H _ v vl vu lo hi sl Q I rx hs pl pu ⟨a, xs, rfl, SqL.of (show H a = some (.lst xs) from hq), fun p hp => k p _ (exn hp) upd_same⟩
  · exact sl_tupA pins s σ H _ v vl vu lo hi sl Q I rx hs pl pu ⟨a, xs, rfl, SqT.of (show H a = some (.tup xs) from hq), fun hw => k a H exr (by rw [cut_whole hw]; exact hq), fun _ p hp => k p _ (exn hp) upd_same⟩

/-- the greatest common divisor -/
abbrev gcdI (a b : Int) : Int := ((Int.gcd a b : Nat) : Int)
theorem gcd_pos2 {p n : Int} (h : 1 ≤ n) : 0 < Int.gcd p n := Int.gcd_pos_of_ne_zero_right _ (by omega)
theorem gcd_turn {a b : Int} (hb : b ≠ 0) : Int.gcd b (a % b) = Int.gcd a b := by
  rw [Int.gcd_comm b, Int.emod_def, Int.sub_eq_add_neg, ← Int.mul_neg, Int.gcd_add_mul_left_left]
theorem abs45 {n : Int} (h1 : 0 ≤ n) (h2 : n ≤ 10 ^ 45) : n.natAbs < 2 ^ 150 := by
  have h5 : (10 : Int) ^ 45 < 2 ^ 150 := by decide
  have h8 : ((2 ^ 150 : Nat) : Int) = (2 : Int) ^ 150 := by simp
  omega
section
variable {P : Program} {w : World} {K : PySem.W.Frag} {mg : Str → Option Value} {base : Heap}
def sp_greatest_common_divisor : Sp := fun vs H Q _ => ∃ a b : Int, vs = [.int a, .int b] ∧ 0 ≤ a ∧ 0 ≤ b ∧ Q (.int (gcdI a b)) H
theorem ok_greatest_common_divisor (T : TX K mg) : FnOk P w K mg base CX0 1 T.f_greatest_common_divisor T.fd_greatest_common_divisor ["first", "second"] sp_greatest_common_divisor := by
  refine T.F_greatest_common_divisor.ok sc_greatest_common_divisor (fun vs H Q E h => ?_) (fun cdv A outer s H vs Q E hr h => ?_)
  · obtain ⟨a, b, rfl, _⟩ := h
    rfl
  · obtain ⟨a0, b0, rfl, h1, h2, k⟩ := h
    refine ⟨_, (pss_cons (ps_while PassesOwn.never (pt_cmpR op_ne (pv 1) pe_int (nomark _)) (pss_one (ps_par (i := 0) (j := 1) rfl sc_greatest_common_divisor.nd rfl rfl (by decide) rfl rfl (pa_cons (pv 1) (pa_cons (pe_op op_mod (pv 0) (pv 1)) pa_nil)) (by rfl)))) (pss_one (ps_ret (pe_callB call_abs (by rfl) T.z_abs (by decide +kernel) (pa_cons (pv 0) pa_nil))))), ?_⟩
    refine ⟨fun m σ H2 => ∃ a b : Int, σ = [some (.int a), some (.int b)] ∧ H2 = H ∧ 0 ≤ a ∧ 0 ≤ b ∧ Int.gcd a b = Int.gcd a0 b0 ∧ m = b.toNat, ⟨_, a0, b0, rfl, rfl, h1, h2, rfl, rfl⟩, ?_⟩
    rintro m σ _ ⟨a, b, rfl, rfl, ha, hb, hg, rfl⟩
    refine ⟨_, rfl, rfl, _, rfl, ?_⟩
    by_cases hz : b = 0
    · subst hz
      refine itf (by simp) ⟨_, rfl, a, rfl, ?_⟩
      rw [if_neg (by omega)]
      have e : (Int.gcd a 0 : Nat) = a.natAbs := by simp
      have e2 : gcdI a0 b0 = a := by
        show ((Int.gcd a0 b0 : Nat) : Int) = a
        rw [← hg, e]
        omega
      rw [e2] at k
      exact k
    · refine itt (by rw [dec_int]; simp [hz]) ⟨_, fun _ _ h => h, ?_⟩
      have q1 := Int.emod_lt_of_pos a (show 0 < b by omega)
      have q2 := Int.emod_nonneg a hz
      exact ⟨_, rfl, _, rfl, _, rfl, _, _, rfl, rfl, (by show 0 < b; omega), _, _, rfl, _, (by show (a % b).toNat < b.toNat; omega), _, _, rfl, rfl, hb, q2, by rw [gcd_turn hz, hg], rfl⟩
end

/-! ### the order of a seat -/
def perN (p n : Int) : Nat := n.natAbs / Int.gcd p n
def ordF (zs : List (Int × Int)) : Nat := zs.foldl (fun l z => Nat.lcm l (perN z.1 z.2)) 1
theorem per_int {p n : Int} (h : 1 ≤ n) : n / gcdI p n = (perN p n : Int) := by
  have e : (n.natAbs : Int) = n := Int.natAbs_of_nonneg (by omega)
  unfold perN
  rw [Int.natCast_ediv, e]
theorem per_pos {p n : Int} (h : 1 ≤ n) : 0 < perN p n := by
  unfold perN
  refine Nat.div_pos ?_ (gcd_pos2 h)
  have := Int.gcd_dvd_right p n
  have h2 : (Int.gcd p n : Int) ≤ n := Int.le_of_dvd (by omega) this
  omega
theorem per_le {p n : Int} : perN p n ≤ n.natAbs := Nat.div_le_self _ _
theorem lcm_int {l m : Nat} : (l : Int) / gcdI l m * m = ((Nat.lcm l m : Nat) : Int) := by
  show (l : Int) / ((Nat.gcd l m : Nat) : Int) * m = _
  rw [← Int.natCast_ediv, ← Int.natCast_mul, Nat.lcm, Nat.div_mul_right_comm (Nat.gcd_dvd_left l m)]
theorem ord_snoc (zs : List (Int × Int)) (z : Int × Int) : ordF (zs ++ [z]) = Nat.lcm (ordF zs) (perN z.1 z.2) := by
  unfold ordF
  rw [List.foldl_append]
  rfl
theorem lcm_fold : ∀ {zs : List (Int × Int)} {a B : Nat}, 0 < a → (∀ z ∈ zs, 1 ≤ z.2 ∧ z.2.natAbs ≤ B) → 0 < zs.foldl (fun l z => Nat.lcm l (perN z.1 z.2)) a ∧ zs.foldl (fun l z => Nat.lcm l (perN z.1 z.2)) a ≤ a * B ^ zs.length
  | [], a, B, h, _ => by simp; exact h
  | z :: zs, a, B, h, hz => by
    have h1 := hz z List.mem_cons_self
    have h2 : 0 < Nat.lcm a (perN z.1 z.2) := Nat.lcm_pos h (per_pos h1.1)
    obtain ⟨g1, g2⟩ := lcm_fold (zs := zs) (B := B) h2 fun y hy => hz y (List.mem_cons_of_mem _ hy)
    refine ⟨g1, Nat.le_trans g2 ?_⟩
    have h3 : Nat.lcm a (perN z.1 z.2) ≤ a * B := Nat.le_trans (Nat.div_le_self _ _) (Nat.mul_le_mul_left _ (Nat.le_trans per_le h1.2))
    calc _ ≤ a * B * B ^ zs.length := Nat.mul_le_mul_right _ h3
      _ = a * B ^ (zs.length + 1) := by rw [Nat.pow_succ, Nat.mul_assoc, Nat.mul_comm B]
theorem ord_ok {zs : List (Int × Int)} (h : ∀ z ∈ zs, 1 ≤ z.2 ∧ z.2 ≤ 10 ^ 45) (hl : zs.length ≤ 4) : 0 < ordF zs ∧ ordF zs < 2 ^ 600 := by
  obtain ⟨g1, g2⟩ := lcm_fold (zs := zs) (a := 1) (B := 10 ^ 45) (by decide) fun z hz => ⟨(h z hz).1, by
    have := h z hz
    have e : ((10 ^ 45 : Nat) : Int) = (10 : Int) ^ 45 := by simp
    omega⟩
  refine ⟨g1, Nat.lt_of_le_of_lt g2 ?_⟩
  rw [Nat.one_mul]
  exact Nat.lt_of_le_of_lt (Nat.pow_le_pow_right (by decide) hl) (by decide +kernel)
theorem zip_at {α β : Type} {l : List α} {m : List β} {i : Nat} {x : α} {y : β} (h1 : l[i]? = some x) (h2 : m[i]? = some y) : (l.zip m)[i]? = some (x, y) := by
  rw [List.getElem?_zip_eq_some]
  exact ⟨h1, h2⟩
theorem zip_len {α β : Type} {l : List α} {m : List β} {n : Nat} (h1 : l.length = n) (h2 : m.length = n) : (l.zip m).length = n := by
  rw [List.length_zip, h1, h2, Nat.min_self]
theorem zip_take_len {α β : Type} {l : List α} {m : List β} {n : Nat} (h1 : l.length = n) (h2 : m.length = n) : (l.zip m).take n = l.zip m := List.take_of_length_le (by rw [zip_len h1 h2]; exact Nat.le_refl _)
/-- sizes that are not too long -/
abbrev SzB (ns : List Int) : Prop := ∀ n ∈ ns, n ≤ 10 ^ 45
theorem SeatOk.at : ∀ {ns ps : List Int} {i : Nat} {n p : Int}, SeatOk ns ps → ns[i]? = some n → ps[i]? = some p → 0 ≤ p ∧ p < n
  | [], [], _, _, _, _, h, _ => by simp at h
  | n :: ns, p :: ps, 0, _, _, h, h1, h2 => by
    simp at h1 h2
    subst h1 h2
    exact h.1
  | n :: ns, p :: ps, i + 1, _, _, h, h1, h2 => by
    rw [List.getElem?_cons_succ] at h1 h2
    exact SeatOk.at h.2 h1 h2
theorem zip_bound {ns ps : List Int} (ok : SzOk ns) (hB : SzB ns) (i : Nat) : ∀ z ∈ (ps.zip ns).take i, 1 ≤ z.2 ∧ z.2 ≤ 10 ^ 45 := fun z hz => by
  have := (List.of_mem_zip (show (z.1, z.2) ∈ ps.zip ns from List.mem_of_mem_take hz)).2
  exact ⟨ok.one _ this, hB _ this⟩
theorem abs_succ {n : Int} (h : n.natAbs < 2 ^ 150) : (n + 1).natAbs < 2 ^ 151 := by
  have : (2 : Nat) ^ 151 = 2 * 2 ^ 150 := by decide +kernel
  omega
/-- the halves of a place -/
def halfL (p n : Int) : List Int := if n % 2 = 1 then [p * (n + 1) / 2 % n] else if p % 2 = 0 then [p / 2, (p + n) / 2] else []
theorem halfL_def (p n : Int) : halfL p n = if n % 2 = 1 then [p * (n + 1) / 2 % n] else if p % 2 = 0 then [p / 2, (p + n) / 2] else [] := rfl
/-- .. of a seat -/
def crossL (hss : List (List Int)) (ks : List Int) : List (List Int) := hss.flatMap fun hs => ks.map fun k => hs ++ [k]
def halvesF (zs : List (Int × Int)) : List (List Int) := zs.foldl (fun hss z => crossL hss (halfL z.1 z.2)) [[]]
theorem halves_snoc (zs : List (Int × Int)) (z : Int × Int) : halvesF (zs ++ [z]) = crossL (halvesF zs) (halfL z.1 z.2) := by
  unfold halvesF
  rw [List.foldl_append]
  rfl
theorem cross_snoc (hss : List (List Int)) (hs ks : List Int) : crossL (hss ++ [hs]) ks = crossL hss ks ++ ks.map fun k => hs ++ [k] := by
  unfold crossL
  rw [List.flatMap_append]
  simp
theorem cross_len (ks : List Int) : ∀ hss : List (List Int), (crossL hss ks).length = hss.length * ks.length
  | [] => by simp [crossL]
  | h :: hss => by
    have ih := cross_len ks hss
    unfold crossL at ih ⊢
    rw [List.flatMap_cons, List.length_append, ih, List.length_map, List.length_cons, Nat.succ_mul, Nat.add_comm]
theorem half_len (p n : Int) : (halfL p n).length ≤ 2 := by
  unfold halfL
  split
  · simp
  · split <;> simp
theorem halves_len : ∀ (zs : List (Int × Int)) (hss : List (List Int)), (zs.foldl (fun hss z => crossL hss (halfL z.1 z.2)) hss).length ≤ hss.length * 2 ^ zs.length
  | [], hss => by simp
  | z :: zs, hss => by
    refine Nat.le_trans (halves_len zs _) ?_
    rw [cross_len, List.length_cons, Nat.pow_succ, Nat.mul_comm (2 ^ zs.length), ← Nat.mul_assoc]
    exact Nat.mul_le_mul_right _ (Nat.mul_le_mul_left _ (half_len _ _))
theorem halves_few {zs : List (Int × Int)} (h : zs.length ≤ 4) : (halvesF zs).length ≤ 16 := by
  have := halves_len zs [[]]
  refine Nat.le_trans this ?_
  rw [List.length_singleton, Nat.one_mul]
  exact Nat.pow_le_pow_right (by decide) h
theorem halves_rows : ∀ (zs : List (Int × Int)) (hss : List (List Int)) (m : Nat), (∀ hs ∈ hss, hs.length = m) → ∀ hs ∈ zs.foldl (fun hss z => crossL hss (halfL z.1 z.2)) hss, hs.length = m + zs.length
  | [], hss, m, h => h
  | z :: zs, hss, m, h => fun hs hh => by
    have := halves_rows zs (crossL hss (halfL z.1 z.2)) (m + 1) (fun ks hk => ?_) hs hh
    · rw [this, List.length_cons]
      omega
    · obtain ⟨us, hu, hk⟩ := List.mem_flatMap.mp hk
      obtain ⟨k, _, rfl⟩ := List.mem_map.mp hk
      rw [List.length_append, h us hu]
      rfl
section
variable {P : Program} {w : World} {K : PySem.W.Frag} {mg : Str → Option Value} {base : Heap}
def sp_Table_order (C : Addr) : Sp := fun vs H Q _ => ∃ (a s : Addr) (ns ps : List Int), vs = [.ref a, .ref s] ∧ TabAt C H a ns ∧ SzOk ns ∧ SzB ns ∧ H s = some (.tup (ps.map V.int)) ∧ SeatOk ns ps ∧ ∀ H2, Ex H H2 → Q (.int (ordF (ps.zip ns))) H2
theorem ok_Table_order (T : TX K mg) : FnOk P w K mg base CX0 5 T.f_Table_order T.fd_Table_order ["self", "seat"] (sp_Table_order T.C_Table) := by
  refine T.F_Table_order.ok sc_Table_order (fun vs H Q E h => ?_) (fun cdv A outer s H vs Q E hr h => ?_)
  · obtain ⟨a, s, ns, ps, rfl, _⟩ := h
    rfl
  · obtain ⟨a, s, ns, ps, rfl, tab, ok, hB, hs, sk, k⟩ := h
    have l4 := ok.le
    have lp := sk.len
    refine ⟨_, (pss_cons (ps_expr (pe_call (ok_require_seat T) hr rfl T.m_require_seat T.F_require_seat.kp T.b_require_seat .nil pass0 (pa_cons (pv 0) (pa_cons (pv 1) pa_nil)))) (pss_cons (ps_set (i := 2) sc_Table_order.nd rfl (Or.inl rfl) pe_int) (pss_cons (ps_for PassesOwn.never rfl (CZ.pi_z2s (fl := [true, true]) rfl (by rfl) T.z_zip (pa_cons (pv 1) (pa_cons (pe_fld (pv 0) rfl) pa_nil))) (pg_tup rfl (pgs_cons (pg_name (i := 3) sc_Table_order.nd rfl (Or.inl rfl)) (pgs_cons (pg_name (i := 4) sc_Table_order.nd rfl (Or.inl rfl)) pgs_nil))) (pss_cons (ps_set (i := 5) sc_Table_order.nd rfl (Or.inl rfl) (pe_op op_fdivW (pv 4) (pe_call (ok_greatest_common_divisor T) (hr.mono (by decide)) rfl T.m_greatest_common_divisor T.F_greatest_common_divisor.kp T.b_greatest_common_divisor .nil pass0 (pa_cons (pv 3) (pa_cons (pv 4) pa_nil))))) (pss_one (ps_set (i := 2) sc_Table_order.nd rfl (Or.inl rfl) (pe_op op_mulI (pe_op op_fdivW (pv 2) (pe_call (ok_greatest_common_divisor T) (hr.mono (by decide)) rfl T.m_greatest_common_divisor T.F_greatest_common_divisor.kp T.b_greatest_common_divisor .nil pass0 (pa_cons (pv 2) (pa_cons (pv 5) pa_nil)))) (pv 5)))))) (pss_one (ps_ret (pv 2)))))), ?_⟩
    refine ⟨_, rfl, _, rfl, a, _, ns, _, rfl, tab, l4, TupA.ints hs (by omega), isSeat_ok sk, fun H1 e1 => ?_⟩
    obtain ⟨dx, t, h1, h2⟩ := tab.mono e1
    have hs1 := e1 _ _ hs
    refine ⟨_, rfl, _, rfl, a, _, dx, _, _, rfl, h1, T.cl_Table, T.n_Table_rings, rfl, [s, t], rfl, rfl, all2 (sqT hs1) (sqT h2), ?_⟩
    refine for_it (CZ.walk_rows (xss := [ps.map V.int, ns.map V.int]) (n := ns.length) (lens2 (by rw [List.length_map, lp]) (by rw [List.length_map]))) (fun i σ H2 => ∃ y1 y2 y3 : Option V, σ = [some (.ref a), some (.ref s), some (.int (ordF ((ps.zip ns).take i))), y1, y2, y3] ∧ Ex H1 H2) ⟨_, _, _, rfl, exr⟩ (fun i σ H2 _ ⟨_, _, _, _, e⟩ => .cons (sqT (e _ _ hs1)) (.cons (sqT (e _ _ h2)) .nil)) ?_ ?_
    · rintro i x σ H2 H3 hi ⟨y1, y2, y3, rfl, e2⟩ yy
      obtain ⟨Ta, p, n, rfl, hT, rfl, hp, hn⟩ := yints2 yy
      have n1 := ok.one n (List.mem_of_getElem? hn)
      have n2 := hB n (List.mem_of_getElem? hn)
      obtain ⟨p0, p1⟩ := sk.at hn hp
      have lt : ((ps.zip ns).take i).length ≤ 4 := by
        rw [List.length_take, zip_len lp rfl]
        omega
      obtain ⟨o1, o2⟩ := ord_ok (zip_bound ok hB i) lt
      have ezs := take_more (zip_at hp hn)
      refine ⟨Ta, _, rfl, SqT.of upd_same, rfl, _, _, rfl, _, _, rfl, rfl, ?_⟩
      have g0 : (0 : Int) < gcdI p n := by
        have := gcd_pos2 (p := p) n1
        show (0 : Int) < ((Int.gcd p n : Nat) : Int)
        omega
      have gle : gcdI p n ≤ n := Int.le_of_dvd (by omega) (Int.gcd_dvd_right p n)
      refine ⟨_, rfl, _, rfl, _, rfl, p, n, rfl, p0, (by omega), _, _, rfl, rfl, wide_div g0 (abs45 (by omega) (by omega)) (by decide) (by decide), ?_⟩
      have q0 := per_pos (p := p) n1
      have q1 := per_le (p := p) (n := n)
      have q2 : perN p n < 2 ^ 150 := Nat.lt_of_le_of_lt q1 (abs45 (by omega) n2)
      dsimp only
      rw [per_int n1]
      have r0 : 0 < Nat.gcd (ordF ((ps.zip ns).take i)) (perN p n) := Nat.gcd_pos_of_pos_left _ o1
      have r1 : Nat.gcd (ordF ((ps.zip ns).take i)) (perN p n) ≤ perN p n := Nat.gcd_le_right _ q0
      refine ⟨_, rfl, _, rfl, _, rfl, _, _, rfl, Int.natCast_nonneg _, Int.natCast_nonneg _, _, _, rfl, rfl, wide_div (b := 150) ?_ ?_ (by decide) (by decide), _, rfl, _, _, rfl, rfl, (wide_mul (a := 600) (b := 150) ?_ ?_ (by decide) (by decide) (by decide)).ok, ?_⟩
      · show (0 : Int) < ((Nat.gcd (ordF ((ps.zip ns).take i)) (perN p n) : Nat) : Int)
        omega
      · show ((Nat.gcd (ordF ((ps.zip ns).take i)) (perN p n) : Nat) : Int).natAbs < 2 ^ 150
        rw [Int.natAbs_natCast]
        exact Nat.lt_of_le_of_lt r1 q2
      · show ((ordF ((ps.zip ns).take i) : Int) / ((Nat.gcd (ordF ((ps.zip ns).take i)) (perN p n) : Nat) : Int)).natAbs < 2 ^ 600
        rw [← Int.natCast_ediv, Int.natAbs_natCast]
        exact Nat.lt_of_le_of_lt (Nat.div_le_self _ _) o2
      · rw [Int.natAbs_natCast]
        exact q2
      · dsimp only
        rw [lcm_int]
        rw [ezs, ord_snoc]
        exact ⟨_, _, _, rfl, fun c o z => exn hT _ _ (e2 c o z)⟩
    · rintro σ H2 ⟨y1, y2, y3, rfl, e2⟩
      rw [zip_take_len lp rfl]
      exact ⟨_, rfl, k _ fun c o z => e2 c o (e1 c o z)⟩
end

/-- a list (false) or a tuple (true) of tuples of ints -/
def RowsQ (H : Hp) (q : Bool × Addr) (tss : List (List Int)) : Prop := ∃ xs, SqH H q xs ∧ RowsR H xs tss
theorem RowsQ.mono {H H2 : Hp} {q : Bool × Addr} {tss : List (List Int)} (e : Ex H H2) (h : RowsQ H q tss) : RowsQ H2 q tss := by
  obtain ⟨xs, h1, h2⟩ := h
  exact ⟨xs, h1.mono e, h2.mono e⟩
theorem RowsQ.dp {K : PySem.W.Frag} {H : Hp} {q : Bool × Addr} {tss : List (List Int)} (h : RowsQ H q tss) : Dp K H (.ref q.2) (.list (tss.map iT)) ∨ Dp K H (.ref q.2) (.tuple (tss.map iT)) := by
  obtain ⟨xs, h1, h2⟩ := h
  obtain ⟨b, a⟩ := q
  cases b
  · exact .inl (.lst (SqL.of (show H a = some (.lst xs) from h1)) h2.dp)
  · exact .inr (.tup (SqT.of (show H a = some (.tup xs) from h1)) h2.dp)
theorem any_rows (tss : List (List Int)) (ps : List Int) : ((tss.map iT).any fun z => PyData.eqv z (iT ps)) = decide (ps ∈ tss) := by
  rw [List.any_map, Bool.eq_iff_iff, List.any_eq_true, decide_eq_true_eq]
  constructor
  · rintro ⟨x, hx, h⟩
    have h2 : PyData.eqv (iT x) (iT ps) = true := h
    rw [eqv_ints] at h2
    rw [← of_decide_eq_true h2]
    exact hx
  · intro h
    refine ⟨ps, h, ?_⟩
    show PyData.eqv (iT ps) (iT ps) = true
    rw [eqv_ints]
    simp
abbrev kI (ps : List Int) : List Key := ps.map Sum.inl
theorem kI_map (ps : List Int) : (kI ps).map kV = ps.map V.int := by
  rw [List.map_map]
  rfl
theorem kI_inj {a b : List Int} (h : kI a = kI b) : a = b := by
  induction a generalizing b with
  | nil =>
    cases b with
    | nil => rfl
    | cons y ys => simp at h
  | cons x xs ih =>
    cases b with
    | nil => simp at h
    | cons y ys =>
      simp only [List.map_cons, List.cons.injEq, Sum.inl.injEq] at h
      rw [h.1, ih h.2]
theorem nodup_get {α : Type} {l : List α} (nod : l.Nodup) {i : Nat} {t : α} (ht : l[i]? = some t) : ¬ t ∈ l.take i := by
  intro hm
  obtain ⟨j, hj⟩ := List.getElem?_of_mem hm
  obtain ⟨jl, je⟩ := List.getElem?_eq_some_iff.mp hj
  rw [List.length_take] at jl
  rw [List.getElem_take] at je
  obtain ⟨il, ie⟩ := List.getElem?_eq_some_iff.mp ht
  exact absurd (je.trans ie.symm) (List.pairwise_iff_getElem.mp nod j i (by omega) il (by omega))
theorem put_len {κ : Type} [DecidableEq κ] {kvs : List (κ × V)} {k : κ} {v : V} (h : valV kvs k = none) : (putK kvs k v).length = kvs.length + 1 := by
  rw [putK_new v h, List.length_append]
  rfl
section
variable {P : Program} {w : World} {K : PySem.W.Frag} {mg : Str → Option Value} {base : Heap}
def sp_require_table (C : Addr) : Sp := fun vs H Q _ => ∃ (a : Addr) (ns : List Int), vs = [.ref a] ∧ TabAt C H a ns ∧ Q .non H
theorem ok_require_table (T : TX K mg) : FnOk P w K mg base CX0 5 T.f_require_table T.fd_require_table ["table"] (sp_require_table T.C_Table) := by
  refine T.F_require_table.ok sc_require_table (fun vs H Q E h => ?_) (fun cdv A outer s H vs Q E hr h => ?_)
  · obtain ⟨a, ns, rfl, _⟩ := h
    rfl
  · obtain ⟨a, ns, rfl, ⟨dx, t, h1, h2⟩, k⟩ := h
    refine ⟨_, (pss_one (ps_if (pt_not (pt_val (pe_callB call_isi (by rfl) T.z_isinstance (by decide +kernel) (pa_cons (pv 0) (pa_cons (pe_glob (v := .ref T.C_Table) rfl T.m_Table rfl) pa_nil))))) pss_never pss_nil)), ?_⟩
    exact ⟨_, rfl, _, _, _, _, true, rfl, .own _, .base (.ins h1 T.cl_Table T.ic_Table T.ig_ T.it_ T.im_Table), kit_self, _, rfl, itf rfl k⟩
end

open CD
/-! ### lattices of integer vectors -/
abbrev Vec := Nat → Int
inductive Lat (G : Vec → Prop) : Vec → Prop where
  | zero : Lat G (fun _ => 0)
  | step {v g : Vec} (k : Int) (h : Lat G v) (hg : G g) : Lat G (fun i => v i - k * g i)
theorem Lat.comb {G : Vec → Prop} {u v : Vec} (hu : Lat G u) (hv : Lat G v) : ∀ k : Int, Lat G (fun i => u i - k * v i) := by
  induction hv with
  | zero =>
    intro k
    have : (fun i => u i - k * 0) = u := by funext i; simp
    rw [this]
    exact hu
  | step j h hg ih =>
    intro k
    have := Lat.step (-(k * j)) (ih k) hg
    refine (congrArg (Lat G) (funext fun i => ?_)).mp this
    grind
theorem Lat.gen {G : Vec → Prop} {g : Vec} (h : G g) : Lat G g := by
  have := Lat.step (-1) (Lat.zero (G := G)) h
  refine (congrArg (Lat G) (funext fun i => ?_)).mp this
  grind
theorem Lat.of_eq {G : Vec → Prop} {u v : Vec} (h : Lat G u) (e : ∀ i, u i = v i) : Lat G v := (funext e : u = v) ▸ h
theorem Lat.add {G : Vec → Prop} {u v : Vec} (hu : Lat G u) (hv : Lat G v) : Lat G (fun i => u i + v i) := (hu.comb hv (-1)).of_eq fun i => by grind
theorem Lat.mul {G : Vec → Prop} {v : Vec} (hv : Lat G v) (k : Int) : Lat G (fun i => k * v i) := (Lat.zero.comb hv (-k)).of_eq fun i => by grind
theorem Lat.le {G G' : Vec → Prop} {v : Vec} (h : ∀ g, G g → Lat G' g) (hv : Lat G v) : Lat G' v := by
  induction hv with
  | zero => exact .zero
  | step k _ hg ih => exact ih.comb (h _ hg) k
/-- a list as a vector -/
def vf (v : List Int) : Vec := fun i => v.getD i 0
theorem vf_nil : vf [] = fun _ => 0 := by funext i; simp [vf]
theorem vf_ge {v : List Int} {i : Nat} (h : v.length ≤ i) : vf v i = 0 := by
  unfold vf
  rw [List.getD_eq_getElem?_getD, List.getElem?_eq_none h]
  rfl
theorem vf_at {v : List Int} {i : Nat} {x : Int} (h : v[i]? = some x) : vf v i = x := by
  unfold vf
  rw [List.getD_eq_getElem?_getD, h]
  rfl
def axpy (k : Int) (a b : List Int) : List Int := List.zipWith (fun x y => x - k * y) a b
theorem axpy_len {k : Int} {a b : List Int} (h : a.length = b.length) : (axpy k a b).length = b.length := by simp [axpy, h]
theorem axpy_vf {k : Int} {a b : List Int} (h : a.length = b.length) : vf (axpy k a b) = fun i => vf a i - k * vf b i := by
  funext i
  by_cases hi : i < a.length
  · have h1 : a[i]? = some a[i] := List.getElem?_eq_getElem hi
    have h2 : b[i]? = some (b[i]'(by omega)) := List.getElem?_eq_getElem (by omega)
    have h3 : (axpy k a b)[i]? = some (a[i] - k * b[i]'(by omega)) := by
      unfold axpy
      rw [List.getElem?_zipWith, h1, h2]
    rw [vf_at h1, vf_at h2, vf_at h3]
  · rw [vf_ge (v := a) (by omega), vf_ge (v := b) (by omega), vf_ge (by rw [axpy_len h]; omega)]
    grind
/-- what stays behind Euclid's step -/
theorem fmod_small {x y : Int} (h : y ≠ 0) : (x - x.fdiv y * y).natAbs < y.natAbs := by
  have e := Int.fmod_def x y
  have e2 : x - x.fdiv y * y = x.fmod y := by rw [e, Int.mul_comm]
  rw [e2]
  rw [Int.fmod_eq_emod]
  have a := Int.emod_nonneg x h
  have b := Int.emod_lt x h
  split
  · omega
  · rename_i hn
    have hd : ¬ y ∣ x := fun z => hn (.inr z)
    have hy : ¬ 0 ≤ y := fun z => hn (.inl z)
    have : x % y ≠ 0 := fun z => hd (Int.dvd_of_emod_eq_zero z)
    omega
/-- rows of Euclid, by a column -/
def combF (c : Nat) (f s : List Int) : List Int × List Int :=
  if h : vf s c = 0 then (f, s) else combF c s (axpy ((vf f c).fdiv (vf s c)) f s)
termination_by (vf s c).natAbs
decreasing_by
  by_cases hf : c < f.length
  · have hs : c < s.length := by
      rcases Nat.lt_or_ge c s.length with z | z
      · exact z
      · exact absurd (vf_ge z) h
    have h3 : (axpy ((vf f c).fdiv (vf s c)) f s)[c]? = some (f[c] - (vf f c).fdiv (vf s c) * s[c]) := by
      unfold axpy
      rw [List.getElem?_zipWith, List.getElem?_eq_getElem hf, List.getElem?_eq_getElem hs]
    rw [vf_at h3, ← vf_at (List.getElem?_eq_getElem hf), ← vf_at (List.getElem?_eq_getElem hs)]
    exact fmod_small h
  · rw [vf_ge (v := axpy _ f s) (by unfold axpy; rw [List.length_zipWith]; omega)]
    omega
theorem combF_eq (c : Nat) (f s : List Int) : combF c f s = if vf s c = 0 then (f, s) else combF c s (axpy ((vf f c).fdiv (vf s c)) f s) := by
  rw [combF]
  split <;> rfl
/-- by induction on Euclid's steps -/
theorem comb_ind {c : Nat} {P : List Int → List Int → Prop} {n : Nat} (h : ∀ f s, f.length = n → s.length = n → vf s c ≠ 0 → P f s → P s (axpy ((vf f c).fdiv (vf s c)) f s)) :
    ∀ (m : Nat) (f s : List Int), (vf s c).natAbs ≤ m → f.length = n → s.length = n → P f s → P (combF c f s).1 (combF c f s).2 ∧ (combF c f s).1.length = n ∧ (combF c f s).2.length = n ∧ vf (combF c f s).2 c = 0
  | m, f, s, hm, lf, ls, hp => by
    rw [combF_eq]
    by_cases z : vf s c = 0
    · rw [if_pos z]
      exact ⟨hp, lf, ls, z⟩
    · rw [if_neg z]
      have la : (axpy ((vf f c).fdiv (vf s c)) f s).length = n := by rw [axpy_len (by omega), ls]
      have lt : (vf (axpy ((vf f c).fdiv (vf s c)) f s) c).natAbs < (vf s c).natAbs := by
        rw [axpy_vf (by omega)]
        exact fmod_small z
      cases m with
      | zero => omega
      | succ m => exact comb_ind h m s _ (by omega) ls la (h f s lf ls z hp)
/-- generators: two rows and others -/
def two (R : Vec → Prop) (f s : List Int) : Vec → Prop := fun g => g = vf f ∨ g = vf s ∨ R g
theorem comb_lat {c n : Nat} {f s : List Int} (lf : f.length = n) (ls : s.length = n) (R : Vec → Prop) (v : Vec) : Lat (two R f s) v ↔ Lat (two R (combF c f s).1 (combF c f s).2) v := by
  have := comb_ind (c := c) (n := n) (P := fun a b => ∀ v, Lat (two R f s) v ↔ Lat (two R a b) v) (fun a b la lb nz ih v => (ih v).trans ?_) _ f s (Nat.le_refl _) lf ls fun v => Iff.rfl
  · exact this.1 v
  constructor
  · refine Lat.le fun g hg => ?_
    rcases hg with rfl | rfl | hg
    · have h1 : Lat (two R b (axpy ((vf a c).fdiv (vf b c)) a b)) (vf (axpy ((vf a c).fdiv (vf b c)) a b)) := Lat.gen (.inr (.inl rfl))
      rw [axpy_vf (by omega)] at h1
      have h2 : Lat (two R b (axpy ((vf a c).fdiv (vf b c)) a b)) (vf b) := Lat.gen (.inl rfl)
      exact (h1.comb h2 (-((vf a c).fdiv (vf b c)))).of_eq fun i => by grind
    · exact Lat.gen (.inl rfl)
    · exact Lat.gen (.inr (.inr hg))
  · refine Lat.le fun g hg => ?_
    rcases hg with rfl | rfl | hg
    · exact Lat.gen (.inr (.inl rfl))
    · rw [axpy_vf (by omega)]
      exact (Lat.gen (G := two R a b) (.inl rfl)).comb (Lat.gen (.inr (.inl rfl))) _
    · exact Lat.gen (.inr (.inr hg))
theorem comb_zero {c n j : Nat} {f s : List Int} (lf : f.length = n) (ls : s.length = n) (h1 : vf f j = 0) (h2 : vf s j = 0) : vf (combF c f s).1 j = 0 ∧ vf (combF c f s).2 j = 0 :=
  (comb_ind (c := c) (n := n) (P := fun a b => vf a j = 0 ∧ vf b j = 0) (fun a b la lb nz ih => ⟨ih.2, by rw [axpy_vf (by omega)]; simp [ih.1, ih.2]⟩) _ f s (Nat.le_refl _) lf ls ⟨h1, h2⟩).1
theorem comb_nz {c n : Nat} {f s : List Int} (lf : f.length = n) (ls : s.length = n) (h1 : vf f c ≠ 0) : vf (combF c f s).1 c ≠ 0 :=
  (comb_ind (c := c) (n := n) (P := fun a b => vf a c ≠ 0) (fun a b la lb nz ih => nz) _ f s (Nat.le_refl _) lf ls h1).1
theorem comb_len {c n : Nat} {f s : List Int} (lf : f.length = n) (ls : s.length = n) : (combF c f s).1.length = n ∧ (combF c f s).2.length = n ∧ vf (combF c f s).2 c = 0 :=
  (comb_ind (c := c) (n := n) (P := fun _ _ => True) (fun _ _ _ _ _ _ => True.intro) _ f s (Nat.le_refl _) lf ls True.intro).2

/-! ### a triangular basis -/
def unitV (j : Nat) (x : Int) : Vec := fun i => if i = j then x else 0
def redF (c : Nat) (odds row : List Int) : List Int := row.take (c + 1) ++ List.zipWith (fun x y => x % y) (row.drop (c + 1)) (odds.drop (c + 1))
theorem red_len {c n : Nat} {odds row : List Int} (h1 : odds.length = n) (h2 : row.length = n) : (redF c odds row).length = n := by
  unfold redF
  rw [List.length_append, List.length_take, List.length_zipWith, List.length_drop, List.length_drop]
  omega
theorem red_vf {c n : Nat} {odds row : List Int} (h1 : odds.length = n) (h2 : row.length = n) (i : Nat) : vf (redF c odds row) i = if c < i ∧ i < n then vf row i % vf odds i else vf row i := by
  by_cases hn : i < n
  · by_cases hc : c < i
    · rw [if_pos ⟨hc, hn⟩]
      have e1 : row[i]? = some (row[i]'(by omega)) := List.getElem?_eq_getElem (by omega)
      have e2 : odds[i]? = some (odds[i]'(by omega)) := List.getElem?_eq_getElem (by omega)
      rw [vf_at e1, vf_at e2]
      refine vf_at ?_
      unfold redF
      rw [List.getElem?_append_right (by rw [List.length_take]; omega), List.getElem?_zipWith, List.length_take, List.getElem?_drop, List.getElem?_drop]
      have e3 : c + 1 + (i - min (c + 1) row.length) = i := by omega
      rw [e3, e1, e2]
    · rw [if_neg (fun z => hc z.1)]
      have e1 : row[i]? = some (row[i]'(by omega)) := List.getElem?_eq_getElem (by omega)
      rw [vf_at e1]
      refine vf_at ?_
      unfold redF
      rw [List.getElem?_append_left (by rw [List.length_take]; omega), List.getElem?_take, if_pos (by omega), e1]
  · rw [if_neg (fun z => hn z.2), vf_ge (by rw [red_len h1 h2]; omega), vf_ge (by omega)]
/-- multiples of units -/
theorem units_lat {G : Vec → Prop} {c n : Nat} {o k : Nat → Int} (h : ∀ j, c < j → j < n → G (unitV j (o j))) : ∀ m, m ≤ n → Lat G (fun i => if c < i ∧ i < m then k i * o i else 0)
  | 0, _ => Lat.zero.of_eq fun i => by simp
  | m + 1, hm => by
    have ih := units_lat (k := k) h m (by omega)
    by_cases hc : c < m
    · refine (ih.comb (Lat.gen (h m hc (by omega))) (-(k m))).of_eq fun i => ?_
      unfold unitV
      by_cases hi : i = m
      · subst hi
        rw [if_neg (by omega), if_pos rfl, if_pos (by omega)]
        grind
      · rw [if_neg hi]
        by_cases hj : c < i ∧ i < m
        · rw [if_pos hj, if_pos (by omega)]
          grind
        · rw [if_neg hj, if_neg (by omega)]
          grind
    · refine ih.of_eq fun i => ?_
      by_cases hj : c < i ∧ i < m
      · omega
      · rw [if_neg hj, if_neg (by omega)]
/-- a row and the reduced one: alike beside the units -/
theorem red_lat {G : Vec → Prop} {c n : Nat} {odds row : List Int} (h1 : odds.length = n) (h2 : row.length = n) (h : ∀ j, c < j → j < n → G (unitV j (vf odds j))) : Lat G (fun i => vf row i - vf (redF c odds row) i) := by
  refine (units_lat (k := fun i => vf row i / vf odds i) h n (Nat.le_refl _)).of_eq fun i => ?_
  rw [red_vf h1 h2]
  by_cases hi : c < i ∧ i < n
  · rw [if_pos hi, if_pos hi]
    have := Int.mul_ediv_add_emod (vf row i) (vf odds i)
    grind
  · rw [if_neg hi, if_neg hi]
    grind
/-- one row more in a column -/
def pivF (c : Nat) (odds : List Int) (st : List Int × List (List Int)) (row : List Int) : List Int × List (List Int) :=
  (redF c odds (combF c st.1 row).1, st.2 ++ [redF c odds (combF c st.1 row).2])
def unitL (n c : Nat) (x : Int) : List Int := (List.range n).map fun i => if i = c then x else 0
theorem unitL_vf {n c : Nat} {x : Int} (h : c < n) : vf (unitL n c x) = unitV c x := by
  funext i
  unfold unitV unitL
  by_cases hi : i < n
  · refine vf_at ?_
    rw [List.getElem?_map, List.getElem?_range hi]
    rfl
  · rw [vf_ge (by simp; omega), if_neg (by omega)]
def colF (odds : List Int) (c : Nat) (rows : List (List Int)) : List Int × List (List Int) := rows.foldl (pivF c odds) (unitL odds.length c (vf odds c), [])
/-- generators: rows done, a pivot, rows, units behind c -/
def gens (B : Vec → Prop) (p : List Int) (rows : List (List Int)) (c n : Nat) (odds : List Int) : Vec → Prop := fun g => B g ∨ g = vf p ∨ (∃ r ∈ rows, g = vf r) ∨ ∃ j, c < j ∧ j < n ∧ g = unitV j (vf odds j)
theorem lat_same {G G' : Vec → Prop} (h : ∀ g, G g → Lat G' g) (h' : ∀ g, G' g → Lat G g) (v : Vec) : Lat G v ↔ Lat G' v := ⟨Lat.le h, Lat.le h'⟩
/-- a row replaced by one that differs by the lattice of the others -/
theorem lat_swap {R : Vec → Prop} {a b : Vec} (h : Lat R (fun i => a i - b i)) (v : Vec) : Lat (fun g => g = a ∨ R g) v ↔ Lat (fun g => g = b ∨ R g) v := by
  have up : ∀ {c : Vec} {g : Vec}, Lat R g → Lat (fun g => g = c ∨ R g) g := fun z => Lat.le (fun g hg => Lat.gen (.inr hg)) z
  refine lat_same (fun g hg => ?_) (fun g hg => ?_) v
  · rcases hg with rfl | hg
    · exact ((up h).add (Lat.gen (G := fun g => g = b ∨ R g) (.inl rfl))).of_eq fun i => by grind
    · exact Lat.gen (.inr hg)
  · rcases hg with rfl | hg
    · exact ((Lat.gen (G := fun g => g = a ∨ R g) (.inl rfl)).comb (up h) 1).of_eq fun i => by grind
    · exact Lat.gen (.inr hg)
theorem lat_congr {G G' : Vec → Prop} (h : ∀ g, G g ↔ G' g) (v : Vec) : Lat G v ↔ Lat G' v := lat_same (fun g hg => Lat.gen ((h g).mp hg)) (fun g hg => Lat.gen ((h g).mpr hg)) v
theorem piv_lat {B : Vec → Prop} {c n : Nat} {odds : List Int} (h1 : odds.length = n) {p row : List Int} {os rest : List (List Int)} (lp : p.length = n) (lr : row.length = n) (v : Vec) :
    Lat (gens B p (os ++ row :: rest) c n odds) v ↔ Lat (gens B (redF c odds (combF c p row).1) (os ++ [redF c odds (combF c p row).2] ++ rest) c n odds) v := by
  obtain ⟨l1, l2, _⟩ := comb_len (c := c) lp lr
  let R : Vec → Prop := fun g => B g ∨ (∃ r ∈ os ++ rest, g = vf r) ∨ ∃ j, c < j ∧ j < n ∧ g = unitV j (vf odds j)
  have hR : ∀ j, c < j → j < n → R (unitV j (vf odds j)) := fun j a b => .inr (.inr ⟨j, a, b, rfl⟩)
  have s1 : Lat (gens B p (os ++ row :: rest) c n odds) v ↔ Lat (two R p row) v := by
    refine lat_congr (fun g => ?_) v
    unfold gens two
    simp only [R, List.mem_append, List.mem_cons]
    constructor
    · rintro (h | h | ⟨r, (h | h | h), rfl⟩ | h)
      · exact .inr (.inr (.inl h))
      · exact .inl h
      · exact .inr (.inr (.inr (.inl ⟨r, .inl h, rfl⟩)))
      · subst h; exact .inr (.inl rfl)
      · exact .inr (.inr (.inr (.inl ⟨r, .inr h, rfl⟩)))
      · exact .inr (.inr (.inr (.inr h)))
    · rintro (h | h | h | ⟨r, (h | h), rfl⟩ | h)
      · exact .inr (.inl h)
      · exact .inr (.inr (.inl ⟨row, .inr (.inl rfl), h⟩))
      · exact .inl h
      · exact .inr (.inr (.inl ⟨r, .inl h, rfl⟩))
      · exact .inr (.inr (.inl ⟨r, .inr (.inr h), rfl⟩))
      · exact .inr (.inr (.inr h))
  have s2 := comb_lat (c := c) lp lr R v
  have s3 : Lat (two R (combF c p row).1 (combF c p row).2) v ↔ Lat (two R (redF c odds (combF c p row).1) (combF c p row).2) v :=
    lat_swap (R := fun g => g = vf (combF c p row).2 ∨ R g) (red_lat h1 l1 fun j a b => .inr (hR j a b)) v
  have s4 : Lat (two R (redF c odds (combF c p row).1) (combF c p row).2) v ↔ Lat (fun g => g = vf (redF c odds (combF c p row).2) ∨ g = vf (redF c odds (combF c p row).1) ∨ R g) v := by
    refine (lat_congr (G' := fun g => g = vf (combF c p row).2 ∨ g = vf (redF c odds (combF c p row).1) ∨ R g) (fun g => ?_) v).trans (lat_swap (R := fun g => g = vf (redF c odds (combF c p row).1) ∨ R g) (red_lat h1 l2 fun j a b => .inr (hR j a b)) v)
    unfold two
    constructor
    · rintro (h | h | h)
      · exact .inr (.inl h)
      · exact .inl h
      · exact .inr (.inr h)
    · rintro (h | h | h)
      · exact .inr (.inl h)
      · exact .inl h
      · exact .inr (.inr h)
  refine s1.trans (s2.trans (s3.trans (s4.trans (lat_congr (fun g => ?_) v))))
  unfold gens
  simp only [R, List.mem_append, List.mem_singleton]
  constructor
  · rintro (h | h | h | ⟨r, (h | h), rfl⟩ | h)
    · exact .inr (.inr (.inl ⟨_, .inl (.inr rfl), h⟩))
    · exact .inr (.inl h)
    · exact .inl h
    · exact .inr (.inr (.inl ⟨r, .inl (.inl h), rfl⟩))
    · exact .inr (.inr (.inl ⟨r, .inr h, rfl⟩))
    · exact .inr (.inr (.inr h))
  · rintro (h | h | ⟨r, ((h | h) | h), rfl⟩ | h)
    · exact .inr (.inr (.inl h))
    · exact .inr (.inl h)
    · exact .inr (.inr (.inr (.inl ⟨r, .inl h, rfl⟩)))
    · subst h; exact .inl rfl
    · exact .inr (.inr (.inr (.inl ⟨r, .inr h, rfl⟩)))
    · exact .inr (.inr (.inr (.inr h)))
/-- what a column leaves -/
theorem col_fold {B : Vec → Prop} {c n : Nat} {odds : List Int} (h1 : odds.length = n) (hc : c < n) (L : Vec → Prop) : ∀ (rows : List (List Int)) (p : List Int) (os : List (List Int)),
    (∀ r ∈ rows, r.length = n ∧ ∀ j, j < c → vf r j = 0) → p.length = n → (∀ j, j < c → vf p j = 0) → vf p c ≠ 0 → (∀ r ∈ os, r.length = n ∧ ∀ j, j ≤ c → vf r j = 0) → (∀ v, Lat (gens B p (os ++ rows) c n odds) v ↔ L v) →
    let q := rows.foldl (pivF c odds) (p, os)
    q.1.length = n ∧ (∀ j, j < c → vf q.1 j = 0) ∧ vf q.1 c ≠ 0 ∧ (∀ r ∈ q.2, r.length = n ∧ ∀ j, j ≤ c → vf r j = 0) ∧ (∀ v, Lat (gens B q.1 q.2 c n odds) v ↔ L v)
  | [], p, os, _, lp, zp, nz, zo, hl => ⟨lp, zp, nz, zo, fun v => by have := hl v; rwa [List.append_nil] at this⟩
  | row :: rows, p, os, hr, lp, zp, nz, zo, hl => by
    obtain ⟨lr, zr⟩ := hr row List.mem_cons_self
    obtain ⟨l1, l2, z2⟩ := comb_len (c := c) lp lr
    refine col_fold h1 hc L rows (redF c odds (combF c p row).1) (os ++ [redF c odds (combF c p row).2]) (fun r h => hr r (List.mem_cons_of_mem _ h)) (red_len h1 l1) (fun j hj => ?_) ?_ (fun r h => ?_) (fun v => (piv_lat h1 lp lr v).symm.trans (hl v))
    · rw [red_vf h1 l1, if_neg (by omega)]
      exact (comb_zero lp lr (zp j hj) (zr j hj)).1
    · rw [red_vf h1 l1, if_neg (by omega)]
      exact comb_nz lp lr nz
    · rcases List.mem_append.mp h with h | h
      · exact zo r h
      · rw [List.mem_singleton.mp h]
        refine ⟨red_len h1 l2, fun j hj => ?_⟩
        rw [red_vf h1 l2, if_neg (by omega)]
        by_cases e : j = c
        · rw [e]; exact z2
        · exact (comb_zero lp lr (zp j (by omega)) (zr j (by omega))).2

/-- the pivot with a positive entry -/
def posF (c : Nat) (p : List Int) : List Int := if 0 < vf p c then p else p.map fun x => -x
theorem neg_vf (p : List Int) : vf (p.map fun x => -x) = fun i => - vf p i := by
  funext i
  by_cases hi : i < p.length
  · have e : p[i]? = some p[i] := List.getElem?_eq_getElem hi
    rw [vf_at e]
    exact vf_at (by rw [List.getElem?_map, e]; rfl)
  · rw [vf_ge (by simp; omega), vf_ge (by omega)]
    rfl
theorem pos_len (c : Nat) (p : List Int) : (posF c p).length = p.length := by
  unfold posF
  split <;> simp
theorem pos_pos {c : Nat} {p : List Int} (h : vf p c ≠ 0) : 0 < vf (posF c p) c := by
  unfold posF
  split
  · assumption
  · rw [neg_vf]
    show 0 < - vf p c
    omega
theorem pos_zero {c j : Nat} {p : List Int} (h : vf p j = 0) : vf (posF c p) j = 0 := by
  unfold posF
  split
  · exact h
  · rw [neg_vf]
    show - vf p j = 0
    omega
theorem pos_lat {R : Vec → Prop} (c : Nat) (p : List Int) (v : Vec) : Lat (fun g => g = vf p ∨ R g) v ↔ Lat (fun g => g = vf (posF c p) ∨ R g) v := by
  unfold posF
  split
  · exact Iff.rfl
  · rw [neg_vf]
    refine lat_same (fun g hg => ?_) (fun g hg => ?_) v
    · rcases hg with rfl | hg
      · exact ((Lat.gen (G := fun g => g = (fun i => - vf p i) ∨ R g) (.inl rfl)).mul (-1)).of_eq fun i => by grind
      · exact Lat.gen (.inr hg)
    · rcases hg with rfl | hg
      · exact ((Lat.gen (G := fun g => g = vf p ∨ R g) (.inl rfl)).mul (-1)).of_eq fun i => by grind
      · exact Lat.gen (.inr hg)
/-- one column more -/
def nextF (odds : List Int) (st : List (List Int) × List (List Int)) (c : Nat) : List (List Int) × List (List Int) := (st.1 ++ [posF c (colF odds c st.2).1], (colF odds c st.2).2)
def basisF (odds : List Int) (rows : List (List Int)) : List (List Int) := ((List.range odds.length).foldl (nextF odds) ([], rows)).1
/-- the i-th row begins at i, with a positive entry -/
def Tri (n : Nat) (B : List (List Int)) : Prop := ∀ i (r : List Int), B[i]? = some r → r.length = n ∧ (∀ j, j < i → vf r j = 0) ∧ 0 < vf r i
def rowsG (B : List (List Int)) : Vec → Prop := fun g => ∃ r ∈ B, g = vf r
/-- free shifts: of rows and units -/
def shG (rows : List (List Int)) (c n : Nat) (odds : List Int) : Vec → Prop := fun g => (∃ r ∈ rows, g = vf r) ∨ ∃ j, c ≤ j ∧ j < n ∧ g = unitV j (vf odds j)
theorem next_inv {n : Nat} {odds : List Int} (h1 : odds.length = n) (ho : ∀ i, i < n → vf odds i ≠ 0) (L : Vec → Prop) {c : Nat} (hc : c < n) {B rows : List (List Int)} (lB : B.length = c) (tri : Tri n B) (hr : ∀ r ∈ rows, r.length = n ∧ ∀ j, j < c → vf r j = 0)
    (hl : ∀ v, Lat (fun g => rowsG B g ∨ shG rows c n odds g) v ↔ L v) :
    let q := nextF odds (B, rows) c
    q.1.length = c + 1 ∧ Tri n q.1 ∧ (∀ r ∈ q.2, r.length = n ∧ ∀ j, j < c + 1 → vf r j = 0) ∧ (∀ v, Lat (fun g => rowsG q.1 g ∨ shG q.2 (c + 1) n odds g) v ↔ L v) := by
  have lu : (unitL odds.length c (vf odds c)).length = n := by simp [unitL, h1]
  have uv : vf (unitL odds.length c (vf odds c)) = unitV c (vf odds c) := unitL_vf (by omega)
  have key := col_fold (B := rowsG B) h1 hc L rows (unitL odds.length c (vf odds c)) [] hr lu (fun j hj => by rw [uv]; unfold unitV; rw [if_neg (by omega)]) (by rw [uv]; unfold unitV; rw [if_pos rfl]; exact ho c hc) (by simp) (fun v => by
    refine (lat_congr (fun g => ?_) v).trans (hl v)
    unfold gens shG
    rw [uv, List.nil_append]
    constructor
    · rintro (h | h | h | ⟨j, a, b, rfl⟩)
      · exact .inl h
      · exact .inr (.inr ⟨c, Nat.le_refl _, hc, h⟩)
      · exact .inr (.inl h)
      · exact .inr (.inr ⟨j, by omega, b, rfl⟩)
    · rintro (h | h | ⟨j, a, b, rfl⟩)
      · exact .inl h
      · exact .inr (.inr (.inl h))
      · by_cases e : j = c
        · subst e; exact .inr (.inl rfl)
        · exact .inr (.inr (.inr ⟨j, by omega, b, rfl⟩)))
  obtain ⟨k1, k2, k3, k4, k5⟩ := key
  show (B ++ [posF c (colF odds c rows).1]).length = c + 1 ∧ Tri n (B ++ [posF c (colF odds c rows).1]) ∧ (∀ r ∈ (colF odds c rows).2, r.length = n ∧ ∀ j, j < c + 1 → vf r j = 0) ∧ (∀ v, Lat (fun g => rowsG (B ++ [posF c (colF odds c rows).1]) g ∨ shG (colF odds c rows).2 (c + 1) n odds g) v ↔ L v)
  refine ⟨by rw [List.length_append, lB]; rfl, fun i r hi => ?_, fun r hr => ⟨(k4 r hr).1, fun j hj => (k4 r hr).2 j (by omega)⟩, fun v => ?_⟩
  · by_cases hlt : i < c
    · rw [List.getElem?_append_left (by omega)] at hi
      exact tri i r hi
    · rw [List.getElem?_append_right (by omega), lB] at hi
      have : i - c = 0 := by
        rcases Nat.eq_zero_or_pos (i - c) with z | z
        · exact z
        · rw [List.getElem?_eq_none (by simp; omega)] at hi
          cases hi
      rw [this] at hi
      obtain rfl : posF c (colF odds c rows).1 = r := by simpa using hi
      have : i = c := by omega
      subst this
      exact ⟨by rw [pos_len]; exact k1, fun j hj => pos_zero (k2 j hj), pos_pos k3⟩
  · refine Iff.trans ?_ (k5 v)
    refine Iff.trans (lat_congr (G' := fun g => g = vf (posF c (colF odds c rows).1) ∨ (rowsG B g ∨ shG (colF odds c rows).2 (c + 1) n odds g)) (fun g => ?_) v) ((pos_lat c _ v).symm.trans (lat_congr (fun g => ?_) v))
    · unfold rowsG
      simp only [List.mem_append, List.mem_singleton]
      constructor
      · rintro (⟨r, (h | h), rfl⟩ | h)
        · exact .inr (.inl ⟨r, h, rfl⟩)
        · subst h; exact .inl rfl
        · exact .inr (.inr h)
      · rintro (h | ⟨r, h, rfl⟩ | h)
        · exact .inl ⟨_, .inr rfl, h⟩
        · exact .inl ⟨r, .inl h, rfl⟩
        · exact .inr h
    · unfold gens shG colF
      constructor
      · rintro (h | h | h | ⟨j, a, b, rfl⟩)
        · exact .inr (.inl h)
        · exact .inl h
        · exact .inr (.inr (.inl h))
        · exact .inr (.inr (.inr ⟨j, by omega, b, rfl⟩))
      · rintro (h | h | h | ⟨j, a, b, rfl⟩)
        · exact .inr (.inl h)
        · exact .inl h
        · exact .inr (.inr (.inl h))
        · exact .inr (.inr (.inr ⟨j, by omega, b, rfl⟩))
theorem fold_inv {n : Nat} {odds : List Int} (h1 : odds.length = n) (ho : ∀ i, i < n → vf odds i ≠ 0) {rows : List (List Int)} (hr : ∀ r ∈ rows, r.length = n) : ∀ c, c ≤ n →
    let q := (List.range c).foldl (nextF odds) ([], rows)
    q.1.length = c ∧ Tri n q.1 ∧ (∀ r ∈ q.2, r.length = n ∧ ∀ j, j < c → vf r j = 0) ∧ (∀ v, Lat (fun g => rowsG q.1 g ∨ shG q.2 c n odds g) v ↔ Lat (shG rows 0 n odds) v)
  | 0, _ => ⟨rfl, fun i r h => by simp at h, fun r h => ⟨hr r h, fun j hj => absurd hj (by omega)⟩, fun v => lat_congr (fun g => ⟨fun h => h.elim (fun ⟨r, z, _⟩ => nomatch z) id, .inr⟩) v⟩
  | c + 1, hc => by
    obtain ⟨a1, a2, a3, a4⟩ := fold_inv h1 ho hr c (by omega)
    rw [List.range_succ, List.foldl_append]
    exact next_inv h1 ho _ (by omega) a1 a2 a3 a4
/-- the basis: triangular, and of the same lattice -/
theorem basis_ok {n : Nat} {odds : List Int} (h1 : odds.length = n) (ho : ∀ i, i < n → vf odds i ≠ 0) {rows : List (List Int)} (hr : ∀ r ∈ rows, r.length = n) :
    (basisF odds rows).length = n ∧ Tri n (basisF odds rows) ∧ ∀ v, Lat (rowsG (basisF odds rows)) v ↔ Lat (shG rows 0 n odds) v := by
  obtain ⟨a1, a2, a3, a4⟩ := fold_inv h1 ho hr n (Nat.le_refl _)
  unfold basisF
  rw [h1]
  refine ⟨a1, a2, fun v => Iff.trans ?_ (a4 v)⟩
  refine lat_same (fun g hg => Lat.gen (.inl hg)) (fun g hg => ?_) v
  rcases hg with hg | ⟨r, hr2, rfl⟩ | ⟨j, b, c, _⟩
  · exact Lat.gen hg
  · refine Lat.zero.of_eq fun i => ?_
    by_cases hi : i < n
    · exact ((a3 r hr2).2 i hi).symm
    · exact (vf_ge (by rw [(a3 r hr2).1]; omega)).symm
  · omega
/-! ### what a triangular basis tells -/
/-- rows from i on -/
theorem tri_step {n i : Nat} {B : List (List Int)} {b : List Int} (tri : Tri n B) (hb : B[i]? = some b) {v : Vec} (h : Lat (rowsG (B.drop i)) v) : vf b i ∣ v i ∧ Lat (rowsG (B.drop (i + 1))) (fun j => v j - v i / vf b i * vf b j) := by
  obtain ⟨lb, zb, pb⟩ := tri i b hb
  have hd : B.drop i = b :: B.drop (i + 1) := by
    obtain ⟨hi, e⟩ := List.getElem?_eq_some_iff.mp hb
    rw [List.drop_eq_getElem_cons hi, e]
  rw [hd] at h
  induction h with
  | zero => exact ⟨Int.dvd_zero _, Lat.zero.of_eq fun j => by simp⟩
  | @step u g k hu hg ih =>
    obtain ⟨ih1, ih2⟩ := ih
    obtain ⟨r, hr, rfl⟩ := hg
    rcases List.mem_cons.mp hr with rfl | hr
    · refine ⟨Int.dvd_sub ih1 (Int.dvd_mul_left _ _), ih2.of_eq fun j => ?_⟩
      have e : (u i - k * vf r i) / vf r i = u i / vf r i - k := by
        rw [Int.sub_ediv_of_dvd _ (Int.dvd_mul_left _ _), Int.mul_ediv_cancel _ (by omega)]
      rw [e]
      grind
    · obtain ⟨m, hm⟩ := List.getElem?_of_mem hr
      rw [List.getElem?_drop] at hm
      have z := (tri _ r hm).2.1 i (by omega)
      dsimp only
      rw [z]
      refine ⟨by simpa using ih1, (ih2.comb (Lat.gen ⟨r, hr, rfl⟩) k).of_eq fun j => ?_⟩
      have e : u i - k * 0 = u i := by simp
      rw [e]
      grind
/-- a vector of the lattice that begins at i -/
theorem tri_from {n : Nat} {B : List (List Int)} (tri : Tri n B) {v : Vec} (h : Lat (rowsG B) v) : ∀ i, i ≤ B.length → (∀ j, j < i → v j = 0) → Lat (rowsG (B.drop i)) v
  | 0, _, _ => by rwa [List.drop_zero]
  | i + 1, hi, hz => by
    have hb : B[i]? = some (B[i]'(by omega)) := List.getElem?_eq_getElem (by omega)
    obtain ⟨_, g⟩ := tri_step tri hb (tri_from tri h i (by omega) fun j hj => hz j (by omega))
    refine g.of_eq fun j => ?_
    rw [hz i (by omega)]
    simp
theorem lat_drop {B : List (List Int)} {i : Nat} {v : Vec} (h : Lat (rowsG (B.drop i)) v) : Lat (rowsG B) v := h.le fun g ⟨r, hr, e⟩ => Lat.gen ⟨r, List.mem_of_mem_drop hr, e⟩
/-- is_free, from i on -/
def freeF : Nat → List (List Int) → List Int → Bool
  | _, [], _ => true
  | i, b :: B, v => if vf v i % vf b i ≠ 0 then false else freeF (i + 1) B (axpy (vf v i / vf b i) v b)
theorem free_ok {n : Nat} {B : List (List Int)} (lB : B.length = n) (tri : Tri n B) : ∀ (k i : Nat) (v : List Int), i + k = n → v.length = n → (∀ j, j < i → vf v j = 0) → (freeF i (B.drop i) v = true ↔ Lat (rowsG (B.drop i)) (vf v))
  | 0, i, v, hk, lv, hz => by
    have : B.drop i = [] := List.drop_eq_nil_of_le (by omega)
    rw [this]
    refine ⟨fun _ => Lat.zero.of_eq fun j => ?_, fun _ => rfl⟩
    by_cases hj : j < i
    · exact (hz j hj).symm
    · exact (vf_ge (by omega)).symm
  | k + 1, i, v, hk, lv, hz => by
    have hb : B[i]? = some (B[i]'(by omega)) := List.getElem?_eq_getElem (by omega)
    have hd : B.drop i = B[i]'(by omega) :: B.drop (i + 1) := List.drop_eq_getElem_cons (by omega)
    generalize B[i]'(by omega) = b at hb hd
    obtain ⟨l1, z1, p1⟩ := tri i b hb
    have la : (axpy (vf v i / vf b i) v b).length = n := by rw [axpy_len (by omega), l1]
    have va := axpy_vf (k := vf v i / vf b i) (a := v) (b := b) (by omega)
    constructor
    · intro h
      rw [hd] at h
      unfold freeF at h
      by_cases hm : vf v i % vf b i ≠ 0
      · rw [if_pos hm] at h
        cases h
      · rw [if_neg hm] at h
        have hm2 : vf v i % vf b i = 0 := Decidable.byContradiction hm
        have ih := (free_ok lB tri k (i + 1) _ (by omega) la (fun j hj => by
          rw [va]
          by_cases e : j = i
          · subst e
            show vf v j - vf v j / vf b j * vf b j = 0
            have := Int.mul_ediv_add_emod (vf v j) (vf b j)
            grind
          · show vf v j - vf v i / vf b i * vf b j = 0
            rw [hz j (by omega), z1 j (by omega)]
            simp)).mp h
        rw [va] at ih
        rw [hd]
        refine ((ih.le fun g ⟨r, hr, e⟩ => Lat.gen ⟨r, List.mem_cons_of_mem _ hr, e⟩).comb (Lat.gen (G := rowsG (b :: B.drop (i + 1))) ⟨b, List.mem_cons_self, rfl⟩) (-(vf v i / vf b i))).of_eq fun j => ?_
        grind
    · intro h
      obtain ⟨d1, d2⟩ := tri_step tri hb h
      have hm2 : vf v i % vf b i = 0 := Int.emod_eq_zero_of_dvd d1
      rw [hd]
      unfold freeF
      rw [if_neg (by simpa using hm2)]
      refine (free_ok lB tri k (i + 1) _ (by omega) la (fun j hj => ?_)).mpr ?_
      · rw [va]
        by_cases e : j = i
        · subst e
          show vf v j - vf v j / vf b j * vf b j = 0
          have := Int.mul_ediv_add_emod (vf v j) (vf b j)
          grind
        · show vf v j - vf v i / vf b i * vf b j = 0
          rw [hz j (by omega), z1 j (by omega)]
          simp
      · rw [va]
        exact d2
theorem free_iff {n : Nat} {B : List (List Int)} (lB : B.length = n) (tri : Tri n B) {v : List Int} (lv : v.length = n) : freeF 0 B v = true ↔ Lat (rowsG B) (vf v) := by
  have := free_ok lB tri n 0 v (by omega) lv (fun j hj => absurd hj (by omega))
  rwa [List.drop_zero] at this

/-! ### two lattices, one in the other -/
def diagP : Nat → List (List Int) → Int
  | _, [] => 1
  | i, b :: B => vf b i * diagP (i + 1) B
theorem diag_pos {n : Nat} {B : List (List Int)} (tri : Tri n B) : ∀ (k i : Nat), i + k = B.length → 0 < diagP i (B.drop i)
  | 0, i, h => by
    rw [List.drop_eq_nil_of_le (by omega)]
    exact Int.zero_lt_one
  | k + 1, i, h => by
    rw [List.drop_eq_getElem_cons (by omega)]
    exact Int.mul_pos (tri i _ (List.getElem?_eq_getElem (by omega))).2.2 (diag_pos tri k (i + 1) (by omega))
theorem diag_each {n : Nat} {B C : List (List Int)} (lB : B.length = n) (lC : C.length = n) (tB : Tri n B) (tC : Tri n C) (h : ∀ v, Lat (rowsG B) v → Lat (rowsG C) v) {i : Nat} {b c : List Int} (hb : B[i]? = some b) (hc : C[i]? = some c) : vf c i ∣ vf b i := by
  obtain ⟨hi, _⟩ := List.getElem?_eq_some_iff.mp hb
  have g1 : Lat (rowsG C) (vf b) := h _ (Lat.gen ⟨b, List.mem_of_getElem? hb, rfl⟩)
  exact (tri_step tC hc (tri_from tC g1 i (by omega) (tB i b hb).2.1)).1
theorem diag_dvd {n : Nat} {B C : List (List Int)} (lB : B.length = n) (lC : C.length = n) (tB : Tri n B) (tC : Tri n C) (h : ∀ v, Lat (rowsG B) v → Lat (rowsG C) v) : ∀ (k i : Nat), i + k = n → diagP i (C.drop i) ∣ diagP i (B.drop i)
  | 0, i, hk => by
    rw [List.drop_eq_nil_of_le (by omega), List.drop_eq_nil_of_le (by omega)]
    exact Int.dvd_refl _
  | k + 1, i, hk => by
    rw [List.drop_eq_getElem_cons (l := B) (by omega), List.drop_eq_getElem_cons (l := C) (by omega)]
    exact Int.mul_dvd_mul (diag_each lB lC tB tC h (List.getElem?_eq_getElem (by omega)) (List.getElem?_eq_getElem (by omega))) (diag_dvd lB lC tB tC h k (i + 1) (by omega))
theorem eq_of_prods {a b c d : Int} (h1 : 0 < a) (h2 : 0 < b) (h3 : 0 < c) (h4 : 0 < d) (x : c ∣ a) (y : d ∣ b) (e : a * b = c * d) : a = c ∧ b = d := by
  have x1 := Int.le_of_dvd h1 x
  have y1 := Int.le_of_dvd h2 y
  have e1 : c * d ≤ a * d := Int.mul_le_mul_of_nonneg_right x1 (by omega)
  have e2 : a * d ≤ a * b := Int.mul_le_mul_of_nonneg_left y1 (by omega)
  have e3 : a * d = a * b := by omega
  have e4 : c * d = a * d := by omega
  exact ⟨(Int.eq_of_mul_eq_mul_right (by omega) e4).symm, (Int.eq_of_mul_eq_mul_left (by omega) e3).symm⟩
theorem diag_same {n : Nat} {B C : List (List Int)} (lB : B.length = n) (lC : C.length = n) (tB : Tri n B) (tC : Tri n C) (h : ∀ v, Lat (rowsG B) v → Lat (rowsG C) v) : ∀ (k i : Nat), i + k = n → diagP i (B.drop i) = diagP i (C.drop i) → ∀ (m : Nat) (b c : List Int), i ≤ m → B[m]? = some b → C[m]? = some c → vf b m = vf c m
  | 0, i, hk, _ => fun m b c hm hb _ => by
    obtain ⟨hi, _⟩ := List.getElem?_eq_some_iff.mp hb
    omega
  | k + 1, i, hk, e => fun m b c hm hb hc => by
    have dB := diag_pos tB k (i + 1) (by omega)
    have dC := diag_pos tC k (i + 1) (by omega)
    rw [List.drop_eq_getElem_cons (l := B) (by omega), List.drop_eq_getElem_cons (l := C) (by omega)] at e
    have hb0 : B[i]? = some (B[i]'(by omega)) := List.getElem?_eq_getElem (by omega)
    have hc0 : C[i]? = some (C[i]'(by omega)) := List.getElem?_eq_getElem (by omega)
    obtain ⟨e1, e2⟩ := eq_of_prods (tB i _ hb0).2.2 dB (tC i _ hc0).2.2 dC (diag_each lB lC tB tC h hb0 hc0) (diag_dvd lB lC tB tC h k (i + 1) (by omega)) e
    by_cases z : m = i
    · subst z
      rw [hb] at hb0
      rw [hc] at hc0
      rw [Option.some.inj hb0, Option.some.inj hc0]
      exact e1
    · exact diag_same lB lC tB tC h k (i + 1) (by omega) e2 m b c (by omega) hb hc
/-- the same product: the same lattice -/
theorem lat_back {n : Nat} {B C : List (List Int)} (lB : B.length = n) (lC : C.length = n) (tB : Tri n B) (tC : Tri n C) (h : ∀ v, Lat (rowsG B) v → Lat (rowsG C) v) (e : diagP 0 B = diagP 0 C) : ∀ (k i : Nat) (v : Vec), i + k = n → (∀ j, j < i → v j = 0) → Lat (rowsG C) v → Lat (rowsG B) v
  | 0, i, v, hk, hz, hv => by
    have := tri_from tC hv i (by omega) hz
    rw [List.drop_eq_nil_of_le (by omega)] at this
    exact this.le fun g ⟨r, hr, _⟩ => nomatch hr
  | k + 1, i, v, hk, hz, hv => by
    have hb : B[i]? = some (B[i]'(by omega)) := List.getElem?_eq_getElem (by omega)
    have hc : C[i]? = some (C[i]'(by omega)) := List.getElem?_eq_getElem (by omega)
    generalize B[i]'(by omega) = b at hb
    generalize C[i]'(by omega) = c at hc
    have hd := (tri_step tC hc (tri_from tC hv i (by omega) hz)).1
    have eq : vf b i = vf c i := diag_same lB lC tB tC h n 0 (by omega) (by rw [List.drop_zero, List.drop_zero]; exact e) i b c (by omega) hb hc
    rw [← eq] at hd
    have gb : Lat (rowsG B) (vf b) := Lat.gen ⟨b, List.mem_of_getElem? hb, rfl⟩
    have ih := lat_back lB lC tB tC h e k (i + 1) (fun j => v j - v i / vf b i * vf b j) (by omega) (fun j hj => by
      by_cases z : j = i
      · subst z
        show v j - v j / vf b j * vf b j = 0
        rw [Int.ediv_mul_cancel hd]
        omega
      · show v j - v i / vf b i * vf b j = 0
        rw [hz j (by omega), (tB i b hb).2.1 j (by omega)]
        simp) (hv.comb (h _ gb) _)
    exact (ih.comb gb (-(v i / vf b i))).of_eq fun j => by grind
/-! ### coordinates -/
def comboV : List Int → List (List Int) → Vec
  | k :: ks, b :: B => fun j => k * vf b j + comboV ks B j
  | _, _ => fun _ => 0
theorem combo_lat : ∀ (ks : List Int) (B : List (List Int)), Lat (rowsG B) (comboV ks B)
  | [], _ => Lat.zero.of_eq fun _ => by cases ‹List (List Int)› <;> rfl
  | _ :: _, [] => Lat.zero
  | k :: ks, b :: B => (((combo_lat ks B).le fun g ⟨r, hr, e⟩ => Lat.gen ⟨r, List.mem_cons_of_mem _ hr, e⟩).comb (Lat.gen (G := rowsG (b :: B)) ⟨b, List.mem_cons_self, rfl⟩) (-k)).of_eq fun j => by
    show comboV ks B j - -k * vf b j = k * vf b j + comboV ks B j
    grind
def coordF : Nat → List (List Int) → List Int → List Int
  | _, [], _ => []
  | i, b :: B, v => vf v i / vf b i :: coordF (i + 1) B (axpy (vf v i / vf b i) v b)
theorem coord_len : ∀ (i : Nat) (B : List (List Int)) (v : List Int), (coordF i B v).length = B.length
  | _, [], _ => rfl
  | i, b :: B, v => by
    show (coordF (i + 1) B _).length + 1 = B.length + 1
    rw [coord_len]
theorem coord_ok {n : Nat} {B : List (List Int)} (lB : B.length = n) (tri : Tri n B) : ∀ (k i : Nat) (v : List Int), i + k = n → v.length = n → Lat (rowsG (B.drop i)) (vf v) → ∀ j, vf v j = comboV (coordF i (B.drop i) v) (B.drop i) j
  | 0, i, v, hk, lv, h => fun j => by
    rw [List.drop_eq_nil_of_le (by omega)] at h ⊢
    have : ∀ {u : Vec}, Lat (rowsG []) u → u j = 0 := fun hu => by
      induction hu with
      | zero => rfl
      | step k _ hg _ => exact (nomatch hg.choose_spec.1)
    exact this h
  | k + 1, i, v, hk, lv, h => fun j => by
    have hb : B[i]? = some (B[i]'(by omega)) := List.getElem?_eq_getElem (by omega)
    have hd : B.drop i = B[i]'(by omega) :: B.drop (i + 1) := List.drop_eq_getElem_cons (by omega)
    generalize B[i]'(by omega) = b at hb hd
    obtain ⟨l1, z1, p1⟩ := tri i b hb
    have va := axpy_vf (k := vf v i / vf b i) (a := v) (b := b) (by omega)
    have ih := coord_ok lB tri k (i + 1) (axpy (vf v i / vf b i) v b) (by omega) (by rw [axpy_len (by omega), l1]) (by rw [va]; exact (tri_step tri hb h).2) j
    rw [hd]
    show vf v j = vf v i / vf b i * vf b j + comboV (coordF (i + 1) (B.drop (i + 1)) (axpy (vf v i / vf b i) v b)) (B.drop (i + 1)) j
    rw [← ih, va]
    grind
/-- coordinates are unique -/
theorem combo_inj {n : Nat} {B : List (List Int)} (tri : Tri n B) : ∀ (m i : Nat) (ks ls : List Int), i + m = B.length → ks.length = m → ls.length = m → (∀ j, comboV ks (B.drop i) j = comboV ls (B.drop i) j) → ks = ls
  | 0, _, ks, ls, _, h1, h2, _ => by rw [List.length_eq_zero_iff.mp h1, List.length_eq_zero_iff.mp h2]
  | m + 1, i, k :: ks, l :: ls, hm, h1, h2, h => by
    have hb : B[i]? = some (B[i]'(by omega)) := List.getElem?_eq_getElem (by omega)
    have hd : B.drop i = B[i]'(by omega) :: B.drop (i + 1) := List.drop_eq_getElem_cons (by omega)
    generalize B[i]'(by omega) = b at hb hd
    obtain ⟨l1, z1, p1⟩ := tri i b hb
    rw [hd] at h
    have z : ∀ ks : List Int, comboV ks (B.drop (i + 1)) i = 0 := fun ks => by
      have : ∀ {u : Vec}, Lat (rowsG (B.drop (i + 1))) u → u i = 0 := fun hu => by
        induction hu with
        | zero => rfl
        | step k _ hg ih =>
          obtain ⟨r, hr, rfl⟩ := hg
          obtain ⟨q, hq⟩ := List.getElem?_of_mem hr
          rw [List.getElem?_drop] at hq
          show _ - k * vf r i = 0
          rw [ih, (tri _ r hq).2.1 i (by omega)]
          simp
      exact this (combo_lat ks _)
    have e := h i
    have e2 : k * vf b i + comboV ks (B.drop (i + 1)) i = l * vf b i + comboV ls (B.drop (i + 1)) i := e
    rw [z, z] at e2
    have kl : k = l := Int.eq_of_mul_eq_mul_right (a := vf b i) (by omega) (by omega)
    subst kl
    rw [combo_inj tri m (i + 1) ks ls (by omega) (Nat.succ.inj h1) (Nat.succ.inj h2) fun j => by
      have e3 : k * vf b j + comboV ks (B.drop (i + 1)) j = k * vf b j + comboV ls (B.drop (i + 1)) j := h j
      omega]
/-- multiples of units are in the lattice -/
theorem unit_in {n : Nat} {B : List (List Int)} (lB : B.length = n) (tri : Tri n B) : ∀ (k i : Nat), i + k = n → ∀ j, i ≤ j → j < n → Lat (rowsG (B.drop i)) (unitV j (diagP i (B.drop i)))
  | 0, i, hk => fun j h1 h2 => by omega
  | k + 1, i, hk => fun j h1 h2 => by
    have hb : B[i]? = some (B[i]'(by omega)) := List.getElem?_eq_getElem (by omega)
    have hd : B.drop i = B[i]'(by omega) :: B.drop (i + 1) := List.drop_eq_getElem_cons (by omega)
    generalize B[i]'(by omega) = b at hb hd
    obtain ⟨l1, z1, p1⟩ := tri i b hb
    have up : ∀ {u : Vec}, Lat (rowsG (B.drop (i + 1))) u → Lat (rowsG (b :: B.drop (i + 1))) u := fun hu => hu.le fun g ⟨r, hr, e⟩ => Lat.gen ⟨r, List.mem_cons_of_mem _ hr, e⟩
    have ih := unit_in lB tri k (i + 1) (by omega)
    rw [hd]
    show Lat (rowsG (b :: B.drop (i + 1))) (unitV j (vf b i * diagP (i + 1) (B.drop (i + 1))))
    by_cases e : j = i
    · subst e
      have hs : Lat (rowsG (b :: B.drop (j + 1))) (fun m => if j < m ∧ m < n then vf b m * diagP (j + 1) (B.drop (j + 1)) else 0) := by
        refine (up (Lat.le (G := fun g => ∃ m, j < m ∧ m < n ∧ g = unitV m (diagP (j + 1) (B.drop (j + 1)))) (fun g ⟨m, a, c, e⟩ => by rw [e]; exact ih m (by omega) c) (units_lat (c := j) (n := n) (o := fun _ => diagP (j + 1) (B.drop (j + 1))) (k := fun m => vf b m) (fun m a c => ⟨m, a, c, rfl⟩) n (Nat.le_refl _))))
      refine (((Lat.gen (G := rowsG (b :: B.drop (j + 1))) ⟨b, List.mem_cons_self, rfl⟩).mul (diagP (j + 1) (B.drop (j + 1)))).comb hs 1).of_eq fun m => ?_
      unfold unitV
      by_cases h3 : m = j
      · subst h3
        rw [if_pos rfl, if_neg (by omega)]
        grind
      · rw [if_neg h3]
        by_cases h4 : j < m ∧ m < n
        · rw [if_pos h4]
          grind
        · rw [if_neg h4]
          have : vf b m = 0 := by
            by_cases h5 : m < j
            · exact z1 m h5
            · exact vf_ge (by omega)
          rw [this]
          simp
    · refine ((up (ih j (by omega) h2)).mul (vf b i)).of_eq fun m => ?_
      unfold unitV
      split
      · rfl
      · simp

/-! ### sums, and what separates -/
def sumN : Nat → (Nat → Int) → Int
  | 0, _ => 0
  | n + 1, f => sumN n f + f n
theorem sumN_congr {f g : Nat → Int} : ∀ {n : Nat}, (∀ i, i < n → f i = g i) → sumN n f = sumN n g
  | 0, _ => rfl
  | n + 1, h => by
    show sumN n f + f n = sumN n g + g n
    rw [sumN_congr fun i hi => h i (by omega), h n (by omega)]
theorem sumN_add (f g : Nat → Int) : ∀ n, sumN n (fun i => f i + g i) = sumN n f + sumN n g
  | 0 => rfl
  | n + 1 => by
    show sumN n (fun i => f i + g i) + (f n + g n) = (sumN n f + f n) + (sumN n g + g n)
    rw [sumN_add f g n]
    omega
theorem sumN_mul (k : Int) (f : Nat → Int) : ∀ n, sumN n (fun i => k * f i) = k * sumN n f
  | 0 => by simp [sumN]
  | n + 1 => by
    show sumN n _ + _ = k * (sumN n f + f n)
    rw [sumN_mul k f n, Int.mul_add]
theorem sumN_zero : ∀ n, sumN n (fun _ => 0) = 0
  | 0 => rfl
  | n + 1 => by
    show sumN n _ + 0 = 0
    rw [sumN_zero n]
    rfl
theorem sumN_swap (f : Nat → Nat → Int) (m : Nat) : ∀ n, sumN n (fun i => sumN m fun k => f i k) = sumN m fun k => sumN n fun i => f i k
  | 0 => (sumN_zero m).symm
  | n + 1 => by
    show sumN n _ + sumN m _ = sumN m fun k => sumN n (fun i => f i k) + f n k
    rw [sumN_swap f m n, sumN_add]
theorem sumN_head (f : Nat → Int) : ∀ n, sumN (n + 1) f = f 0 + sumN n fun i => f (i + 1)
  | 0 => by simp [sumN]
  | n + 1 => by
    show sumN (n + 1) f + f (n + 1) = f 0 + (sumN n (fun i => f (i + 1)) + f (n + 1))
    rw [sumN_head f n]
    omega
theorem sumN_unit {n j : Nat} (f : Nat → Int) (h : j < n) : sumN n (fun k => f k * unitV k 1 j) = f j := by
  have key : ∀ m, sumN m (fun k => f k * unitV k 1 j) = if j < m then f j else 0 := by
    intro m
    induction m with
    | zero => rfl
    | succ m ih =>
      show sumN m _ + f m * unitV m 1 j = _
      rw [ih]
      unfold unitV
      by_cases e : j = m
      · subst e
        rw [if_neg (Nat.lt_irrefl _), if_pos rfl, if_pos (Nat.lt_succ_self _)]
        simp
      · rw [if_neg e]
        by_cases h2 : j < m
        · rw [if_pos h2, if_pos (by omega)]
          simp
        · rw [if_neg h2, if_neg (by omega)]
          simp
  rw [key n, if_pos h]
theorem dvd_sumN {d : Int} {f : Nat → Int} : ∀ {n : Nat}, (∀ i, i < n → d ∣ f i) → d ∣ sumN n f
  | 0, _ => Int.dvd_zero _
  | n + 1, h => Int.dvd_add (dvd_sumN fun i hi => h i (by omega)) (h n (by omega))
theorem combo_sum : ∀ (ks : List Int) (B : List (List Int)) (j : Nat), ks.length = B.length → comboV ks B j = sumN B.length fun i => vf ks i * vf (B.getD i []) j
  | [], [], _, _ => rfl
  | k :: ks, b :: B, j, h => by
    show k * vf b j + comboV ks B j = sumN (B.length + 1) _
    rw [sumN_head, combo_sum ks B j (Nat.succ.inj h)]
    rfl
theorem lat_sum {B : List (List Int)} (m : Nat → Int) : ∀ n, n ≤ B.length → Lat (rowsG B) (fun j => sumN n fun i => m i * vf (B.getD i []) j)
  | 0, _ => Lat.zero
  | n + 1, h => by
    have hb : B[n]? = some (B[n]'(by omega)) := List.getElem?_eq_getElem (by omega)
    have e : B.getD n [] = B[n]'(by omega) := by rw [List.getD_eq_getElem?_getD, hb]; rfl
    refine ((lat_sum m n (by omega)).comb (Lat.gen (G := rowsG B) ⟨B[n]'(by omega), List.getElem_mem _, rfl⟩) (-(m n))).of_eq fun j => ?_
    show _ = sumN n (fun i => m i * vf (B.getD i []) j) + m n * vf (B.getD n []) j
    rw [e]
    grind
/-- the coordinates of multiples of the units -/
def colsF (B : List (List Int)) (n k : Nat) : List Int := coordF 0 B (unitL n k (diagP 0 B))
/-- what is told of a vector at i -/
def tellF (B : List (List Int)) (n : Nat) (v : Vec) (i : Nat) : Int := sumN n fun k => v k * vf (colsF B n k) i
section
variable {n : Nat} {B : List (List Int)} (lB : B.length = n) (tri : Tri n B)
include lB tri
theorem cols_ok {k : Nat} (hk : k < n) (j : Nat) : unitV k (diagP 0 B) j = sumN n fun i => vf (colsF B n k) i * vf (B.getD i []) j := by
  have h1 := unit_in lB tri n 0 (by omega) k (by omega) hk
  rw [List.drop_zero] at h1
  have lu : (unitL n k (diagP 0 B)).length = n := by simp [unitL]
  have uv := unitL_vf (n := n) (x := diagP 0 B) hk
  have h2 := coord_ok lB tri n 0 (unitL n k (diagP 0 B)) (by omega) lu (by rw [List.drop_zero, uv]; exact h1) j
  rw [List.drop_zero, uv] at h2
  rw [h2, combo_sum _ _ _ (coord_len _ _ _), lB]
  rfl
theorem tell_combo {v : Vec} (hv : ∀ j, n ≤ j → v j = 0) (j : Nat) : diagP 0 B * v j = sumN n fun i => tellF B n v i * vf (B.getD i []) j := by
  have e1 : (sumN n fun i => tellF B n v i * vf (B.getD i []) j) = sumN n fun i => sumN n fun k => v k * (vf (colsF B n k) i * vf (B.getD i []) j) := sumN_congr fun i _ => by
    unfold tellF
    rw [Int.mul_comm, ← sumN_mul]
    exact sumN_congr fun k _ => by grind
  rw [e1, sumN_swap]
  have e2 : (sumN n fun k => sumN n fun i => v k * (vf (colsF B n k) i * vf (B.getD i []) j)) = sumN n fun k => (v k * diagP 0 B) * unitV k 1 j := sumN_congr fun k hk => by
    rw [sumN_mul, ← cols_ok lB tri hk j]
    unfold unitV
    split <;> simp
  rw [e2]
  by_cases hj : j < n
  · rw [sumN_unit (fun k => v k * diagP 0 B) hj, Int.mul_comm]
  · rw [hv j (by omega)]
    have : (sumN n fun k => (v k * diagP 0 B) * unitV k 1 j) = sumN n fun _ => 0 := sumN_congr fun k hk => by
      unfold unitV
      rw [if_neg (by omega)]
      simp
    rw [this, sumN_zero]
    simp
/-- all told 0: in the lattice -/
theorem tell_in {v : Vec} (hv : ∀ j, n ≤ j → v j = 0) (h : ∀ i, i < n → diagP 0 B ∣ tellF B n v i) : Lat (rowsG B) v := by
  have D0 : 0 < diagP 0 B := by
    have := diag_pos tri n 0 (by omega)
    rwa [List.drop_zero] at this
  refine (lat_sum (B := B) (fun i => tellF B n v i / diagP 0 B) n (by omega)).of_eq fun j => ?_
  refine Int.eq_of_mul_eq_mul_left (a := diagP 0 B) (by omega) ?_
  rw [tell_combo lB tri hv j, ← sumN_mul]
  refine sumN_congr fun i hi => ?_
  rw [← Int.mul_assoc, Int.mul_ediv_cancel' (h i hi)]
theorem tell_of {v : List Int} (lv : v.length = n) (h : Lat (rowsG B) (vf v)) {i : Nat} (hi : i < n) : diagP 0 B ∣ tellF B n (vf v) i := by
  have h2 := fun j => coord_ok lB tri n 0 v (by omega) lv (by rw [List.drop_zero]; exact h) j
  rw [List.drop_zero] at h2
  have lc : (coordF 0 B v).length = n := by rw [coord_len, lB]
  have key := combo_inj tri n 0 ((List.range n).map fun i => tellF B n (vf v) i) ((coordF 0 B v).map fun x => diagP 0 B * x) (by omega) (by simp) (by simp [lc]) (fun j => by
    rw [List.drop_zero, combo_sum _ _ _ (by simp [lB]), combo_sum _ _ _ (by rw [List.length_map, lc, lB]), lB]
    have e1 : (sumN n fun i => vf ((List.range n).map fun i => tellF B n (vf v) i) i * vf (B.getD i []) j) = diagP 0 B * vf v j := by
      rw [tell_combo lB tri (v := vf v) (fun j hj => vf_ge (by omega)) j]
      refine sumN_congr fun i hi => ?_
      rw [vf_at (v := (List.range n).map fun i => tellF B n (vf v) i) (x := tellF B n (vf v) i) (by rw [List.getElem?_map, List.getElem?_range hi]; rfl)]
    rw [e1, h2 j, combo_sum _ _ _ (by rw [lc, lB]), lB, ← sumN_mul]
    refine sumN_congr fun i hi => ?_
    have e3 : (coordF 0 B v)[i]? = some ((coordF 0 B v)[i]'(by omega)) := List.getElem?_eq_getElem (by omega)
    rw [vf_at e3, vf_at (v := (coordF 0 B v).map fun x => diagP 0 B * x) (by rw [List.getElem?_map, e3]; rfl), Int.mul_assoc])
  have e4 : ((List.range n).map fun i => tellF B n (vf v) i)[i]? = some (tellF B n (vf v) i) := by rw [List.getElem?_map, List.getElem?_range hi]; rfl
  rw [key, List.getElem?_map] at e4
  cases e5 : (coordF 0 B v)[i]? with
  | none => rw [e5] at e4; cases e4
  | some x =>
    rw [e5] at e4
    rw [← Option.some.inj e4]
    exact Int.dvd_mul_right _ _
end

/-! ### how large the rows are -/
theorem fdiv_step {x y : Int} (h : y ≠ 0) : (0 ≤ x * y → (x.fdiv y).natAbs * y.natAbs + (x - x.fdiv y * y).natAbs = x.natAbs) ∧ (x.fdiv y).natAbs * y.natAbs + (x - x.fdiv y * y).natAbs ≤ x.natAbs + 2 * y.natAbs ∧ 0 ≤ y * (x - x.fdiv y * y) := by
  have sm := fmod_small (x := x) h
  have e := Int.fmod_def x y
  have e2 : x - x.fdiv y * y = x.fmod y := by rw [e, Int.mul_comm]
  have em : (x.fdiv y).natAbs * y.natAbs = (x.fdiv y * y).natAbs := (Int.natAbs_mul _ _).symm
  have sg : (0 < y → 0 ≤ x.fmod y) ∧ (y < 0 → x.fmod y ≤ 0) := by
    refine ⟨fun p => ?_, fun p => ?_⟩
    · exact Int.fmod_nonneg_of_pos x p
    · rw [Int.fmod_eq_emod]
      have a := Int.emod_nonneg x h
      have b := Int.emod_lt x h
      split
      · rename_i hn
        rcases hn with z | z
        · omega
        · have := Int.emod_eq_zero_of_dvd z
          omega
      · omega
  rw [em]
  rw [e2] at sm ⊢
  have e3 : x.fdiv y * y = x - x.fmod y := by omega
  rw [e3]
  generalize x.fmod y = r at *
  refine ⟨fun hp => ?_, by omega, ?_⟩
  · rcases Int.lt_or_gt_of_ne h with hy | hy
    · have hx : x ≤ 0 := by
        rcases Int.lt_or_le 0 x with z | z
        · have := Int.mul_neg_of_pos_of_neg z hy
          omega
        · exact z
      have := sg.2 hy
      -- the quotient is not negative
      rcases Int.lt_or_le x r with z | z
      · omega
      · have : x = r ∨ r < x := by omega
        rcases this with z | z
        · omega
        · -- x - r is a positive multiple of y < 0, smaller than |y|
          exfalso
          have d : y ∣ x - r := ⟨x.fdiv y, by rw [Int.mul_comm]; omega⟩
          have := Int.le_of_dvd (by omega) (Int.neg_dvd.mpr d)
          omega
    · have hx : 0 ≤ x := by
        rcases Int.lt_or_le x 0 with z | z
        · have := Int.mul_neg_of_neg_of_pos z hy
          omega
        · exact z
      have := sg.1 hy
      rcases Int.lt_or_le x r with z | z
      · exfalso
        have d : y ∣ r - x := ⟨-(x.fdiv y), by rw [Int.mul_neg, Int.mul_comm]; omega⟩
        have := Int.le_of_dvd (by omega) d
        omega
      · omega
  · rcases Int.lt_or_gt_of_ne h with hy | hy
    · exact Int.mul_nonneg_of_nonpos_of_nonpos (by omega) (sg.2 hy)
    · exact Int.mul_nonneg (by omega) (sg.1 hy)
/-- the rows of Euclid stay small: all entries below M at first -/
structure EuB (M c : Nat) (f s : List Int) : Prop where
  x : (vf f c).natAbs < M
  y : (vf s c).natAbs < M
  fb : ∀ j, (vf f j).natAbs ≤ 4 * M * M
  sb : ∀ j, (vf s j).natAbs ≤ 4 * M * M
  go : (∀ j, (vf f j).natAbs < M ∧ (vf s j).natAbs < M) ∨ (0 ≤ vf f c * vf s c ∧ ∀ j, (vf s c).natAbs * (vf f j).natAbs + (vf f c).natAbs * (vf s j).natAbs ≤ 4 * M * M)
theorem EuB.start {M c : Nat} {f s : List Int} (h1 : ∀ j, (vf f j).natAbs < M) (h2 : ∀ j, (vf s j).natAbs < M) : EuB M c f s := by
  have q : ∀ a : Nat, a < M → a ≤ 4 * M * M := fun a h => by
    have : M ≤ 4 * M * M := by
      have : 1 * M ≤ 4 * M * M := Nat.mul_le_mul_right M (by omega)
      omega
    omega
  exact ⟨h1 c, h2 c, fun j => q _ (h1 j), fun j => q _ (h2 j), .inl fun j => ⟨h1 j, h2 j⟩⟩
theorem EuB.next {M c : Nat} {f s : List Int} (l : f.length = s.length) (nz : vf s c ≠ 0) (h : EuB M c f s) : EuB M c s (axpy ((vf f c).fdiv (vf s c)) f s) := by
  obtain ⟨a1, a2, a3⟩ := fdiv_step (x := vf f c) nz
  have sm := fmod_small (x := vf f c) nz
  have va := axpy_vf (k := (vf f c).fdiv (vf s c)) l
  have hx := h.x
  have hy := h.y
  have key : ∀ j, (vf f c - (vf f c).fdiv (vf s c) * vf s c).natAbs * (vf s j).natAbs + (vf s c).natAbs * (vf f j - (vf f c).fdiv (vf s c) * vf s j).natAbs ≤ 4 * M * M := fun j => by
    have t1 : (vf f j - (vf f c).fdiv (vf s c) * vf s j).natAbs ≤ (vf f j).natAbs + ((vf f c).fdiv (vf s c)).natAbs * (vf s j).natAbs := by
      rw [← Int.natAbs_mul]
      omega
    have t2 := Nat.mul_le_mul_left (vf s c).natAbs t1
    rw [Nat.mul_add] at t2
    have t3 : (vf s c).natAbs * (((vf f c).fdiv (vf s c)).natAbs * (vf s j).natAbs) = ((vf f c).fdiv (vf s c)).natAbs * (vf s c).natAbs * (vf s j).natAbs := by
      rw [← Nat.mul_assoc, Nat.mul_comm (vf s c).natAbs]
    rw [t3] at t2
    have t4 : (vf f c - (vf f c).fdiv (vf s c) * vf s c).natAbs * (vf s j).natAbs + ((vf f c).fdiv (vf s c)).natAbs * (vf s c).natAbs * (vf s j).natAbs = (((vf f c).fdiv (vf s c)).natAbs * (vf s c).natAbs + (vf f c - (vf f c).fdiv (vf s c) * vf s c).natAbs) * (vf s j).natAbs := by
      rw [Nat.add_mul]
      omega
    rcases h.go with g | ⟨g1, g2⟩
    · obtain ⟨g3, g4⟩ := g j
      have t5 : (((vf f c).fdiv (vf s c)).natAbs * (vf s c).natAbs + (vf f c - (vf f c).fdiv (vf s c) * vf s c).natAbs) * (vf s j).natAbs ≤ (3 * M) * M := Nat.mul_le_mul (by omega) (by omega)
      have t6 : (vf s c).natAbs * (vf f j).natAbs ≤ M * M := Nat.mul_le_mul (by omega) (by omega)
      have t7 : 4 * M * M = 3 * M * M + M * M := by
        rw [Nat.mul_assoc, Nat.mul_assoc]
        omega
      omega
    · rw [a1 g1] at t4
      have := g2 j
      omega
  refine ⟨hy, by rw [va]; show (vf f c - (vf f c).fdiv (vf s c) * vf s c).natAbs < M; omega, h.sb, fun j => ?_, .inr ⟨by rw [va]; exact a3, fun j => by rw [va]; exact key j⟩⟩
  rw [va]
  show (vf f j - (vf f c).fdiv (vf s c) * vf s j).natAbs ≤ 4 * M * M
  have k1 := key j
  have p1 : 1 ≤ (vf s c).natAbs := by omega
  have k2 : 1 * (vf f j - (vf f c).fdiv (vf s c) * vf s j).natAbs ≤ (vf s c).natAbs * (vf f j - (vf f c).fdiv (vf s c) * vf s j).natAbs := Nat.mul_le_mul_right _ p1
  omega
theorem comb_eu {M c n : Nat} {f s : List Int} (lf : f.length = n) (ls : s.length = n) (h : EuB M c f s) : EuB M c (combF c f s).1 (combF c f s).2 :=
  (comb_ind (c := c) (n := n) (P := EuB M c) (fun a b la lb nz ih => ih.next (by omega) nz) _ f s (Nat.le_refl _) lf ls h).1
/-- reduced rows are small again -/
theorem red_small {M c n : Nat} {odds row : List Int} (h1 : odds.length = n) (h2 : row.length = n) (ho : ∀ j, j < n → 0 < vf odds j ∧ (vf odds j).natAbs < M) (hz : ∀ j, j < c → vf row j = 0) (hc : (vf row c).natAbs < M) (hM : 0 < M) (j : Nat) : (vf (redF c odds row) j).natAbs < M := by
  rw [red_vf h1 h2]
  split
  · rename_i h
    obtain ⟨o1, o2⟩ := ho j h.2
    have a := Int.emod_nonneg (vf row j) (show vf odds j ≠ 0 by omega)
    have b := Int.emod_lt_of_pos (vf row j) o1
    omega
  · rename_i h
    by_cases e : j = c
    · rw [e]; exact hc
    · by_cases e2 : j < c
      · rw [hz j e2]
        exact hM
      · rw [vf_ge (by omega)]
        exact hM

/-- a row that begins at c, of small entries -/
structure RowB (M n c : Nat) (r : List Int) : Prop where
  len : r.length = n
  zero : ∀ j, j < c → vf r j = 0
  small : ∀ j, (vf r j).natAbs < M
structure OddB (M n : Nat) (odds : List Int) : Prop where
  len : odds.length = n
  pos : ∀ j, j < n → 0 < vf odds j
  small : ∀ j, (vf odds j).natAbs < M
  m0 : 0 < M
theorem piv_b {M n c : Nat} {odds p row : List Int} (o : OddB M n odds) (hp : RowB M n c p) (hr : RowB M n c row) : RowB M n c (redF c odds (combF c p row).1) ∧ RowB M n (c + 1) (redF c odds (combF c p row).2) := by
  obtain ⟨l1, l2, z2⟩ := comb_len (c := c) hp.len hr.len
  have eu := comb_eu (c := c) hp.len hr.len (EuB.start (M := M) (c := c) hp.small hr.small)
  have oo : ∀ j, j < n → 0 < vf odds j ∧ (vf odds j).natAbs < M := fun j hj => ⟨o.pos j hj, o.small j⟩
  have zz := fun j (hj : j < c) => comb_zero (c := c) hp.len hr.len (hp.zero j hj) (hr.zero j hj)
  refine ⟨⟨red_len o.len l1, fun j hj => ?_, red_small o.len l1 oo (fun j hj => (zz j hj).1) eu.x o.m0⟩, ⟨red_len o.len l2, fun j hj => ?_, red_small o.len l2 oo (fun j hj => (zz j hj).2) eu.y o.m0⟩⟩
  · rw [red_vf o.len l1, if_neg (by omega)]
    exact (zz j hj).1
  · rw [red_vf o.len l2, if_neg (by omega)]
    by_cases e : j = c
    · rw [e]; exact z2
    · exact (zz j (by omega)).2
theorem fold_b {M n c : Nat} {odds : List Int} (o : OddB M n odds) : ∀ (rows : List (List Int)) (p : List Int) (os : List (List Int)), (∀ r ∈ rows, RowB M n c r) → RowB M n c p → (∀ r ∈ os, RowB M n (c + 1) r) →
    RowB M n c (rows.foldl (pivF c odds) (p, os)).1 ∧ (∀ r ∈ (rows.foldl (pivF c odds) (p, os)).2, RowB M n (c + 1) r) ∧ (rows.foldl (pivF c odds) (p, os)).2.length = os.length + rows.length
  | [], p, os, _, hp, ho => ⟨hp, ho, rfl⟩
  | row :: rows, p, os, hr, hp, ho => by
    obtain ⟨a1, a2⟩ := piv_b o hp (hr row List.mem_cons_self)
    obtain ⟨b1, b2, b3⟩ := fold_b o rows (redF c odds (combF c p row).1) (os ++ [redF c odds (combF c p row).2]) (fun r h => hr r (List.mem_cons_of_mem _ h)) a1 (fun r h => by
      rcases List.mem_append.mp h with h | h
      · exact ho r h
      · rw [List.mem_singleton.mp h]; exact a2)
    refine ⟨b1, b2, ?_⟩
    show (rows.foldl (pivF c odds) (redF c odds (combF c p row).1, os ++ [redF c odds (combF c p row).2])).2.length = _
    rw [b3, List.length_append, List.length_singleton, List.length_cons]
    omega
theorem unit_b {M n c : Nat} {odds : List Int} (o : OddB M n odds) (hc : c < n) : RowB M n c (unitL odds.length c (vf odds c)) := by
  have uv : vf (unitL odds.length c (vf odds c)) = unitV c (vf odds c) := unitL_vf (by rw [o.len]; exact hc)
  refine ⟨by simp [unitL, o.len], fun j hj => ?_, fun j => ?_⟩
  · rw [uv]; unfold unitV; rw [if_neg (by omega)]
  · rw [uv]
    unfold unitV
    split
    · exact o.small c
    · exact o.m0
theorem col_b {M n c : Nat} {odds : List Int} (o : OddB M n odds) (hc : c < n) {rows : List (List Int)} (hr : ∀ r ∈ rows, RowB M n c r) : RowB M n c (colF odds c rows).1 ∧ (∀ r ∈ (colF odds c rows).2, RowB M n (c + 1) r) ∧ (colF odds c rows).2.length = rows.length := by
  have := fold_b o rows _ [] hr (unit_b o hc) (by simp)
  simpa [colF] using this
theorem neg_b {M n c : Nat} {p : List Int} (h : RowB M n c p) : RowB M n c (posF c p) := by
  refine ⟨by rw [pos_len, h.len], fun j hj => pos_zero (h.zero j hj), fun j => ?_⟩
  unfold posF
  split
  · exact h.small j
  · rw [neg_vf]
    show (- vf p j).natAbs < M
    rw [Int.natAbs_neg]
    exact h.small j
theorem next_b {M n : Nat} {odds : List Int} (o : OddB M n odds) {rows : List (List Int)} (hr : ∀ r ∈ rows, RowB M n 0 r) : ∀ c, c ≤ n →
    ((List.range c).foldl (nextF odds) ([], rows)).1.length = c ∧ (∀ r ∈ ((List.range c).foldl (nextF odds) ([], rows)).1, RowB M n 0 r) ∧ (∀ r ∈ ((List.range c).foldl (nextF odds) ([], rows)).2, RowB M n c r) ∧ ((List.range c).foldl (nextF odds) ([], rows)).2.length = rows.length
  | 0, _ => ⟨rfl, by simp, hr, rfl⟩
  | c + 1, h => by
    obtain ⟨a1, a2, a3, a4⟩ := next_b o hr c (by omega)
    rw [List.range_succ, List.foldl_append]
    generalize (List.range c).foldl (nextF odds) ([], rows) = st at a1 a2 a3 a4
    obtain ⟨b1, b2, b3⟩ := col_b o (by omega) a3
    refine ⟨by show (st.1 ++ [_]).length = _; rw [List.length_append, a1]; rfl, fun r hr => ?_, b2, b3.trans a4⟩
    rcases List.mem_append.mp (show r ∈ st.1 ++ [posF c (colF odds c st.2).1] from hr) with h | h
    · exact a2 r h
    · rw [List.mem_singleton.mp h]
      have := neg_b b1
      exact ⟨this.len, fun j hj => absurd hj (by omega), this.small⟩
theorem basis_b {M n : Nat} {odds : List Int} (o : OddB M n odds) {rows : List (List Int)} (hr : ∀ r ∈ rows, RowB M n 0 r) : ∀ r ∈ basisF odds rows, RowB M n 0 r := by
  unfold basisF
  rw [o.len]
  exact (next_b o hr n (Nat.le_refl _)).2.1
theorem nz_of {M n : Nat} {odds : List Int} (o : OddB M n odds) : ∀ i, i < n → vf odds i ≠ 0 := fun i hi => by
  have := o.pos i hi
  omega

/-- the bound of sizes here -/
abbrev MB : Nat := 2 ^ 270
theorem mb_pos : 0 < MB := Nat.pos_of_neZero _
/-- a list of ints stands at a -/
abbrev IL (H : Hp) (a : Addr) (xs : List Int) : Prop := H a = some (.lst (xs.map V.int))
theorem atI_vf {xs : List Int} {c : Nat} (h : c < xs.length) : atI (xs.map V.int) (c : Int) = some (.int (vf xs c)) := by
  unfold atI ixN
  rw [if_pos (by omega), if_pos (by rw [List.length_map]; omega)]
  show (xs.map V.int)[(c : Int).toNat]? = _
  rw [Int.toNat_natCast, List.getElem?_map, List.getElem?_eq_getElem h, vf_at (List.getElem?_eq_getElem h)]
  rfl
theorem lt_pow {a b c : Nat} (h : a < 2 ^ b) (hbc : b ≤ c) : a < 2 ^ c := Nat.lt_of_lt_of_le h (Nat.pow_le_pow_right (by decide) hbc)
theorem four_mb : 4 * MB * MB < 2 ^ 543 := by decide +kernel
section
variable {P : Program} {w : World} {K : PySem.W.Frag} {mg : Str → Option Value} {base : Heap}
end

/-! ### lists of lists of ints -/
def LRows (H : Hp) (xs : List V) (rows : List (List Int)) : Prop := Paired (fun x hs => ∃ r, x = V.ref r ∧ H r = some (.lst (hs.map V.int)) ∧ hs ≠ []) xs rows
theorem LRows.mono {H H2 : Hp} (e : Ex H H2) : ∀ {xs : List V} {rows : List (List Int)}, LRows H xs rows → LRows H2 xs rows
  | _, _, .nil => .nil
  | _, _, .cons ⟨r, h1, h2, h3⟩ t => .cons ⟨r, h1, e _ _ h2, h3⟩ (LRows.mono e t)
theorem LRows.len {H : Hp} : ∀ {xs : List V} {rows : List (List Int)}, LRows H xs rows → xs.length = rows.length
  | _, _, .nil => rfl
  | _, _, .cons _ t => by rw [List.length_cons, List.length_cons, LRows.len t]
theorem LRows.get {H : Hp} {xs : List V} {rows : List (List Int)} {i : Nat} {x : V} (h : LRows H xs rows) (hx : xs[i]? = some x) : ∃ hs r, rows[i]? = some hs ∧ x = V.ref r ∧ H r = some (.lst (hs.map V.int)) ∧ hs ≠ [] := by
  obtain ⟨hs, h1, r, h2, h3, h4⟩ := paired_get h hx
  exact ⟨hs, r, h1, h2, h3, h4⟩
theorem LRows.snoc {H : Hp} {r : Addr} {hs : List Int} (h : H r = some (.lst (hs.map V.int))) (ne : hs ≠ []) : ∀ {xs : List V} {rows : List (List Int)}, LRows H xs rows → LRows H (xs ++ [.ref r]) (rows ++ [hs])
  | _, _, .nil => .cons ⟨r, rfl, h, ne⟩ .nil
  | _, _, .cons q t => .cons q (LRows.snoc h ne t)
/-- a list of rows is no row -/
theorem LRows.ne {H : Hp} {D r : Addr} {ys : List V} {rows : List (List Int)} {hs : List Int} (hD : H D = some (.lst ys)) (h : LRows H ys rows) (hr : H r = some (.lst (hs.map V.int))) (ne : hs ≠ []) : r ≠ D := by
  intro e
  rw [e, hD] at hr
  injection hr with hr
  injection hr with hr
  cases hs with
  | nil => exact ne rfl
  | cons x xs =>
    rw [List.map_cons] at hr
    rw [hr] at h
    cases h with
    | cons q _ =>
      obtain ⟨r, e, _⟩ := q
      cases e
theorem LRows.upd {H : Hp} {D : Addr} {ys zs : List V} {rows0 : List (List Int)} (hD : H D = some (.lst ys)) (h0 : LRows H ys rows0) : ∀ {xs : List V} {rows : List (List Int)}, LRows H xs rows → LRows (upd H D (.lst zs)) xs rows
  | _, _, .nil => .nil
  | _, _, .cons ⟨r, h1, h2, h3⟩ t => .cons ⟨r, h1, by rw [upd_ne (LRows.ne hD h0 h2 h3)]; exact h2, h3⟩ (LRows.upd hD h0 t)
def LAt (H : Hp) (D : Addr) (rows : List (List Int)) : Prop := ∃ xs, H D = some (.lst xs) ∧ LRows H xs rows
theorem LAt.mono {H H2 : Hp} {D : Addr} {rows : List (List Int)} (e : Ex H H2) (h : LAt H D rows) : LAt H2 D rows := by
  obtain ⟨xs, h1, h2⟩ := h
  exact ⟨xs, e _ _ h1, h2.mono e⟩
theorem lrows_push {H : Hp} {D u : Addr} {rows : List (List Int)} {ks : List Int} (h : LAt H D rows) (hu : H u = some (.lst (ks.map V.int))) (ne : ks ≠ []) : ∃ acc, H D = some (.lst acc) ∧ acc.length = rows.length ∧ LAt (upd H D (.lst (acc ++ [.ref u]))) D (rows ++ [ks]) := by
  obtain ⟨xs, h1, h2⟩ := h
  refine ⟨xs, h1, h2.len, _, upd_same, ?_⟩
  exact LRows.snoc (by rw [upd_ne (LRows.ne h1 h2 hu ne)]; exact hu) ne (h2.upd h1 h2)
theorem LAt.other {H : Hp} {D E : Addr} {rows rowsE : List (List Int)} {zs : List V} (h : LAt H D rows) (hE : LAt H E rowsE) (ne : E ≠ D) : LAt (upd H D (.lst zs)) E rowsE := by
  obtain ⟨xs, h1, h2⟩ := h
  obtain ⟨ys, g1, g2⟩ := hE
  exact ⟨ys, by rw [upd_ne ne]; exact g1, LRows.upd h1 h2 g2⟩
theorem LAt.row {H : Hp} {D r : Addr} {rows : List (List Int)} {hs : List Int} {zs : List V} (h : LAt H D rows) (hr : IL H r hs) (ne : hs ≠ []) : IL (upd H D (.lst zs)) r hs := by
  obtain ⟨xs, h1, h2⟩ := h
  show upd H D _ r = _
  rw [upd_ne (LRows.ne h1 h2 hr ne)]
  exact hr
theorem atI_zero {α : Type} (x : α) (xs : List α) : atI (x :: xs) 0 = some x := by
  unfold atI ixN
  rw [if_pos (Int.le_refl 0), if_pos (by rw [List.length_cons]; omega)]
  rfl
/-- an if that ends the def or leaves all names as they are -/
theorem ifs_ex {c : TT} {t u : TS} {D : Ends} {σ : L2.St} {H : Hp} (h : ∀ N : L2.St → Hp → Prop, (∀ H2, Ex H H2 → N σ H2) → tIfS c t u { D with nx := N } σ H) (hR : ∀ H2, Ex H H2 → D.nx σ H2) : tIfS c t u D σ H :=
  ifs_cutG (fun σ2 H2 => σ2 = σ ∧ Ex H H2) (by rintro σ2 H2 ⟨rfl, e⟩; exact hR H2 e) (fun N hN => h N fun H2 e => hN σ H2 ⟨rfl, e⟩)
theorem sif_ex {c : TT} {t u r : TS} {D : Ends} {σ : L2.St} {H : Hp} (h : ∀ N : L2.St → Hp → Prop, (∀ H2, Ex H H2 → N σ H2) → tIfS c t u { D with nx := N } σ H) (hR : ∀ H2, Ex H H2 → r D σ H2) : tSeq (tIfS c t u) r D σ H :=
  ifs_ex (D := { D with nx := r D }) h hR

theorem drop_ints (xs : List Int) (k : Nat) : (xs.map V.int).drop k = (xs.drop k).map V.int := by rw [List.map_drop]
theorem take_ints (xs : List Int) (k : Nat) : (xs.map V.int).take k = (xs.take k).map V.int := by rw [List.map_take]
theorem cut_to1 (xs : List Int) (c : Nat) : cutV (xs.map V.int) none (some ((c : Int) + 1)) = (xs.take (c + 1)).map V.int := by
  rw [show ((c : Int) + 1) = ((c + 1 : Nat) : Int) from rfl, cut_to, take_ints]
theorem cut_from1 (xs : List Int) (c : Nat) : cutV (xs.map V.int) (some ((c : Int) + 1)) none = (xs.drop (c + 1)).map V.int := by
  rw [show ((c : Int) + 1) = ((c + 1 : Nat) : Int) from rfl, cut_from, drop_ints]
theorem red_ne {c n : Nat} {odds row : List Int} (h1 : odds.length = n) (h2 : row.length = n) (h : 0 < n) : redF c odds row ≠ [] := fun z => by
  have := red_len (c := c) h1 h2
  rw [z] at this
  simp at this
  omega
section
variable {P : Program} {w : World} {K : PySem.W.Frag} {mg : Str → Option Value} {base : Heap}
end

/-- the odd part -/
def oddN (n : Nat) : Nat := if h : 0 < n ∧ n % 2 = 0 then oddN (n / 2) else n
termination_by n
decreasing_by omega
theorem odd_eq (n : Nat) : oddN n = if 0 < n ∧ n % 2 = 0 then oddN (n / 2) else n := by
  rw [oddN]
  split <;> rfl
theorem odd_ok : ∀ (m n : Nat), n ≤ m → 0 < n → (∃ k, n = 2 ^ k * oddN n) ∧ oddN n % 2 = 1 ∧ 0 < oddN n ∧ oddN n ≤ n
  | 0, n, h, p => by omega
  | m + 1, n, h, p => by
    rw [odd_eq]
    by_cases e : 0 < n ∧ n % 2 = 0
    · rw [if_pos e]
      obtain ⟨⟨k, hk⟩, a, b, c⟩ := odd_ok m (n / 2) (by omega) (by omega)
      refine ⟨⟨k + 1, ?_⟩, a, b, by omega⟩
      rw [Nat.pow_succ, Nat.mul_comm (2 ^ k), Nat.mul_assoc, ← hk]
      omega
    · rw [if_neg e]
      exact ⟨⟨0, by simp⟩, by omega, p, Nat.le_refl _⟩
def oddI (n : Int) : Int := (oddN n.toNat : Nat)
/-- differences from the first target -/
def diffL (a b : List Int) : List Int := List.zipWith (fun x y => x - y) a b
def rowsF (t0 : List Int) (ts : List (List Int)) : List (List Int) := ts.map fun t => diffL t t0
/-- all free shifts, by a triangular basis -/
def shiftB (ns : List Int) (tss : List (List Int)) : List (List Int) := basisF (ns.map oddI) (rowsF (tss.headD []) tss.tail)
theorem pow2_inj : ∀ (k j : Nat) (a b : Int), a % 2 = 1 → b % 2 = 1 → 2 ^ k * a = 2 ^ j * b → a = b
  | 0, 0, a, b, _, _, h => by simpa using h
  | 0, j + 1, a, b, ha, _, h => by
    rw [Int.pow_succ, Int.mul_comm ((2 : Int) ^ j), Int.mul_assoc] at h
    simp at h
    omega
  | k + 1, 0, a, b, _, hb, h => by
    rw [Int.pow_succ, Int.mul_comm ((2 : Int) ^ k), Int.mul_assoc] at h
    simp at h
    omega
  | k + 1, j + 1, a, b, ha, hb, h => by
    rw [Int.pow_succ, Int.pow_succ, Int.mul_comm ((2 : Int) ^ k), Int.mul_comm ((2 : Int) ^ j), Int.mul_assoc, Int.mul_assoc] at h
    exact pow2_inj k j a b ha hb (by omega)
theorem oddI_ok {n : Int} (h : 1 ≤ n) : (∃ k : Nat, n = 2 ^ k * oddI n) ∧ oddI n % 2 = 1 ∧ 0 < oddI n ∧ oddI n ≤ n := by
  obtain ⟨⟨k, hk⟩, a, b, c⟩ := odd_ok n.toNat n.toNat (Nat.le_refl _) (by omega)
  refine ⟨⟨k, ?_⟩, by unfold oddI; omega, by unfold oddI; omega, by unfold oddI; omega⟩
  have : (n.toNat : Int) = ((2 ^ k * oddN n.toNat : Nat) : Int) := congrArg Nat.cast hk
  rw [Int.natCast_mul, Int.natCast_pow] at this
  unfold oddI
  rw [← show ((2 : Nat) : Int) = 2 from rfl, ← this]
  omega
theorem oddI_uniq {n o : Int} {k : Nat} (h : 1 ≤ n) (e : n = 2 ^ k * o) (ho : o % 2 = 1) : o = oddI n := by
  obtain ⟨⟨j, hj⟩, a, _, _⟩ := oddI_ok h
  exact pow2_inj k j o (oddI n) ho a (by rw [← e, ← hj])
theorem mb80 {n : Int} (h0 : 0 ≤ n) (h : n ≤ 10 ^ 80) : n.natAbs < MB := by
  have : (10 : Int) ^ 80 < 2 ^ 270 := by decide +kernel
  have e : ((2 ^ 270 : Nat) : Int) = (2 : Int) ^ 270 := by simp
  show n.natAbs < 2 ^ 270
  omega
abbrev SzC (ns : List Int) : Prop := ∀ n ∈ ns, n ≤ 10 ^ 80
theorem odds_b {ns : List Int} (ok : SzOk ns) (hB : SzC ns) : OddB MB ns.length (ns.map oddI) := by
  refine ⟨by simp, fun j hj => ?_, fun j => ?_, mb_pos⟩
  · have e : (ns.map oddI)[j]? = some (oddI ns[j]) := by rw [List.getElem?_map, List.getElem?_eq_getElem hj]; rfl
    rw [vf_at e]
    exact (oddI_ok (ok.one _ (List.getElem_mem hj))).2.2.1
  · by_cases hj : j < ns.length
    · have e : (ns.map oddI)[j]? = some (oddI ns[j]) := by rw [List.getElem?_map, List.getElem?_eq_getElem hj]; rfl
      rw [vf_at e]
      have o := oddI_ok (ok.one _ (List.getElem_mem hj))
      exact mb80 (by omega) (Int.le_trans o.2.2.2 (hB _ (List.getElem_mem hj)))
    · rw [vf_ge (by simp; omega)]
      exact mb_pos
theorem diff_len {a b : List Int} {n : Nat} (h1 : a.length = n) (h2 : b.length = n) : (diffL a b).length = n := by simp [diffL, h1, h2]
theorem diff_vf {a b : List Int} (h : a.length = b.length) : vf (diffL a b) = fun i => vf a i - vf b i := by
  have e : diffL a b = axpy 1 a b := by
    unfold diffL axpy
    congr 1
    funext x y
    simp
  rw [e, axpy_vf h]
  funext i
  simp
theorem seat_vf {ns ps : List Int} (sk : SeatOk ns ps) (hB : SzC ns) (j : Nat) : 0 ≤ vf ps j ∧ (vf ps j).natAbs < MB ∧ vf ps j ≤ 10 ^ 80 := by
  by_cases hj : j < ps.length
  · have hn : ns[j]? = some (ns[j]'(by rw [← sk.len]; exact hj)) := List.getElem?_eq_getElem _
    have hp : ps[j]? = some ps[j] := List.getElem?_eq_getElem hj
    obtain ⟨a, b⟩ := sk.at hn hp
    rw [vf_at hp]
    have := hB _ (List.mem_of_getElem? hn)
    exact ⟨a, mb80 a (by omega), by omega⟩
  · rw [vf_ge (by omega)]
    exact ⟨Int.le_refl _, mb_pos, by decide⟩
theorem diff_b {ns ps qs : List Int} (sp : SeatOk ns ps) (sq : SeatOk ns qs) (hB : SzC ns) : RowB MB ns.length 0 (diffL ps qs) := by
  have lp := sp.len
  have lq := sq.len
  refine ⟨diff_len lp lq, fun j hj => absurd hj (by omega), fun j => ?_⟩
  rw [diff_vf (by omega)]
  obtain ⟨a, b, c⟩ := seat_vf sp hB j
  obtain ⟨d, e, f⟩ := seat_vf sq hB j
  show (vf ps j - vf qs j).natAbs < MB
  omega
theorem rows_b {ns : List Int} {tss : List (List Int)} (hB : SzC ns) (ne : tss ≠ []) (sks : ∀ ts ∈ tss, SeatOk ns ts) : ∀ r ∈ rowsF (tss.headD []) tss.tail, RowB MB ns.length 0 r := by
  intro r hr
  obtain ⟨t, ht, rfl⟩ := List.mem_map.mp hr
  cases tss with
  | nil => exact absurd rfl ne
  | cons t0 ts => exact diff_b (sks t (List.mem_cons_of_mem _ ht)) (sks t0 List.mem_cons_self) hB
/-- what the law of a basis needs -/
theorem shift_ok {ns : List Int} {tss : List (List Int)} (ok : SzOk ns) (hB : SzC ns) (ne : tss ≠ []) (sks : ∀ ts ∈ tss, SeatOk ns ts) :
    (shiftB ns tss).length = ns.length ∧ Tri ns.length (shiftB ns tss) ∧ (∀ v, Lat (rowsG (shiftB ns tss)) v ↔ Lat (shG (rowsF (tss.headD []) tss.tail) 0 ns.length (ns.map oddI)) v) ∧ ∀ r ∈ shiftB ns tss, RowB MB ns.length 0 r := by
  have o := odds_b ok hB
  have rb := rows_b hB ne sks
  obtain ⟨a, b, c⟩ := basis_ok o.len (nz_of o) fun r hr => (rb r hr).len
  exact ⟨a, b, c, basis_b o rb⟩

section
variable {P : Program} {w : World} {K : PySem.W.Frag} {mg : Str → Option Value} {base : Heap}
end

theorem lget {rows : List (List Int)} {i : Nat} {r : List Int} (h : rows[i]? = some r) : rows.getD i [] = r := by rw [List.getD_eq_getElem?_getD, h]; rfl
def dpre (B : List (List Int)) : Nat → Int
  | 0 => 1
  | k + 1 => dpre B k * vf (B.getD k []) k
theorem dpre_all (B : List (List Int)) : ∀ k, k ≤ B.length → dpre B k * diagP k (B.drop k) = diagP 0 B
  | 0, _ => by rw [List.drop_zero]; show 1 * _ = _; rw [Int.one_mul]
  | k + 1, h => by
    have hd : B.drop k = B[k]'(by omega) :: B.drop (k + 1) := List.drop_eq_getElem_cons (by omega)
    have ih := dpre_all B k (by omega)
    rw [hd] at ih
    rw [← ih]
    show dpre B k * vf (B.getD k []) k * _ = dpre B k * (vf (B[k]'(by omega)) k * _)
    rw [lget (List.getElem?_eq_getElem (show k < B.length by omega)), Int.mul_assoc]
theorem dpre_full (B : List (List Int)) : dpre B B.length = diagP 0 B := by
  have := dpre_all B B.length (Nat.le_refl _)
  rw [List.drop_length] at this
  show dpre B B.length = _
  rw [← this]
  show _ = _ * 1
  rw [Int.mul_one]
theorem dpre_small {B : List (List Int)} {n : Nat} (hb : ∀ r ∈ B, RowB MB n 0 r) : ∀ k, (dpre B k).natAbs < 2 ^ (1 + 270 * k)
  | 0 => by show (1 : Int).natAbs < 2 ^ 1; decide
  | k + 1 => by
    show (dpre B k * vf (B.getD k []) k).natAbs < _
    have h1 := dpre_small hb k
    have h2 : (vf (B.getD k []) k).natAbs < 2 ^ 270 := by
      by_cases hk : k < B.length
      · rw [lget (List.getElem?_eq_getElem hk)]
        exact (hb _ (List.getElem_mem hk)).small k
      · rw [List.getD_eq_getElem?_getD, List.getElem?_eq_none (by omega)]
        show (vf [] k).natAbs < _
        rw [vf_nil]
        exact Nat.pos_of_neZero _
    have := wide_lt h1 h2
    rw [show 1 + 270 * (k + 1) = 1 + 270 * k + 270 by omega]
    exact this
/-- one step of an elimination stays small -/
theorem axpy_small {a : Nat} {q : Int} {v b : List Int} (l : v.length = b.length) (hv : ∀ j, (vf v j).natAbs < 2 ^ a) (hq : q.natAbs < 2 ^ a) (hb : ∀ j, (vf b j).natAbs < 2 ^ 270) (j : Nat) : (vf (axpy q v b) j).natAbs < 2 ^ (a + 271) := by
  rw [axpy_vf l]
  show (vf v j - q * vf b j).natAbs < _
  have h1 := wide_lt hq (hb j)
  have h2 := hv j
  have h3 : (2 : Nat) ^ (a + 271) = 2 ^ (a + 270) + 2 ^ (a + 270) := by
    rw [show a + 271 = a + 270 + 1 from rfl, Nat.pow_succ]
    omega
  have h4 : (2 : Nat) ^ a ≤ 2 ^ (a + 270) := Nat.pow_le_pow_right (by decide) (by omega)
  omega
theorem div_small {x y : Int} {a : Nat} (h : x.natAbs < 2 ^ a) (hy : 0 < y) : (x / y).natAbs < 2 ^ a := by
  refine Nat.lt_of_le_of_lt ?_ h
  have h1 := Int.mul_ediv_add_emod x y
  have h2 := Int.emod_nonneg x (show y ≠ 0 by omega)
  have h3 := Int.emod_lt_of_pos x hy
  rcases Int.lt_or_le x 0 with hx | hx
  · have h4 : x / y < 0 := Int.ediv_neg_of_neg_of_pos hx hy
    have h5 : x ≤ x / y := by
      have : y * (x / y) ≤ 1 * (x / y) := Int.mul_le_mul_of_nonpos_right (by omega) (by omega)
      have h6 : x - y < y * (x / y) := by omega
      have h7 : y * (x / y + 1) = y * (x / y) + y := by rw [Int.mul_add, Int.mul_one]
      rcases Int.lt_or_le (x / y) x with z | z
      · exfalso
        have h8 : x / y + 1 ≤ x := by omega
        have h9 : y * (x / y + 1) ≤ 1 * (x / y + 1) := Int.mul_le_mul_of_nonpos_right (by omega) (by omega)
        omega
      · exact z
    omega
  · have h4 : 0 ≤ x / y := Int.ediv_nonneg hx (by omega)
    have h5 : x / y ≤ x := Int.ediv_le_self y hx
    omega
theorem free_cons (i : Nat) (b : List Int) (B : List (List Int)) (v : List Int) : freeF i (b :: B) v = if vf v i % vf b i ≠ 0 then false else freeF (i + 1) B (axpy (vf v i / vf b i) v b) := rfl
section
variable {P : Program} {w : World} {K : PySem.W.Frag} {mg : Str → Option Value} {base : Heap}
end

theorem coord_cons (i : Nat) (b : List Int) (B : List (List Int)) (v : List Int) : coordF i (b :: B) v = vf v i / vf b i :: coordF (i + 1) B (axpy (vf v i / vf b i) v b) := rfl
/-- Σ w * x -/
def wsum (ws xs : List Int) : Int := (List.zipWith (fun w x => w * x) ws xs).sum
section
variable {P : Program} {w : World} {K : PySem.W.Frag} {mg : Str → Option Value} {base : Heap}
end

def wtsF (B : List (List Int)) (n i : Nat) : List Int := (List.range n).map fun k => vf (colsF B n k) i % diagP 0 B
def gcdF (D : Int) (ws : List Int) : Int := ws.foldl (fun g w => gcdI g w) D
def sepI (B : List (List Int)) (n : Nat) (v : List Int) : Option Nat := (List.range n).find? fun i => decide (wsum (wtsF B n i) v % diagP 0 B ≠ 0)
def witM (B : List (List Int)) (n i : Nat) : Int := diagP 0 B / gcdF (diagP 0 B) (wtsF B n i)
def witW (B : List (List Int)) (n i : Nat) : List Int := (wtsF B n i).map fun w => w / gcdF (diagP 0 B) (wtsF B n i)
theorem wts_len (B : List (List Int)) (n i : Nat) : (wtsF B n i).length = n := by simp [wtsF]
theorem wts_at {B : List (List Int)} {n i k : Nat} (h : k < n) : (wtsF B n i)[k]? = some (vf (colsF B n k) i % diagP 0 B) := by
  unfold wtsF
  rw [List.getElem?_map, List.getElem?_range h]
  rfl
theorem wts_mem {B : List (List Int)} {n i : Nat} (h : 0 < diagP 0 B) {x : Int} (hx : x ∈ wtsF B n i) : 0 ≤ x ∧ x < diagP 0 B := by
  obtain ⟨k, _, rfl⟩ := List.mem_map.mp hx
  exact ⟨Int.emod_nonneg _ (by omega), Int.emod_lt_of_pos _ h⟩
theorem gcdF_snoc (D : Int) (ws : List Int) (x : Int) : gcdF D (ws ++ [x]) = gcdI (gcdF D ws) x := by
  unfold gcdF
  rw [List.foldl_append]
  rfl
theorem gcdF_pos : ∀ (ws : List Int) {D : Int}, 0 < D → 0 < gcdF D ws ∧ gcdF D ws ≤ D ∧ gcdF D ws ∣ D ∧ ∀ x ∈ ws, gcdF D ws ∣ x
  | [], D, h => ⟨h, Int.le_refl _, Int.dvd_refl _, by simp⟩
  | x :: ws, D, h => by
    have g0 : 0 < gcdI D x := by
      have := Int.gcd_pos_of_ne_zero_left (a := D) x (by omega)
      show (0 : Int) < ((Int.gcd D x : Nat) : Int)
      omega
    have gl : gcdI D x ∣ D := Int.gcd_dvd_left D x
    obtain ⟨a, b, c, d⟩ := gcdF_pos ws g0
    refine ⟨a, Int.le_trans b (Int.le_of_dvd h gl), Int.dvd_trans c gl, fun y hy => ?_⟩
    rcases List.mem_cons.mp hy with rfl | hy
    · exact Int.dvd_trans c (Int.gcd_dvd_right D y)
    · exact d y hy
theorem tri_D {n : Nat} {B : List (List Int)} (lB : B.length = n) (tri : Tri n B) : 0 < diagP 0 B := by
  have := diag_pos tri n 0 (by omega)
  rwa [List.drop_zero] at this
theorem small_D {n : Nat} {B : List (List Int)} (lB : B.length = n) (n4 : n ≤ 4) (hb : ∀ r ∈ B, RowB MB n 0 r) : (diagP 0 B).natAbs < 2 ^ 1090 := by
  rw [← dpre_full]
  exact lt_pow (dpre_small hb B.length) (by omega)
theorem ite_if {c : Prop} [Decidable c] {a b : Int} : V.int (if c then a else b) = if c then V.int a else V.int b := by split <;> rfl
section
variable {P : Program} {w : World} {K : PySem.W.Frag} {mg : Str → Option Value} {base : Heap}
end

/-! ### what reach answers -/
/-- the differences of a seat from the first target -/
theorem tell_sep {n : Nat} {B : List (List Int)} {v : List Int} (lv : v.length = n) (i : Nat) : diagP 0 B ∣ wsum (wtsF B n i) v - tellF B n (vf v) i := by
  have key : ∀ (m : Nat) (xs : List Int), xs.length = m → ∀ f g : Nat → Int, (∀ k, diagP 0 B ∣ f k - g k) → diagP 0 B ∣ (List.zipWith (fun w x => w * x) ((List.range m).map f) xs).sum - sumN m fun k => vf xs k * g k := by
    intro m
    induction m with
    | zero =>
      intro xs _ f g _
      simp [sumN]
    | succ m ih =>
      intro xs lx f g hfg
      cases xs with
      | nil => simp at lx
      | cons x xs =>
        rw [List.range_succ_eq_map, List.map_cons, List.map_map, List.zipWith_cons_cons, List.sum_cons, sumN_head]
        have h1 := ih xs (Nat.succ.inj lx) (f ∘ Nat.succ) (fun k => g (k + 1)) (fun k => hfg (k + 1))
        have h2 : diagP 0 B ∣ (f 0 - g 0) * x := Int.dvd_mul_of_dvd_left (hfg 0)
        have h3 := Int.dvd_add h2 h1
        refine (congrArg (diagP 0 B ∣ ·) ?_).mp h3
        have e1 : vf (x :: xs) 0 = x := rfl
        have e2 : (sumN m fun i => vf (x :: xs) (i + 1) * g (i + 1)) = sumN m fun k => vf xs k * g (k + 1) := rfl
        rw [e1, e2]
        grind
  exact key n v lv _ _ fun k => by
    have := Int.mul_ediv_add_emod (vf (colsF B n k) i) (diagP 0 B)
    exact ⟨-(vf (colsF B n k) i / diagP 0 B), by grind⟩
theorem sep_none {n : Nat} {B : List (List Int)} (lB : B.length = n) (tri : Tri n B) {v : List Int} (lv : v.length = n) (h : sepI B n v = none) : Lat (rowsG B) (vf v) := by
  refine tell_in lB tri (fun j hj => vf_ge (by omega)) fun i hi => ?_
  unfold sepI at h
  have h1 := List.find?_eq_none.mp h i (List.mem_range.mpr hi)
  have h2 : wsum (wtsF B n i) v % diagP 0 B = 0 := by simpa using h1
  have h3 := tell_sep (B := B) lv i
  have h4 := Int.dvd_sub (Int.dvd_of_emod_eq_zero h2) h3
  exact (congrArg (diagP 0 B ∣ ·) (by omega)).mp h4
theorem sep_of {n : Nat} {B : List (List Int)} (lB : B.length = n) (tri : Tri n B) {v : List Int} (lv : v.length = n) (h : freeF 0 B v = false) : ∃ i, sepI B n v = some i ∧ i < n := by
  cases e : sepI B n v with
  | none =>
    have := (free_iff lB tri lv).mpr (sep_none lB tri lv e)
    rw [h] at this
    cases this
  | some i => exact ⟨i, rfl, List.mem_range.mp (List.mem_of_find?_eq_some e)⟩
section
variable {P : Program} {w : World} {K : PySem.W.Frag} {mg : Str → Option Value} {base : Heap}
end

/-- a source of draws stands at s -/
def Src (H : Hp) (s : Addr) : Prop := ∃ a b c : Int, H s = some (.lst [.int a, .int b, .int c])
theorem Src.mono {s : Addr} {H H2 : Hp} (e : Ex H H2) (h : Src H s) : Src H2 s := by
  obtain ⟨a, b, c, h⟩ := h
  exact ⟨a, b, c, e _ _ h⟩
theorem Src.ne {s p : Addr} {H : Hp} (h : Src H s) (hp : H p = none) : p ≠ s := by
  obtain ⟨a, b, c, h⟩ := h
  exact (ne_of_none h hp).symm
theorem Src.new {s p : Addr} {H : Hp} {o : HO} (h : Src H s) (hp : H p = none) : Src (upd H p o) s := Src.mono (exn hp) h
section
variable {P : Program} {w : World} {K : PySem.W.Frag} {mg : Str → Option Value} {base : Heap}
def sp_law_mix : Sp := fun vs H Q _ => ∃ c d : Int, vs = [.int c, .int d] ∧ ∀ r : Int, 0 ≤ r → r < 2147483563 → Q (.int r) H
theorem ok_law_mix (T : TX K mg) : FnOk P w K mg base CX0 1 T.f_law_mix T.fd_law_mix ["_law_cell", "_law_step"] sp_law_mix := by
  refine T.F_law_mix.ok sc_law_mix (fun vs H Q E h => ?_) (fun cdv A outer s H vs Q E hr h => ?_)
  · obtain ⟨c, d, rfl, _⟩ := h
    rfl
  · obtain ⟨c, d, rfl, k⟩ := h
    refine ⟨_, (pss_cons (ps_set (i := 2) sc_law_mix.nd rfl (Or.inl rfl) (pe_op op_mod (pe_op op_mulI (pe_op op_add (pe_op op_mod (pv 0) pe_int) pe_int) (pe_op op_add (pe_op op_mulI (pv 1) pe_int) pe_int)) pe_int)) (pss_cons (ps_set (i := 2) sc_law_mix.nd rfl (Or.inl rfl) (pe_op op_mod (pe_op op_mulI (pe_op op_add (pv 2) (pe_op op_mulI (pe_op op_mod (pe_op op_fdivW (pv 0) pe_int) pe_int) (pe_op op_add (pv 1) pe_int))) pe_int) pe_int)) (pss_cons (ps_set (i := 2) sc_law_mix.nd rfl (Or.inl rfl) (pe_op op_mod (pe_op op_mulI (pv 2) (pe_op op_add (pe_op op_add (pe_op op_fdivW (pv 2) pe_int) pe_int) (pv 1))) pe_int)) (pss_one (ps_ret (pe_op op_mod (pe_op op_mulI (pv 2) (pe_op op_add (pe_op op_fdivW (pv 2) pe_int) pe_int)) pe_int)))))), ?_⟩
    have a1 := mod_lo (i := c) (n := 2147483646) (by decide)
    have a2 := mod_hi (i := c) (n := 2147483646) (by decide)
    refine ⟨_, rfl, _, _, rfl, rfl, (by show (0 : Int) < _; decide), _, _, rfl, rfl, _, rfl, _, _, rfl, rfl, mul_ok (.inr (by decide)), _, _, rfl, rfl, _, _, rfl, rfl, mul_ok (.inl (by omega)), _, _, rfl, rfl, (by show (0 : Int) < _; decide), ?_⟩
    generalize (c % 2147483646 + 1) * (d * 7919 + 104729) % 2147483647 = n1
    have b1 := mod_lo (i := c / 2147483646) (n := 1000003) (by decide)
    have b2 := mod_hi (i := c / 2147483646) (n := 1000003) (by decide)
    refine ⟨_, rfl, _, rfl, _, _, rfl, rfl, ⟨by decide, by decide +kernel⟩, _, _, rfl, rfl, (by show (0 : Int) < _; decide), _, rfl, _, _, rfl, rfl, _, _, rfl, rfl, mul_ok (.inl (by omega)), _, _, rfl, rfl, _, _, rfl, rfl, mul_ok (.inr (by decide)), _, _, rfl, rfl, (by show (0 : Int) < _; decide), ?_⟩
    have c1 := mod_lo (i := (n1 + c / 2147483646 % 1000003 * (d + 31)) * 48271) (n := 2147483629) (by decide)
    have c2 := mod_hi (i := (n1 + c / 2147483646 % 1000003 * (d + 31)) * 48271) (n := 2147483629) (by decide)
    generalize (n1 + c / 2147483646 % 1000003 * (d + 31)) * 48271 % 2147483629 = n2 at c1 c2
    refine ⟨_, rfl, _, rfl, _, _, rfl, rfl, ⟨by decide, by decide +kernel⟩, _, _, rfl, rfl, _, rfl, _, _, rfl, rfl, _, _, rfl, rfl, mul_ok (.inl (by omega)), _, _, rfl, rfl, (by show (0 : Int) < _; decide), ?_⟩
    have d1 := mod_lo (i := n2 * (n2 / 1013 + 69621 + d)) (n := 2147483587) (by decide)
    have d2 := mod_hi (i := n2 * (n2 / 1013 + 69621 + d)) (n := 2147483587) (by decide)
    generalize n2 * (n2 / 1013 + 69621 + d) % 2147483587 = n3 at d1 d2
    exact ⟨_, rfl, _, rfl, _, _, rfl, rfl, ⟨by decide, by decide +kernel⟩, _, _, rfl, rfl, _, _, rfl, rfl, mul_ok (.inl (by omega)), _, _, rfl, rfl, (by show (0 : Int) < _; decide), k _ (mod_lo (by decide)) (mod_hi (by decide))⟩
def sp_law_source : Sp := fun vs H Q _ => ∃ c : Int, vs = [.int c] ∧ ∀ H2 s, Ex H H2 → H s = none → Src H2 s → Q (.ref s) H2
theorem ok_law_source (T : TX K mg) : FnOk P w K mg base CX0 1 T.f_law_source T.fd_law_source ["_law_cell"] sp_law_source := by
  refine T.F_law_source.ok sc_law_source (fun vs H Q E h => ?_) (fun cdv A outer s H vs Q E hr h => ?_)
  · obtain ⟨c, rfl, _⟩ := h
    rfl
  · obtain ⟨c, rfl, k⟩ := h
    exact ⟨_, (pss_one (ps_ret (pe_lst (pa_cons (pv 0) (pa_cons (pv 0) (pa_cons pe_int pa_nil)))))), ⟨_, rfl, _, rfl, (by show 3 ≤ sizeLine; decide), fun s hs => k _ s (exn hs) hs ⟨c, c, 0, upd_same⟩⟩⟩
def sp_law_draw : Sp := fun vs H Q _ => ∃ (s : Addr) (n : Int), vs = [.ref s, .int n] ∧ Src H s ∧ 0 < n ∧ n.natAbs < 2 ^ 8000 ∧ ∀ r H2, 0 ≤ r → r < n → XB s H H2 → Src H2 s → Q (.int r) H2
theorem ok_law_draw (T : TX K mg) : FnOk P w K mg base CX0 2 T.f_law_draw T.fd_law_draw ["_law_source_here", "_law_bound"] sp_law_draw := by
  refine T.F_law_draw.ok sc_law_draw (fun vs H Q E h => ?_) (fun cdv A outer s H vs Q E hr h => ?_)
  · obtain ⟨s, n, rfl, _⟩ := h
    rfl
  · obtain ⟨s, n, rfl, ⟨a, b, c, hs⟩, h0, hb, k⟩ := h
    refine ⟨_, (pss_cons (ps_if (pt_cmpR op_ge (pe_ix ix_list (pv 0) pe_int (fun _ _ => rfl)) (pe_op op_pow pe_int pe_int) (nomark _)) (pss_cons (ps_set (i := 2) sc_law_draw.nd rfl (Or.inl rfl) (pe_op op_mod (pe_ix ix_list (pv 0) pe_int (fun _ _ => rfl)) (pv 1))) (pss_cons (ps_asg (pe_op op_fdivW (pe_ix ix_list (pv 0) pe_int (fun _ _ => rfl)) (pv 1)) (pg_sub (pv 0) pe_int set_list)) (pss_one (ps_ret (pv 2))))) pss_nil) (pss_cons (ps_asg (pe_op op_add (pe_ix ix_list (pv 0) pe_int (fun _ _ => rfl)) pe_int) (pg_sub (pv 0) pe_int set_list)) (pss_one (ps_ret (pe_op op_mod (pe_call (ok_law_mix T) hr rfl T.m_law_mix T.F_law_mix.kp T.b_law_mix .nil pass0 (pa_cons (pe_ix ix_list (pv 0) pe_int (fun _ _ => rfl)) (pa_cons (pe_ix ix_list (pv 0) pe_int (fun _ _ => rfl)) pa_nil))) (pv 1)))))), ?_⟩
    refine ⟨_, rfl, s, _, _, _, rfl, rfl, SqL.of hs, rfl, _, _, rfl, rfl, ⟨by decide, by decide, by decide⟩, _, _, rfl, rfl, _, rfl, ?_⟩
    refine ite2 (fun _ => ?_) (fun _ => ?_)
    · refine ⟨_, rfl, s, _, _, _, rfl, rfl, SqL.of hs, rfl, _, rfl, _, _, rfl, rfl, h0, ?_⟩
      refine ⟨_, rfl, s, _, _, _, rfl, rfl, SqL.of hs, rfl, _, rfl, _, _, rfl, rfl, wide_div h0 hb (by decide) (by decide), _, rfl, s, _, _, 0, rfl, rfl, hs, rfl, ?_⟩
      exact ⟨_, rfl, k _ _ (mod_lo h0) (mod_hi h0) XB.upd ⟨_, _, _, upd_same⟩⟩
    · refine ⟨_, rfl, s, _, _, _, rfl, rfl, SqL.of hs, rfl, _, _, rfl, rfl, _, rfl, s, _, _, 2, rfl, rfl, hs, rfl, ?_⟩
      refine ⟨_, rfl, s, _, _, _, rfl, rfl, SqL.of upd_same, rfl, _, rfl, s, _, _, _, rfl, rfl, SqL.of upd_same, rfl, _, _, rfl, fun r _ _ => ?_⟩
      exact ⟨_, rfl, _, _, rfl, rfl, h0, k _ _ (mod_lo h0) (mod_hi h0) XB.upd ⟨_, _, _, upd_same⟩⟩
end

theorem XB.src {s : Addr} {H H2 H3 : Hp} (xb : XB s H H2) (e : Ex H2 H3) : XB s H H3 := xb.trans (XB.of e)
/-- an appended list D, new behind H, beside the source s -/
theorem XB.app {s D : Addr} {H H2 : Hp} {o : HO} (xb : XB s H H2) (hD : H D = none) : XB s H (L2.upd H2 D o) := fun c u n z => by
  rw [upd_ne (ne_of_none z hD)]
  exact xb c u n z
theorem Src.app {s D : Addr} {H : Hp} {o : HO} (h : Src H s) (n : D ≠ s) : Src (upd H D o) s := by
  obtain ⟨a, b, c, z⟩ := h
  exact ⟨a, b, c, by rw [upd_ne n.symm]; exact z⟩
theorem atI_nat {α : Type} {xs : List α} {r : Int} (r0 : 0 ≤ r) (r1 : r < xs.length) : ∃ v, atI xs r = some v ∧ v ∈ xs := by
  have h : r.toNat < xs.length := by omega
  refine ⟨xs[r.toNat], ?_, List.getElem_mem h⟩
  unfold atI ixN
  rw [if_pos r0, if_pos r1]
  show xs[r.toNat]? = _
  rw [List.getElem?_eq_getElem h]
theorem prodL_snoc (ns : List Int) (n : Int) : ns.foldl (fun p n => p * n) 1 * n = (ns ++ [n]).foldl (fun p n => p * n) 1 := by
  rw [List.foldl_append]
  rfl
theorem SeatOk.snoc : ∀ {ns ps : List Int} {n p : Int}, SeatOk ns ps → 0 ≤ p → p < n → SeatOk (ns ++ [n]) (ps ++ [p])
  | [], [], _, _, _, h0, h1 => ⟨⟨h0, h1⟩, True.intro⟩
  | _ :: _, _ :: _, _, _, h, h0, h1 => ⟨h.1, SeatOk.snoc h.2 h0 h1⟩
theorem abs30 {n : Int} (h1 : 1 ≤ n) (h2 : n ≤ 10 ^ 30) : n.natAbs < 2 ^ 100 := by
  have : (10 : Int) ^ 30 < 2 ^ 100 := by decide +kernel
  omega
theorem tup_xb {s q : Addr} {H H2 : Hp} {xs : List V} (src : Src H s) (h : H q = some (.tup xs)) (xb : XB s H H2) : H2 q = some (.tup xs) := by
  obtain ⟨a, b, c, z⟩ := src
  exact xb _ _ (ne_of h z (by intro q; cases q)) h
theorem TabAt.xb {C s a : Addr} {H H2 : Hp} {ns : List Int} (src : Src H s) (xb : XB s H H2) (h : TabAt C H a ns) : TabAt C H2 a ns := by
  obtain ⟨dx, t, h1, h2⟩ := h
  obtain ⟨x, y, c, z⟩ := src
  exact ⟨dx, t, xb _ _ (ne_of h1 z (by intro q; cases q)) h1, xb _ _ (ne_of h2 z (by intro q; cases q)) h2⟩
theorem RowsR.xb {s : Addr} {H H2 : Hp} {xs : List V} {tss : List (List Int)} (h : RowsR H xs tss) (src : Src H s) (xb : XB s H H2) : RowsR H2 xs tss := h.monoT fun _ _ z => tup_xb src z xb
theorem RowsAt.xb {s f : Addr} {H H2 : Hp} {tss : List (List Int)} (h : RowsAt H f tss) (n : f ≠ s) (src : Src H s) (xb : XB s H H2) : RowsAt H2 f tss := by
  obtain ⟨xs, h1, h2⟩ := h
  exact ⟨xs, xb _ _ n h1, h2.xb src xb⟩

/-! ### the witness that reach gives -/
structure WitOk (ns : List Int) (m : Int) (ws : List Int) (r : Int) : Prop where
  m3 : 3 ≤ m
  odd : m % 2 = 1
  r0 : 0 ≤ r
  r1 : r < m
  len : ws.length = ns.length
  w0 : ∀ x ∈ ws, 0 ≤ x ∧ x < m
  fit : ∀ (i : Nat) (x n : Int), ws[i]? = some x → ns[i]? = some n → x * n % m = 0
theorem wsum_cons (w : Int) (ws : List Int) (x : Int) (xs : List Int) : wsum (w :: ws) (x :: xs) = w * x + wsum ws xs := by
  unfold wsum
  rw [List.zipWith_cons_cons, List.sum_cons]
theorem wsum_diff : ∀ {ws a b : List Int}, a.length = ws.length → b.length = ws.length → wsum ws (diffL a b) = wsum ws a - wsum ws b
  | [], [], [], _, _ => rfl
  | w :: ws, x :: a, y :: b, h1, h2 => by
    have ih := wsum_diff (ws := ws) (a := a) (b := b) (Nat.succ.inj h1) (Nat.succ.inj h2)
    show wsum (w :: ws) ((x - y) :: diffL a b) = _
    rw [wsum_cons, wsum_cons, wsum_cons, ih]
    grind
theorem wsum_scale {g : Int} : ∀ {ws vs xs : List Int}, ws = vs.map (fun v => g * v) → wsum ws xs = g * wsum vs xs
  | _, [], xs, h => by
    subst h
    simp [wsum]
  | _, v :: vs, [], h => by
    subst h
    simp [wsum]
  | _, v :: vs, x :: xs, h => by
    subst h
    rw [List.map_cons, wsum_cons, wsum_cons, wsum_scale (vs := vs) (xs := xs) rfl]
    grind
theorem wsum_zero : ∀ {ws xs : List Int}, (∀ w ∈ ws, w = 0) → wsum ws xs = 0
  | [], _, _ => by simp [wsum]
  | _ :: _, [], _ => by simp [wsum]
  | w :: ws, x :: xs, h => by
    rw [wsum_cons, h w List.mem_cons_self, wsum_zero fun y hy => h y (List.mem_cons_of_mem _ hy)]
    simp
theorem wsum_unit : ∀ {ws : List Int} {n j : Nat} {x y : Int}, ws.length = n → j < n → ws[j]? = some x → wsum ws (unitL n j y) = x * y := by
  have key : ∀ (ws : List Int) (f : Nat → Int) , wsum ws ((List.range ws.length).map f) = sumN ws.length fun k => f k * vf ws k := by
    intro ws
    induction ws with
    | nil => intro f; rfl
    | cons w ws ih =>
      intro f
      rw [List.length_cons, List.range_succ_eq_map, List.map_cons, List.map_map, wsum_cons, sumN_head, ih (f ∘ Nat.succ)]
      show w * f 0 + _ = f 0 * w + _
      rw [Int.mul_comm w]
      rfl
  intro ws n j x y h hj hx
  subst h
  unfold unitL
  rw [key]
  have e : (sumN ws.length fun k => (if k = j then y else 0) * vf ws k) = sumN ws.length fun k => (y * vf ws k) * unitV k 1 j := sumN_congr fun k _ => by
    unfold unitV
    by_cases e : k = j
    · rw [if_pos e, if_pos e.symm, Int.mul_one]
    · rw [if_neg e, if_neg (fun z => e z.symm)]
      simp
  rw [e, sumN_unit (fun k => y * vf ws k) hj, vf_at hx, Int.mul_comm]
section
variable {ns : List Int} {tss : List (List Int)} (ok : SzOk ns) (hB : SzC ns) (ne : tss ≠ []) (sks : ∀ ts ∈ tss, SeatOk ns ts)
include ok hB ne sks
theorem unit_shift {j : Nat} (hj : j < ns.length) (k : Int) : Lat (rowsG (shiftB ns tss)) (unitV j (k * vf (ns.map oddI) j)) := by
  obtain ⟨_, _, s3, _⟩ := shift_ok ok hB ne sks
  refine (s3 _).mpr (((Lat.gen (G := shG (rowsF (tss.headD []) tss.tail) 0 ns.length (ns.map oddI)) (.inr ⟨j, Nat.zero_le _, hj, rfl⟩)).mul k).of_eq fun i => ?_)
  unfold unitV
  split <;> simp
theorem diag_odd : diagP 0 (shiftB ns tss) % 2 = 1 := by
  obtain ⟨s1, s2, _, _⟩ := shift_ok ok hB ne sks
  have key : ∀ (k i : Nat), i + k = ns.length → diagP i ((shiftB ns tss).drop i) % 2 = 1 := by
    intro k
    induction k with
    | zero =>
      intro i hi
      rw [List.drop_eq_nil_of_le (by omega)]
      rfl
    | succ k ih =>
      intro i hi
      have hb : (shiftB ns tss)[i]? = some ((shiftB ns tss)[i]'(by omega)) := List.getElem?_eq_getElem (by omega)
      rw [List.drop_eq_getElem_cons (by omega)]
      generalize (shiftB ns tss)[i]'(by omega) = b at hb
      have u := unit_shift ok hB ne sks (j := i) (by omega) 1
      have d := (tri_step s2 hb (tri_from s2 u i (by omega) fun j hj => by unfold unitV; rw [if_neg (by omega)])).1
      have e : unitV i (1 * vf (ns.map oddI) i) i = vf (ns.map oddI) i := by unfold unitV; rw [if_pos rfl, Int.one_mul]
      rw [e] at d
      have hn : ns[i]? = some (ns[i]'(by omega)) := List.getElem?_eq_getElem (by omega)
      have eo : vf (ns.map oddI) i = oddI (ns[i]'(by omega)) := vf_at (by rw [List.getElem?_map, hn]; rfl)
      have o1 := (oddI_ok (ok.one _ (List.getElem_mem (show i < ns.length by omega)))).2.1
      rw [eo] at d
      obtain ⟨c, hc⟩ := d
      have ih2 := ih (i + 1) (by omega)
      show vf b i * diagP (i + 1) ((shiftB ns tss).drop (i + 1)) % 2 = 1
      have ob : vf b i % 2 = 1 := by
        rcases Int.emod_two_eq (vf b i) with z | z
        · exfalso
          rw [hc, Int.mul_emod, z] at o1
          simp at o1
        · exact z
      rw [Int.mul_emod, ob, ih2]
      rfl
  have := key ns.length 0 (by omega)
  rwa [List.drop_zero] at this
/-- a difference in the lattice tells nothing -/
theorem tell_zero {v : List Int} (lv : v.length = ns.length) (h : Lat (rowsG (shiftB ns tss)) (vf v)) {i : Nat} (hi : i < ns.length) : diagP 0 (shiftB ns tss) ∣ wsum (wtsF (shiftB ns tss) ns.length i) v := by
  obtain ⟨s1, s2, _, _⟩ := shift_ok ok hB ne sks
  have h1 := tell_of s1 s2 lv h hi
  have h2 := tell_sep (B := shiftB ns tss) lv i
  exact (congrArg (diagP 0 (shiftB ns tss) ∣ ·) (by omega)).mp (Int.dvd_add h2 h1)
end
theorem wit_parts {B : List (List Int)} {n i : Nat} (D0 : 0 < diagP 0 B) : diagP 0 B = gcdF (diagP 0 B) (wtsF B n i) * witM B n i ∧ wtsF B n i = (witW B n i).map (fun v => gcdF (diagP 0 B) (wtsF B n i) * v) ∧ 0 < gcdF (diagP 0 B) (wtsF B n i) := by
  obtain ⟨g1, g2, g3, g4⟩ := gcdF_pos (wtsF B n i) D0
  refine ⟨?_, ?_, g1⟩
  · unfold witM
    rw [Int.mul_ediv_cancel' g3]
  · unfold witW
    rw [List.map_map]
    have h : (wtsF B n i).map ((fun v => gcdF (diagP 0 B) (wtsF B n i) * v) ∘ fun w => w / gcdF (diagP 0 B) (wtsF B n i)) = (wtsF B n i).map id := List.map_congr_left fun x hx => by
      show gcdF (diagP 0 B) (wtsF B n i) * (x / gcdF (diagP 0 B) (wtsF B n i)) = x
      rw [Int.mul_ediv_cancel' (g4 x hx)]
    rw [h, List.map_id]
/-- a multiple of the weights' sum: of the modulus or of the whole -/
theorem wit_dvd {B : List (List Int)} {n i : Nat} (D0 : 0 < diagP 0 B) (xs : List Int) : witM B n i ∣ wsum (witW B n i) xs ↔ diagP 0 B ∣ wsum (wtsF B n i) xs := by
  obtain ⟨e1, e2, g1⟩ := wit_parts (n := n) (i := i) D0
  rw [wsum_scale e2]
  constructor
  · intro h
    conv => lhs; rw [e1]
    exact Int.mul_dvd_mul (Int.dvd_refl _) h
  · intro h
    have h2 : gcdF (diagP 0 B) (wtsF B n i) * witM B n i ∣ gcdF (diagP 0 B) (wtsF B n i) * wsum (witW B n i) xs := by rw [← e1]; exact h
    exact Int.dvd_of_mul_dvd_mul_left (by omega) h2
section
variable {ns : List Int} {tss : List (List Int)} (ok : SzOk ns) (hB : SzC ns) (ne : tss ≠ []) (sks : ∀ ts ∈ tss, SeatOk ns ts)
include ok hB ne sks
theorem wit_ok {p : List Int} (sp : SeatOk ns p) {i : Nat} (hi : sepI (shiftB ns tss) ns.length (diffL p (tss.headD [])) = some i) :
    WitOk ns (witM (shiftB ns tss) ns.length i) (witW (shiftB ns tss) ns.length i) (wsum (witW (shiftB ns tss) ns.length i) (tss.headD []) % witM (shiftB ns tss) ns.length i) ∧
    (∀ t ∈ tss, wsum (witW (shiftB ns tss) ns.length i) t % witM (shiftB ns tss) ns.length i = wsum (witW (shiftB ns tss) ns.length i) (tss.headD []) % witM (shiftB ns tss) ns.length i) ∧
    wsum (witW (shiftB ns tss) ns.length i) p % witM (shiftB ns tss) ns.length i ≠ wsum (witW (shiftB ns tss) ns.length i) (tss.headD []) % witM (shiftB ns tss) ns.length i := by
  obtain ⟨s1, s2, s3, s4⟩ := shift_ok ok hB ne sks
  have D0 := tri_D s1 s2
  have od := diag_odd ok hB ne sks
  obtain ⟨e1, e2, g1⟩ := wit_parts (n := ns.length) (i := i) D0
  have wd := fun xs => wit_dvd (n := ns.length) (i := i) D0 xs
  have hin : i < ns.length := List.mem_range.mp (List.mem_of_find?_eq_some hi)
  have hsep : wsum (wtsF (shiftB ns tss) ns.length i) (diffL p (tss.headD [])) % diagP 0 (shiftB ns tss) ≠ 0 := by
    unfold sepI at hi
    exact of_decide_eq_true (p := wsum (wtsF (shiftB ns tss) ns.length i) (diffL p (tss.headD [])) % diagP 0 (shiftB ns tss) ≠ 0) (List.find?_some (p := fun i => decide (wsum (wtsF (shiftB ns tss) ns.length i) (diffL p (tss.headD [])) % diagP 0 (shiftB ns tss) ≠ 0)) hi)
  have lw : (witW (shiftB ns tss) ns.length i).length = ns.length := by simp [witW, wts_len]
  obtain ⟨t0, ts, ets⟩ : ∃ t0 ts, tss = t0 :: ts := by
    cases tss with
    | nil => exact absurd rfl ne
    | cons a b => exact ⟨a, b, rfl⟩
  have eh : tss.headD [] = t0 := by rw [ets]; rfl
  have sk0 : SeatOk ns t0 := sks t0 (by rw [ets]; exact List.mem_cons_self)
  have m0 : 0 < witM (shiftB ns tss) ns.length i := by
    rcases Int.lt_or_le 0 (witM (shiftB ns tss) ns.length i) with z | z
    · exact z
    · have := Int.mul_le_mul_of_nonneg_left z (show 0 ≤ gcdF (diagP 0 (shiftB ns tss)) (wtsF (shiftB ns tss) ns.length i) by omega)
      omega
  have mo : witM (shiftB ns tss) ns.length i % 2 = 1 := by
    rcases Int.emod_two_eq (witM (shiftB ns tss) ns.length i) with z | z
    · rw [e1, Int.mul_emod, z] at od
      simp at od
    · exact z
  have hsep2 : ¬ witM (shiftB ns tss) ns.length i ∣ wsum (witW (shiftB ns tss) ns.length i) (diffL p t0) := fun z => by
    rw [eh] at hsep
    exact hsep (Int.emod_eq_zero_of_dvd ((wd _).mp z))
  have m3 : 3 ≤ witM (shiftB ns tss) ns.length i := by
    have : witM (shiftB ns tss) ns.length i ≠ 1 := fun z => hsep2 (by rw [z]; exact Int.one_dvd _)
    omega
  have mdiff : ∀ a b : Int, a % witM (shiftB ns tss) ns.length i = b % witM (shiftB ns tss) ns.length i ↔ witM (shiftB ns tss) ns.length i ∣ a - b := fun a b => emod_eq_iff
  rw [eh]
  refine ⟨⟨m3, mo, Int.emod_nonneg _ (by omega), Int.emod_lt_of_pos _ m0, lw, fun x hx => ?_, fun j x n hx hn => ?_⟩, fun t ht => ?_, fun z => ?_⟩
  · unfold witW at hx
    obtain ⟨y, hy, rfl⟩ := List.mem_map.mp hx
    obtain ⟨y0, y1⟩ := wts_mem D0 hy
    refine ⟨Int.ediv_nonneg y0 (by omega), ?_⟩
    unfold witM
    obtain ⟨_, _, g3, g4⟩ := gcdF_pos (wtsF (shiftB ns tss) ns.length i) D0
    refine Int.lt_of_mul_lt_mul_left (a := gcdF (diagP 0 (shiftB ns tss)) (wtsF (shiftB ns tss) ns.length i)) ?_ (by omega)
    rw [Int.mul_ediv_cancel' g3, Int.mul_ediv_cancel' (g4 y hy)]
    exact y1
  · obtain ⟨hjn, hje⟩ := List.getElem?_eq_some_iff.mp hn
    refine Int.emod_eq_zero_of_dvd ?_
    have n1 := ok.one n (List.mem_of_getElem? hn)
    obtain ⟨⟨a, ha⟩, _⟩ := oddI_ok n1
    have eo : vf (ns.map oddI) j = oddI n := vf_at (by rw [List.getElem?_map, hn]; rfl)
    have u := unit_shift ok hB ne sks (j := j) hjn (2 ^ a)
    rw [eo, ← ha] at u
    have uv : vf (unitL ns.length j n) = unitV j n := unitL_vf hjn
    rw [← uv] at u
    have tz := tell_zero ok hB ne sks (by simp [unitL]) u hin
    have t2 := (wd _).mpr tz
    have key : wsum (witW (shiftB ns tss) ns.length i) (unitL ns.length j n) = x * n := wsum_unit lw hjn hx
    rw [key] at t2
    exact t2
  · refine (mdiff _ _).mpr ?_
    have skt := sks t ht
    rw [← wsum_diff (by rw [skt.len, lw]) (by rw [sk0.len, lw])]
    refine (wd _).mpr (tell_zero ok hB ne sks (diff_len skt.len sk0.len) ((s3 _).mpr ?_) hin)
    rw [ets] at ht
    rcases List.mem_cons.mp ht with rfl | ht
    · refine Lat.zero.of_eq fun j => ?_
      rw [diff_vf rfl]
      show (0 : Int) = vf t j - vf t j
      omega
    · refine Lat.gen (.inl ⟨diffL t t0, ?_, rfl⟩)
      rw [ets]
      exact List.mem_map.mpr ⟨t, ht, rfl⟩
  · refine hsep2 ?_
    rw [wsum_diff (by rw [sp.len, lw]) (by rw [sk0.len, lw])]
    exact (mdiff _ _).mp z
end

-- sorts
open PySem.W PySem.Calls in
theorem collect_tuple {prog : Program} {w : World} {A : Around} {E : Value → Shared → Prop} {s : Shared} {l : Addr} {vs : List Value} {Q : List Value → Shared → Prop} (hl : IsTup s.heap l vs.toArray)
    (h : Q vs { s with heap := (s.heap.push (seqObj "list" #[] 0)).update s.heap.objs.size (Obj.mapSeq (· ++ vs.toArray)) }) (hsz : vs.length ≤ sizeLine) :
    wpAny (model prog w) A (collect (.ref l)) Q E s := by
  obtain ⟨o, ho, hc, n, hd⟩ := id hl
  unfold collect
  refine wpAny_bind (wpAny_runValue (codeAny_builtin entry_proto_collect' ?_))
  show wpAny _ _ (do again (.builtin "list.__iadd__" ⟨[← newList [], .ref l], []⟩)) _ _ s
  refine wpAny_bind (wpAny_newList (wpAny_pure ⟨Code.quiet_builtin _ (by decide +kernel), codeAny_builtin entry_list_iadd' ?_⟩))
  show wpAny _ _ (Builtin.List.listExtendWith (.ref s.heap.objs.size) (.ref l) (.ref s.heap.objs.size)) _ _ { s with heap := s.heap.push (seqObj "list" #[] 0) }
  unfold Builtin.List.listExtendWith
  have ho' : (s.heap.push (seqObj "list" #[] 0)).get? l = some o := Heap.get?_push_of_some _ ho
  refine wpAny_bind (wpAny_typeOf (T := "tuple") ⟨o, ho', hc⟩ ?_)
  have ht : (Value.type "tuple" == Value.type "tuple") = true := by rfl
  rw [if_pos (by rw [ht]; simp)]
  refine wpAny_bind (listItems_at ho' hd ?_)
  refine wpAny_bind (listItems_at (xs := #[]) (n := 0) (Heap.get?_push_size _ rfl) rfl ?_)
  rw [if_neg (by simp)]
  refine wpAny_bind (listUpdate_at (xs := #[]) (n := 0) (Heap.get?_push_size _ rfl) rfl ?_ (Nat.zero_le _) (by show (#[] ++ vs.toArray).size ≤ sizeLine + 1; simp only [Array.size_append, List.size_toArray, List.length_nil]; omega))
  refine wpAny_pure ?_
  show wpAny (model prog w) A (do
      let o ← load s.heap.objs.size
      match o.data with
      | .seq xs _ => pure xs.toList
      | _ => unsupported "internal:collect") Q E { s with heap := (s.heap.push (seqObj "list" #[] 0)).update s.heap.objs.size (Obj.mapSeq (· ++ vs.toArray)) }
  refine wpAny_bind (wpAny_load (get?_update_seq (Heap.get?_push_size _ rfl) _) ?_)
  show wpAny _ _ (pure ((#[] : Array Value) ++ vs.toArray).toList) Q E _
  rw [show ((#[] : Array Value) ++ vs.toArray).toList = vs by simp]
  exact wpAny_pure h
open PySem.W PySem.Calls in
theorem sorted_of_tup {prog : Program} {w : World} {A : Around} {E : Value → Shared → Prop} {s : Shared} {l : Addr} {vs : List Value} {Q : Value → Shared → Prop} (hl : IsTup s.heap l vs.toArray) (hL : vs.length ≤ sizeLine)
    (body : ∀ E' : Value → Shared → Prop, wpAny (model prog w) A.in1.in1 (Builtin.«list.sort» ⟨[.ref (s.heap.objs.size + 1)], []⟩) (fun f s' => f = .done (.ret .none) ∧ Q (.ref (s.heap.objs.size + 1)) s') E' { s with heap := copyHeap s.heap vs }) :
    wpAny (model prog w) A (call (.builtin "sorted") [.ref l]) Q E s := by
  refine call_function_entry_kw kind_sorted plain_sorted entry_sorted (args_sorted1 _) ?_
  unfold Builtin.«sorted»
  refine wpAny_bind (m := checkCount "sorted" 1 1 _) (wpAny_pure ?_)
  refine wpAny_bind (collect_tuple hl ?_ hL)
  refine wpAny_bind (wpAny_newList ?_ hL)
  have hsz : ((s.heap.push (seqObj "list" #[] 0)).update s.heap.objs.size (Obj.mapSeq (· ++ vs.toArray))).objs.size = s.heap.objs.size + 1 := by
    rw [Heap.size_update, size_push']
  show wpAny _ _ _ _ _ { s with heap := copyHeap s.heap vs }
  rw [hsz]
  refine wpAny_bind (wpAny_holding (wpAny_call_entry_kw slot_list_sort ⟨_, copyHeap_at s.heap vs, rfl⟩ entry_list_sort ?body (args_list_sort _)))
  case body =>
    show wpAny (model prog w) A.in1.in1 (Builtin.«list.sort» ⟨[.ref (s.heap.objs.size + 1)], []⟩) _ _ _
    refine wpAny_mono (body _) (fun f s' hf => ?_) fun _ _ e => e
    obtain ⟨rfl, hq⟩ := hf
    exact ⟨_, rfl, wpAny_pure ⟨_, rfl, hq⟩⟩
open PySem.W PySem.Calls in
theorem sorted_data_t {prog : Program} {w : World} {A : Around} {E : Value → Shared → Prop} {s : Shared} {β : Type} {vs : List Value} {bs : List β} {enc : β → PyData} {R : Value → β → Prop} {l : Addr} {Q : Value → Shared → Prop} (hl : IsTup s.heap l vs.toArray) (e : EachIs R vs bs) (er : EachIs (fun v b => ∃ as, Reads s.heap v (enc b) as) vs bs) (hal : AllAlike (bs.map enc)) (hk : Sortable (bs.map enc)) (hL : bs.length ≤ sizeLine)
    (hu : ∀ b, b ∈ bs → A.units + 2 + (enc b).depth < cLine) (h : ∀ out, out.length = bs.length → EachIs R out (bs.mergeSort (dataLe false enc)) → Q (.ref (s.heap.objs.size + 1)) { s with heap := sortedAll s.heap vs (List.toArray out) }) :
    wpAny (model prog w) A (call (.builtin "sorted") [.ref l]) Q E s := by
  have er' : EachIs (fun v b => ∃ as, Reads (sortingHeap (copyHeap s.heap vs) (s.heap.objs.size + 1) vs) v (enc b) as) vs bs := er.mono fun _ _ ⟨as, r⟩ => ⟨as, PyProof.Rows.Reads.keeps (fun _ _ => sorting_copy_old) r⟩
  have hL' : vs.length ≤ sizeLine := by rw [e.length]; exact hL
  exact sorted_of_tup hl hL' fun _ => list_sort_vals (s := { s with heap := copyHeap s.heap vs }) (copyHeap_at s.heap vs) (SortsAt.data (s := { s with heap := sortingHeap (copyHeap s.heap vs) (s.heap.objs.size + 1) vs }) (each_map (R := fun v d => ∃ as, Reads (sortingHeap (copyHeap s.heap vs) (s.heap.objs.size + 1) vs) v d as) enc er') hal hk (bound_map hu)) hL' ⟨rfl, h _ (by rw [sortVals_length false rfl]; exact e.length) (sortVals_data false e er' hal)⟩
/-- the order of tuples of ints -/
def leT (a b : List Int) : Bool := PySem.W.dataLe false iT a b
/-- sorted(q), q a list or tuple of tuples of ints -/
def rSortQ (K : PySem.W.Frag) : List V → Hp → VK → Prop := fun vs H Q => ∃ (q : Bool × Addr) (xs : List V) (tss : List (List Int)), vs = [V.ref q.2] ∧ CZ.SqK K H q xs ∧ RowsR H xs tss ∧ (∀ ts ∈ tss, ts ≠ []) ∧
  ∀ (ys : List V) (p : Addr), RowsR H ys (tss.mergeSort leT) → H p = none → Q (.ref p) (upd H p (.lst ys))
open PySem.W in
theorem each_rows {H : Hp} : ∀ {xs : List V} {tss : List (List Int)} {us : List Value}, RowsR H xs tss → Vals xs us → EachIs (fun (u : Value) (ts : List Int) => ∃ t, u = Value.ref t ∧ H t = some (.tup (ts.map V.int))) us tss
  | _, _, _, .nil, .nil => .nil
  | _, _, _, .cons ⟨r, e, h⟩ t, .cons rv tv => by
    subst e
    cases rv
    exact .cons ⟨r, rfl, h⟩ (each_rows t tv)
open PySem.W in
theorem rows_each {H : Hp} : ∀ {us : List Value} {tss : List (List Int)}, EachIs (fun (u : Value) (ts : List Int) => ∃ t, u = Value.ref t ∧ H t = some (.tup (ts.map V.int))) us tss → ∃ ys, RowsR H ys tss ∧ Vals ys us
  | _, _, .nil => ⟨[], .nil, .nil⟩
  | _, _, .cons ⟨t, e, h⟩ r => by
    subst e
    obtain ⟨ys, h1, h2⟩ := rows_each r
    exact ⟨.ref t :: ys, .cons ⟨t, rfl, h⟩ h1, .cons rfl h2⟩
open PySem.W in
theorem each_dp {X : Cx} {pins : List (Addr × Obj)} {σ : L2.St} {H : Hp} {s : Shared} (I : Inv X pins σ H s) : ∀ {us : List Value} {tss : List (List Int)}, EachIs (fun (u : Value) (ts : List Int) => ∃ t, u = Value.ref t ∧ H t = some (.tup (ts.map V.int))) us tss → EachIs (fun v b => ∃ as, Reads s.heap v (iT b) as) us tss
  | _, _, .nil => .nil
  | _, _, .cons ⟨t, e, h⟩ r => by
    subst e
    exact .cons (Dp.reads I _ (.ref t) _ (dp_ints h) rfl) (each_dp I r)
theorem alike_iT (a b : List Int) : PySem.W.alike (iT a) (iT b) = true := by
  show PySem.W.alike (.tuple (a.map .int)) (.tuple (b.map .int)) = true
  rw [PySem.W.alike]
  exact PySem.W.alike_ints a b
theorem cr_sortQ {X : Cx} (hu : X.A.units + 65 < cLine) : CallR X (.builtin "sorted") (rSortQ X.K) := by
  intro pins s σ H vs us Q I r h
  obtain ⟨⟨b, a⟩, xs, tss, rfl, hs, rr, ne, q⟩ := h
  rw [Vals.ref1 r]
  have hk : PySem.W.Sortable (tss.map iT) := .inl fun d hd => by
    obtain ⟨ts, ht, rfl⟩ := List.mem_map.mp hd
    cases ts with
    | nil => exact absurd rfl (ne _ ht)
    | cons x l => exact ⟨_, _, rfl⟩
  have hU : ∀ ts, ts ∈ tss → X.A.units + 2 + (iT ts).depth < cLine := fun ts _ => by
    have e := PySem.W.depth_ints ts
    have : (iT ts).depth = 1 := by
      show PyData.depth (.tuple (ts.map .int)) = 1
      simp only [PyData.depth, e]
    omega
  have fin : ∀ its : List Value, Vals xs its → xs.length ≤ sizeLine → ∀ out, out.length = tss.length → PySem.W.EachIs (fun (u : Value) (ts : List Int) => ∃ t, u = Value.ref t ∧ H t = some (.tup (ts.map V.int))) out (tss.mergeSort (PySem.W.dataLe false iT)) → EP X pins σ Q (.ref (s.heap.objs.size + 1)) { s with heap := sortedAll s.heap its (List.toArray out) } := by
    intro its rv hz out lo eo
    obtain ⟨ys, h1, h2⟩ := rows_each eo
    obtain ⟨ep, he'⟩ := PyProof.Rows.sortedAll_at s.heap its (List.toArray out)
    have hlen : ys.length ≤ sizeLine := by
      rw [h2.length, lo, ← Paired.length rr]
      exact hz
    exact ⟨.ref _, upd H (s.heap.objs.size + 1) (.lst ys), I.laid (t' := s.toks) (fun _ _ => PyProof.Rows.sortedAll_old) (Nat.le_succ _) ⟨hlen, out, ep, h2, he'⟩, rfl, q ys _ h1 (I.hok.fresh (Nat.le_succ _))⟩
  have hal : PySem.W.AllAlike (tss.map iT) := PySem.W.AllAlike.of alike_iT
  cases b with
  | false =>
    obtain ⟨its, rv, hl, hz⟩ := I.list (show SqL X.K H a xs from hs)
    have e := each_rows rr rv
    exact PySem.W.sorted_data (enc := iT) hl.isList e (each_dp I e) hal hk (by rw [← Paired.length rr]; exact hz) hU (fin its rv hz)
  | true =>
    obtain ⟨its, rv, hl, hz⟩ := I.tuple (show SqT X.K H a xs from hs)
    have e := each_rows rr rv
    exact sorted_data_t (enc := iT) hl e (each_dp I e) hal hk (by rw [← Paired.length rr]; exact hz) hU (fin its rv hz)

/-- a witness stands at wt -/
def WitAt (H : Hp) (wt : Addr) (m : Int) (ws : List Int) (r : Int) : Prop := ∃ wa, H wt = some (.tup [.int m, .ref wa, .int r]) ∧ H wa = some (.tup (ws.map V.int))
theorem WitAt.mono {H H2 : Hp} {wt : Addr} {m r : Int} {ws : List Int} (e : Ex H H2) (h : WitAt H wt m ws r) : WitAt H2 wt m ws r := by
  obtain ⟨wa, h1, h2⟩ := h
  exact ⟨wa, e _ _ h1, e _ _ h2⟩
section
variable {P : Program} {w : World} {K : PySem.W.Frag} {mg : Str → Option Value} {base : Heap}
end

/-! ### targets as a set -/
/-- good targets -/
structure TgOk (ns : List Int) (tss : List (List Int)) : Prop where
  ok : SzOk ns
  hB : SzC ns
  ne : tss ≠ []
  sks : ∀ ts ∈ tss, SeatOk ns ts
abbrev inL (ns : List Int) (tss : List (List Int)) (v : Vec) : Prop := Lat (rowsG (shiftB ns tss)) v
theorem TgOk.head {ns : List Int} {tss : List (List Int)} (h : TgOk ns tss) : tss.headD [] ∈ tss := by
  have := h.ne
  cases tss with
  | nil => exact absurd rfl this
  | cons a b => exact List.mem_cons_self
theorem TgOk.base {ns : List Int} {tss : List (List Int)} (h : TgOk ns tss) {t : List Int} (ht : t ∈ tss) : inL ns tss (fun i => vf t i - vf (tss.headD []) i) := by
  obtain ⟨s1, s2, s3, s4⟩ := shift_ok h.ok h.hB h.ne h.sks
  have sk := h.sks t ht
  have sk0 := h.sks _ h.head
  refine (s3 _).mpr ?_
  rw [← diff_vf (by rw [sk.len, sk0.len])]
  have := h.ne
  cases tss with
  | nil => exact absurd rfl this
  | cons t0 ts =>
    rcases List.mem_cons.mp ht with rfl | ht2
    · refine Lat.zero.of_eq fun j => ?_
      show (0 : Int) = vf (diffL t t) j
      rw [diff_vf rfl]
      show (0 : Int) = vf t j - vf t j
      omega
    · exact Lat.gen (.inl ⟨diffL t t0, List.mem_map.mpr ⟨t, ht2, rfl⟩, rfl⟩)
theorem TgOk.pair {ns : List Int} {tss : List (List Int)} (h : TgOk ns tss) {t u : List Int} (ht : t ∈ tss) (hu : u ∈ tss) : inL ns tss (fun i => vf t i - vf u i) :=
  ((h.base ht).comb (h.base hu) 1).of_eq fun i => by omega
/-- more targets: a larger lattice -/
theorem lat_sub {ns : List Int} {tss uss : List (List Int)} (h : TgOk ns tss) (g : TgOk ns uss) (sub : ∀ t ∈ tss, inL ns uss (fun i => vf t i - vf (uss.headD []) i)) {v : Vec} (hv : inL ns tss v) : inL ns uss v := by
  obtain ⟨s1, s2, s3, s4⟩ := shift_ok h.ok h.hB h.ne h.sks
  refine ((s3 _).mp hv).le fun w hw => ?_
  rcases hw with ⟨r, hr, rfl⟩ | ⟨j, _, hj, rfl⟩
  · obtain ⟨t, ht, rfl⟩ := List.mem_map.mp hr
    have ht2 : t ∈ tss := List.mem_of_mem_tail ht
    have sk := h.sks t ht2
    have sk0 := h.sks _ h.head
    rw [diff_vf (by rw [sk.len, sk0.len])]
    exact ((sub t ht2).comb (sub _ h.head) 1).of_eq fun i => by omega
  · have := unit_shift g.ok g.hB g.ne g.sks hj 1
    rwa [Int.one_mul] at this
theorem lat_mem {ns : List Int} {tss uss : List (List Int)} (h : TgOk ns tss) (g : TgOk ns uss) (sub : ∀ t ∈ tss, t ∈ uss) {v : Vec} (hv : inL ns tss v) : inL ns uss v := lat_sub h g (fun t ht => g.base (sub t ht)) hv
/-- reachable: by any target -/
theorem free_any {ns : List Int} {tss : List (List Int)} (h : TgOk ns tss) {p : List Int} (sp : SeatOk ns p) {t : List Int} (ht : t ∈ tss) : freeF 0 (shiftB ns tss) (diffL p (tss.headD [])) = true ↔ inL ns tss (fun i => vf p i - vf t i) := by
  obtain ⟨s1, s2, s3, s4⟩ := shift_ok h.ok h.hB h.ne h.sks
  have sk0 := h.sks _ h.head
  rw [free_iff s1 s2 (diff_len sp.len sk0.len), diff_vf (by rw [sp.len, sk0.len])]
  have hb := h.base ht
  constructor
  · exact fun z => (z.comb hb 1).of_eq fun i => by omega
  · exact fun z => (z.add hb).of_eq fun i => by omega
theorem diag_eq {ns : List Int} {tss uss : List (List Int)} (h : TgOk ns tss) (g : TgOk ns uss) (sub : ∀ v, inL ns tss v → inL ns uss v) : diagP 0 (shiftB ns uss) ∣ diagP 0 (shiftB ns tss) ∧ (diagP 0 (shiftB ns tss) = diagP 0 (shiftB ns uss) ↔ ∀ v, inL ns uss v → inL ns tss v) := by
  obtain ⟨s1, s2, _, _⟩ := shift_ok h.ok h.hB h.ne h.sks
  obtain ⟨u1, u2, _, _⟩ := shift_ok g.ok g.hB g.ne g.sks
  have d1 := diag_dvd s1 u1 s2 u2 sub ns.length 0 (by omega)
  rw [List.drop_zero, List.drop_zero] at d1
  refine ⟨d1, fun e v hv => lat_back s1 u1 s2 u2 sub e ns.length 0 v (by omega) (fun j hj => absurd hj (by omega)) hv, fun back => ?_⟩
  have d2 := diag_dvd u1 s1 u2 s2 back ns.length 0 (by omega)
  rw [List.drop_zero, List.drop_zero] at d2
  have p1 := tri_D s1 s2
  have p2 := tri_D u1 u2
  exact Int.dvd_antisymm (by omega) (by omega) d2 d1
/-- one target: the least lattice -/
theorem lat_one {ns p : List Int} {uss : List (List Int)} (h : TgOk ns [p]) (g : TgOk ns uss) {v : Vec} (hv : inL ns [p] v) : inL ns uss v := by
  obtain ⟨s1, s2, s3, s4⟩ := shift_ok h.ok h.hB h.ne h.sks
  refine ((s3 _).mp hv).le fun w hw => ?_
  rcases hw with ⟨r, hr, rfl⟩ | ⟨j, _, hj, rfl⟩
  · obtain ⟨t, ht, rfl⟩ := List.mem_map.mp hr
    cases ht
  · have := unit_shift g.ok g.hB g.ne g.sks hj 1
    rwa [Int.one_mul] at this
theorem TgOk.single {ns p : List Int} {tss : List (List Int)} (h : TgOk ns tss) (sk : SeatOk ns p) : TgOk ns [p] := ⟨h.ok, h.hB, by simp, fun t ht => by rw [List.mem_singleton.mp ht]; exact sk⟩
theorem free_swap {ns a p : List Int} {tss : List (List Int)} (h : TgOk ns tss) (ska : SeatOk ns a) (skp : SeatOk ns p) : freeF 0 (shiftB ns [p]) (diffL a ([p].headD [])) = freeF 0 (shiftB ns [a]) (diffL p ([a].headD [])) := by
  rw [Bool.eq_iff_iff, free_any (h.single skp) ska (List.mem_singleton.mpr rfl), free_any (h.single ska) skp (List.mem_singleton.mpr rfl)]
  constructor
  · exact fun z => (Lat.zero.comb (lat_one (h.single skp) (h.single ska) z) 1).of_eq fun i => by omega
  · exact fun z => (Lat.zero.comb (lat_one (h.single ska) (h.single skp) z) 1).of_eq fun i => by omega
/-- the same targets -/
theorem free_same {ns p : List Int} {tss uss : List (List Int)} (h : TgOk ns tss) (g : TgOk ns uss) (skp : SeatOk ns p) (e : ∀ v, inL ns tss v ↔ inL ns uss v) {t : List Int} (t1 : t ∈ tss) (t2 : t ∈ uss) : freeF 0 (shiftB ns tss) (diffL p (tss.headD [])) = freeF 0 (shiftB ns uss) (diffL p (uss.headD [])) := by
  rw [Bool.eq_iff_iff, free_any h skp t1, free_any g skp t2]
  exact e _
theorem RowsR.drop {H : Hp} : ∀ (k : Nat) {xs : List V} {tss : List (List Int)}, RowsR H xs tss → RowsR H (xs.drop k) (tss.drop k)
  | 0, _, _, h => h
  | _ + 1, _, _, .nil => .nil
  | k + 1, _, _, .cons _ t => RowsR.drop k t
theorem RowsR.take {H : Hp} : ∀ (k : Nat) {xs : List V} {tss : List (List Int)}, RowsR H xs tss → RowsR H (xs.take k) (tss.take k)
  | 0, _, _, _ => .nil
  | _ + 1, _, _, .nil => .nil
  | k + 1, _, _, .cons q t => .cons q (RowsR.take k t)
theorem rot_mem {α : Type} {k : Nat} {l : List α} {x : α} : x ∈ l.drop k ++ l.take k ↔ x ∈ l := by
  rw [List.mem_append, or_comm, ← List.mem_append, List.take_append_drop]
theorem rot_nodup {α : Type} {k : Nat} {l : List α} (h : l.Nodup) : (l.drop k ++ l.take k).Nodup := by
  have h2 : (l.take k ++ l.drop k).Nodup := by rw [List.take_append_drop]; exact h
  rw [List.nodup_append] at h2 ⊢
  exact ⟨h2.2.1, h2.1, fun a ha b hb z => h2.2.2 b hb a ha z.symm⟩

theorem cat_ints {K : PySem.W.Frag} {H : Hp} {Q : VK} {a b : Addr} {xs ys : List Int} (ha : H a = some (.tup (xs.map V.int))) (hb : H b = some (.tup (ys.map V.int))) (hl : xs.length ≤ 1000) (hm : ys.length ≤ 1000) (h : ∀ v H5, Ex H H5 → H5 v = some (.tup ((xs ++ ys).map V.int)) → Q (.ref v) H5) : rCatA K (.ref a) (.ref b) H Q := by
  refine ⟨a, b, _, _, rfl, rfl, SqT.of ha, SqT.of hb, ?_, fun e => ?_, fun _ e => ?_, fun _ _ p hp => ?_⟩
  · rw [List.length_map, List.length_map]
    exact Nat.le_trans (show _ ≤ 2000 by omega) (by decide)
  · refine h b H exr ?_
    rw [List.map_append, e]
    exact hb
  · refine h a H exr ?_
    rw [List.map_append, e, List.append_nil]
    exact ha
  · refine h p _ (exn hp) ?_
    rw [List.map_append]
    exact upd_same
theorem sl_ints {K : PySem.W.Frag} {H : Hp} {Q : VK} {a : Addr} {xs : List V} {lo hi : Option Int} (ha : H a = some (.tup xs)) (h : ∀ v H5, Ex H H5 → H5 v = some (.tup (cutV xs lo hi)) → Q (.ref v) H5) : rSlA K (.ref a) lo hi H Q :=
  ⟨a, _, rfl, SqT.of ha, fun hw => h a H exr (by rw [cut_whole hw]; exact ha), fun _ p hp => h p _ (exn hp) upd_same⟩
theorem wit_bounds {ns ws p : List Int} {m r : Int} (hB : SzC ns) (w : WitOk ns m ws r) (bm : m.natAbs < 2 ^ 5000) (sk : SeatOk ns p) : ws.length = p.length ∧ (∀ x ∈ ws, x.natAbs < 2 ^ 5000) ∧ ∀ x ∈ p, x.natAbs < 2 ^ 5000 := by
  refine ⟨by rw [w.len, sk.len], fun x hx => ?_, fun x hx => ?_⟩
  · obtain ⟨x0, x1⟩ := w.w0 x hx
    exact Nat.lt_of_le_of_lt (by omega) bm
  · obtain ⟨j, hj⟩ := List.getElem?_of_mem hx
    have := (seat_vf sk hB j).2.1
    rw [vf_at hj] at this
    exact lt_pow this (by decide)
theorem tup_push {q D : Addr} {H : Hp} {xs ys : List V} {o : HO} (hD : H D = some (.lst xs)) (h : H q = some (.tup ys)) : upd H D o q = some (.tup ys) := by
  rw [upd_ne (ne_of h hD (by intro z; cases z))]
  exact h
theorem ifs_xb {s : Addr} {c : TT} {t u : TS} {D : Ends} {σ : L2.St} {H : Hp} (h : ∀ N : L2.St → Hp → Prop, (∀ H2, XB s H H2 → Src H2 s → N σ H2) → tIfS c t u { D with nx := N } σ H) (hR : ∀ H2, XB s H H2 → Src H2 s → D.nx σ H2) : tIfS c t u D σ H :=
  ifs_cutG (fun σ2 H2 => σ2 = σ ∧ XB s H H2 ∧ Src H2 s) (by rintro σ2 H2 ⟨rfl, e, z⟩; exact hR H2 e z) (fun N hN => h N fun H2 e z => hN σ H2 ⟨rfl, e, z⟩)
theorem sif_xb {s : Addr} {c : TT} {t u r : TS} {D : Ends} {σ : L2.St} {H : Hp} (h : ∀ N : L2.St → Hp → Prop, (∀ H2, XB s H H2 → Src H2 s → N σ H2) → tIfS c t u { D with nx := N } σ H) (hR : ∀ H2, XB s H H2 → Src H2 s → r D σ H2) : tSeq (tIfS c t u) r D σ H :=
  ifs_xb (D := { D with nx := r D }) h hR
theorem sif_cut {c : TT} {t u r : TS} {D : Ends} {σ : L2.St} {H : Hp} (R : L2.St → Hp → Prop) (h : ∀ N : L2.St → Hp → Prop, (∀ σ2 H2, R σ2 H2 → N σ2 H2) → tIfS c t u { D with nx := N } σ H) (hR : ∀ σ2 H2, R σ2 H2 → r D σ2 H2) : tSeq (tIfS c t u) r D σ H :=
  ifs_cutG (D := { D with nx := r D }) R hR h

/-! ### a witness protects: plain -/
def twV (ws : List Int) (v : Vec) : Int := sumN ws.length fun j => vf ws j * v j
theorem wsum_tw : ∀ {ws xs : List Int}, xs.length = ws.length → wsum ws xs = twV ws (vf xs)
  | [], [], _ => rfl
  | w :: ws, x :: xs, h => by
    rw [wsum_cons, wsum_tw (Nat.succ.inj h)]
    show _ = sumN (ws.length + 1) _
    rw [sumN_head]
    rfl
theorem tw_step (ws : List Int) (v g : Vec) (k : Int) : twV ws (fun i => v i - k * g i) = twV ws v - k * twV ws g := by
  unfold twV
  have e : (fun j => vf ws j * (v j - k * g j)) = fun j => vf ws j * v j + (-k) * (vf ws j * g j) := by
    funext j
    grind
  rw [e, sumN_add, sumN_mul]
  grind
theorem lat_tw {G : Vec → Prop} {v : Vec} {m : Int} {ws : List Int} (h : Lat G v) (hg : ∀ g, G g → m ∣ twV ws g) : m ∣ twV ws v := by
  induction h with
  | zero =>
    have e : twV ws (fun _ => 0) = 0 := by
      unfold twV
      simp only [Int.mul_zero]
      exact sumN_zero _
    rw [e]
    exact Int.dvd_zero m
  | step k h hg2 ih =>
    rw [tw_step]
    exact Int.dvd_sub ih (Int.dvd_mul_of_dvd_right (hg _ hg2))
theorem sumN_pick {f : Nat → Int} {x : Int} {j : Nat} : ∀ {n : Nat}, sumN n (fun k => f k * unitV j x k) = if j < n then f j * x else 0
  | 0 => rfl
  | n + 1 => by
    show sumN n _ + f n * unitV j x n = _
    rw [sumN_pick]
    unfold unitV
    by_cases h1 : n = j
    · subst h1
      simp
    · rw [if_neg h1]
      by_cases h2 : j < n
      · rw [if_pos h2, if_pos (by omega)]
        omega
      · rw [if_neg h2, if_neg (by omega)]
        omega
theorem odd_pow2 {o x : Int} (h : o % 2 = 1) : ∀ k : Nat, o ∣ 2 ^ k * x → o ∣ x
  | 0, d => by simpa using d
  | k + 1, d => by
    refine odd_pow2 h k ?_
    rw [Int.pow_succ, Int.mul_comm ((2 : Int) ^ k), Int.mul_assoc] at d
    obtain ⟨c, hc⟩ := d
    refine ⟨2 ^ k * x - c * (o / 2), ?_⟩
    have e : o = 2 * (o / 2) + 1 := by omega
    generalize o / 2 = q at *
    subst e
    grind
theorem wit_unit {ns ws : List Int} {m r : Int} (ok : SzOk ns) (w : WitOk ns m ws r) {j : Nat} (hj : j < ns.length) : m ∣ vf ws j * vf (ns.map oddI) j := by
  have hw : ws[j]? = some (ws[j]'(by rw [w.len]; exact hj)) := List.getElem?_eq_getElem _
  have hn : ns[j]? = some ns[j] := List.getElem?_eq_getElem _
  have f := w.fit j _ _ hw hn
  have e : (ns.map oddI)[j]? = some (oddI ns[j]) := by rw [List.getElem?_map, hn]; rfl
  rw [vf_at hw, vf_at e]
  obtain ⟨⟨k, hk⟩, _⟩ := oddI_ok (ok.one _ (List.getElem_mem hj))
  refine odd_pow2 w.odd k ?_
  have d := Int.dvd_of_emod_eq_zero f
  rw [hk] at d
  refine (congrArg (m ∣ ·) ?_).mp d
  rw [Int.mul_left_comm]
/-- all free shifts have the value 0 -/
theorem wit_shift {ns ws : List Int} {m r : Int} {tss : List (List Int)} (tg : TgOk ns tss) (w : WitOk ns m ws r) (ht : ∀ t ∈ tss, wsum ws t % m = r) {v : Vec} (hv : inL ns tss v) : m ∣ twV ws v := by
  obtain ⟨s1, s2, s3, s4⟩ := shift_ok tg.ok tg.hB tg.ne tg.sks
  refine lat_tw ((s3 _).mp hv) fun g hg => ?_
  rcases hg with ⟨x, hx, rfl⟩ | ⟨j, _, hj, rfl⟩
  · obtain ⟨t, ht2, rfl⟩ := List.mem_map.mp hx
    have tm : t ∈ tss := List.mem_of_mem_tail ht2
    have l1 := (tg.sks t tm).len
    have l2 := (tg.sks _ tg.head).len
    have lw := w.len
    rw [← wsum_tw (by rw [diff_len l1 l2, lw]), wsum_diff (by rw [l1, lw]) (by rw [l2, lw])]
    exact emod_eq_iff.mp ((ht t tm).trans (ht _ tg.head).symm)
  · unfold twV
    rw [sumN_pick, if_pos (by rw [w.len]; exact hj)]
    exact wit_unit tg.ok w hj
theorem wit_blocks {ns ws p : List Int} {m r : Int} {tss : List (List Int)} (tg : TgOk ns tss) (w : WitOk ns m ws r) (ht : ∀ t ∈ tss, wsum ws t % m = r) (sk : SeatOk ns p) (hp : wsum ws p % m ≠ r) : freeF 0 (shiftB ns tss) (diffL p (tss.headD [])) = false := by
  rw [Bool.eq_false_iff]
  intro h
  have h2 := wit_shift tg w ht ((free_any tg sk tg.head).mp h)
  have lw := w.len
  have sk0 := tg.sks _ tg.head
  rw [← diff_vf (by rw [sk.len, sk0.len]), ← wsum_tw (by rw [diff_len sk.len sk0.len, lw]), wsum_diff (by rw [sk.len, lw]) (by rw [sk0.len, lw])] at h2
  exact hp ((emod_eq_iff.mpr h2).trans (ht _ tg.head))
/-- a move adds the value of the call -/
theorem wsum_shiftL {m f : Int} : ∀ {ws ns ps cs : List Int}, ws.length = ns.length → ps.length = ns.length → cs.length = ns.length → (∀ (i : Nat) (x n : Int), ws[i]? = some x → ns[i]? = some n → x * n % m = 0) → m ∣ wsum ws (shiftL ns ps cs f) - (wsum ws ps + f * wsum ws cs)
  | [], [], [], [], _, _, _, _ => by
    show m ∣ 0 - (0 + f * 0)
    simp
  | x :: ws, n :: ns, p :: ps, c :: cs, h1, h2, h3, hf => by
    have ih := wsum_shiftL (m := m) (f := f) (Nat.succ.inj h1) (Nat.succ.inj h2) (Nat.succ.inj h3) fun i x n hx hn => hf (i + 1) x n (by simpa using hx) (by simpa using hn)
    have f0 := Int.dvd_of_emod_eq_zero (hf 0 x n rfl rfl)
    show m ∣ wsum (x :: ws) ((p + f * c) % n :: shiftL ns ps cs f) - _
    rw [wsum_cons, wsum_cons, wsum_cons]
    have e := Int.mul_ediv_add_emod (p + f * c) n
    have d2 : m ∣ x * n * ((p + f * c) / n) := Int.dvd_mul_of_dvd_left f0
    have d3 := Int.dvd_sub ih d2
    refine (congrArg (m ∣ ·) ?_).mp d3
    grind
theorem two_moves {ns ws ps cs : List Int} {m r : Int} (w : WitOk ns m ws r) (l1 : ps.length = ns.length) (l2 : cs.length = ns.length) (h1 : wsum ws (shiftL ns ps cs 1) % m = r) (h2 : wsum ws (shiftL ns ps cs (-1)) % m = r) : wsum ws ps % m = r := by
  have a := wsum_shiftL (f := 1) w.len l1 l2 w.fit
  have b := wsum_shiftL (f := -1) w.len l1 l2 w.fit
  have c := emod_eq_iff.mp (h1.trans h2.symm)
  have rm : r % m = r := Int.emod_eq_of_lt w.r0 w.r1
  rw [← rm] at h2 ⊢
  rw [emod_eq_iff] at h2 ⊢
  have d : m ∣ 2 ^ 1 * (wsum ws ps - r) := by
    have := Int.dvd_sub (Int.dvd_add h2 h2) (Int.dvd_add a b)
    have := Int.dvd_add this c
    refine (congrArg (m ∣ ·) ?_).mp this
    grind
  exact odd_pow2 w.odd 1 d
/-- the first ring alone -/
theorem first_wit {n0 M b : Int} {ns : List Int} (M3 : 3 ≤ M) (Mo : M % 2 = 1) (Md : M ∣ n0) : WitOk (n0 :: ns) M (1 :: List.replicate ns.length 0) (b % M) := by
  refine ⟨M3, Mo, Int.emod_nonneg _ (by omega), Int.emod_lt_of_pos _ (by omega), by simp, fun x hx => ?_, fun i x n hx hn => ?_⟩
  · rcases List.mem_cons.mp hx with rfl | h
    · exact ⟨by omega, by omega⟩
    · rw [(List.mem_replicate.mp h).2]
      exact ⟨by omega, by omega⟩
  · cases i with
    | zero =>
      cases hx
      cases hn
      rw [Int.one_mul]
      exact Int.emod_eq_zero_of_dvd Md
    | succ i =>
      have h2 : (List.replicate ns.length (0 : Int))[i]? = some x := by simpa using hx
      have := List.mem_of_getElem? h2
      rw [(List.mem_replicate.mp this).2, Int.zero_mul]
      rfl
theorem first_sum {k : Nat} {t : List Int} (h : t ≠ []) : wsum (1 :: List.replicate k 0) t = vf t 0 := by
  cases t with
  | nil => exact absurd rfl h
  | cons x xs =>
    rw [wsum_cons, wsum_zero fun w hw => (List.mem_replicate.mp hw).2]
    show 1 * x + 0 = x
    omega
theorem first_off {n0 M b r : Int} (M3 : 3 ≤ M) (Md : M ∣ n0) (r0 : 0 ≤ r) (r1 : r < M - 1) : (b + 1 + r) % n0 % M ≠ b % M := by
  rw [Int.emod_emod_of_dvd _ Md]
  intro h
  have h2 := emod_eq_iff.mp h
  have e : b + 1 + r - b = 1 + r := by omega
  rw [e] at h2
  have := Int.le_of_dvd (by omega) h2
  omega

theorem odd_dvd {n : Int} (h : 1 ≤ n) : oddI n ∣ n := by
  obtain ⟨⟨k, hk⟩, _⟩ := oddI_ok h
  conv => rhs; rw [hk]
  exact Int.dvd_mul_left _ _
theorem odds_at {ns : List Int} {i : Nat} {n : Int} (h : ns[i]? = some n) : vf (ns.map oddI) i = oddI n := vf_at (by rw [List.getElem?_map, h]; rfl)
theorem emod_dvd (a n : Int) : n ∣ a % n - a := ⟨-(a / n), by have := Int.mul_ediv_add_emod a n; grind⟩

/-- all seats, in ascending order -/
def crossS (hss : List (List Int)) (n : Int) : List (List Int) := hss.flatMap fun hs => (List.range n.toNat).map fun (i : Nat) => hs ++ [(i : Int)]
def allS (ns : List Int) : List (List Int) := ns.foldl crossS [[]]
theorem allS_snoc (ns : List Int) (n : Int) : allS (ns ++ [n]) = crossS (allS ns) n := by
  unfold allS
  rw [List.foldl_append]
  rfl
theorem crossS_snoc (hss : List (List Int)) (hs : List Int) (n : Int) : crossS (hss ++ [hs]) n = crossS hss n ++ (List.range n.toNat).map fun (i : Nat) => hs ++ [(i : Int)] := by
  unfold crossS
  rw [List.flatMap_append]
  simp
theorem crossS_len (n : Int) : ∀ hss : List (List Int), (crossS hss n).length = hss.length * n.toNat
  | [] => by simp [crossS]
  | h :: hss => by
    have ih := crossS_len n hss
    unfold crossS at ih ⊢
    rw [List.flatMap_cons, List.length_append, ih, List.length_map, List.length_range, List.length_cons, Nat.succ_mul, Nat.add_comm]
def prodL (ns : List Int) : Int := ns.foldl (fun p n => p * n) 1
theorem prodS_snoc (ns : List Int) (n : Int) : prodL (ns ++ [n]) = prodL ns * n := by
  unfold prodL
  rw [List.foldl_append]
  rfl
theorem fold_mul (ns : List Int) : ∀ p : Int, ns.foldl (fun p n => p * n) p = p * ns.foldl (fun p n => p * n) 1 := by
  induction ns with
  | nil => intro p; simp
  | cons n ns ih =>
    intro p
    rw [List.foldl_cons, List.foldl_cons, ih (p * n), ih (1 * n), Int.one_mul, Int.mul_assoc]
theorem prodL_cons (n : Int) (ns : List Int) : prodL (n :: ns) = n * prodL ns := by
  unfold prodL
  rw [List.foldl_cons, fold_mul, Int.one_mul]
theorem prodL_pos : ∀ {ns : List Int}, (∀ n ∈ ns, 1 ≤ n) → 1 ≤ prodL ns
  | [], _ => by decide
  | n :: ns, h => by
    rw [prodL_cons]
    exact Int.mul_pos (by have := h n List.mem_cons_self; omega) (by have := prodL_pos (fun m hm => h m (List.mem_cons_of_mem _ hm)); omega)
theorem prodL_take : ∀ {ns : List Int} (i : Nat), (∀ n ∈ ns, 1 ≤ n) → prodL (ns.take i) ≤ prodL ns
  | [], _, _ => by simp
  | n :: ns, 0, h => by
    rw [List.take_zero]
    exact prodL_pos h
  | n :: ns, i + 1, h => by
    rw [List.take_succ_cons, prodL_cons, prodL_cons]
    exact Int.mul_le_mul_of_nonneg_left (prodL_take i fun m hm => h m (List.mem_cons_of_mem _ hm)) (by have := h n List.mem_cons_self; omega)
theorem foldS_len : ∀ (ns : List Int) (hss : List (List Int)), (∀ n ∈ ns, 1 ≤ n) → ((ns.foldl crossS hss).length : Int) = hss.length * prodL ns
  | [], hss, _ => by simp [prodL]
  | n :: ns, hss, h => by
    have n1 := h n List.mem_cons_self
    rw [List.foldl_cons, foldS_len ns _ fun m hm => h m (List.mem_cons_of_mem _ hm), crossS_len, prodL_cons, Int.natCast_mul, Int.toNat_of_nonneg (by omega), Int.mul_assoc]
theorem allS_len {ns : List Int} (h : ∀ n ∈ ns, 1 ≤ n) : ((allS ns).length : Int) = prodL ns := by
  unfold allS
  rw [foldS_len ns _ h]
  simp
theorem mem_foldS : ∀ (ns : List Int) (hss : List (List Int)) (p : List Int), p ∈ ns.foldl crossS hss ↔ ∃ h ∈ hss, ∃ q, SeatOk ns q ∧ p = h ++ q
  | [], hss, p => by
    constructor
    · intro h
      exact ⟨p, h, [], True.intro, by simp⟩
    · rintro ⟨h, hh, q, sk, rfl⟩
      cases q with
      | nil => rw [List.append_nil]; exact hh
      | cons x q => exact sk.elim
  | n :: ns, hss, p => by
    rw [List.foldl_cons, mem_foldS ns]
    constructor
    · rintro ⟨h, hh, q, sk, rfl⟩
      obtain ⟨g, hg, hh⟩ := List.mem_flatMap.mp hh
      obtain ⟨i, hi, rfl⟩ := List.mem_map.mp hh
      have := List.mem_range.mp hi
      exact ⟨g, hg, (i : Int) :: q, ⟨⟨by omega, by omega⟩, sk⟩, by simp⟩
    · rintro ⟨h, hh, q, sk, rfl⟩
      cases q with
      | nil => exact sk.elim
      | cons x q =>
        obtain ⟨⟨x0, x1⟩, sk⟩ : (0 ≤ x ∧ x < n) ∧ SeatOk ns q := sk
        refine ⟨h ++ [x], List.mem_flatMap.mpr ⟨h, hh, List.mem_map.mpr ⟨x.toNat, List.mem_range.mpr (by omega), by rw [Int.toNat_of_nonneg x0]⟩⟩, q, sk, by simp⟩
theorem mem_allS {ns p : List Int} : p ∈ allS ns ↔ SeatOk ns p := by
  unfold allS
  rw [mem_foldS]
  constructor
  · rintro ⟨h, hh, q, sk, rfl⟩
    rw [List.mem_singleton.mp hh]
    exact sk
  · intro sk
    exact ⟨[], List.mem_singleton.mpr rfl, p, sk, rfl⟩
theorem rows_allS {ns : List Int} : ∀ hs ∈ allS ns, hs.length = ns.length := fun hs h => (mem_allS.mp h).len
/-- the seat as far behind p as o is ahead -/
def mirL : List Int → List Int → List Int → List Int
  | n :: ns, p :: ps, o :: os => ((2 * p - o) % n) :: mirL ns ps os
  | _, _, _ => []
theorem mirL_len : ∀ {ns ps os : List Int}, ps.length = ns.length → os.length = ns.length → (mirL ns ps os).length = ns.length
  | [], _, _, _, _ => by cases ‹List Int› <;> cases ‹List Int› <;> rfl
  | n :: ns, p :: ps, o :: os, h1, h2 => by
    simp only [mirL, List.length_cons] at *
    rw [mirL_len (by omega) (by omega)]
theorem mirL_get : ∀ {ns ps os : List Int} {i : Nat} {n p o : Int}, ns[i]? = some n → ps[i]? = some p → os[i]? = some o → (mirL ns ps os)[i]? = some ((2 * p - o) % n)
  | n :: ns, p :: ps, o :: os, 0, _, _, _, h1, h2, h3 => by
    simp at h1 h2 h3
    subst h1 h2 h3
    rfl
  | n :: ns, p :: ps, o :: os, i + 1, _, _, _, h1, h2, h3 => by
    rw [List.getElem?_cons_succ] at h1 h2 h3
    show (mirL ns ps os)[i]? = _
    exact mirL_get h1 h2 h3
  | [], _, _, _, _, _, _, h1, _, _ => by simp at h1
  | _ :: _, [], _, _, _, _, _, _, h1, _ => by simp at h1
  | _ :: _, _ :: _, [], _, _, _, _, _, _, h1 => by simp at h1
theorem mirL_seat : ∀ {ns ps os : List Int}, (∀ n ∈ ns, 1 ≤ n) → ps.length = ns.length → os.length = ns.length → SeatOk ns (mirL ns ps os)
  | [], _, _, _, _, _ => by cases ‹List Int› <;> cases ‹List Int› <;> exact True.intro
  | n :: ns, p :: ps, o :: os, h, h1, h2 => by
    have n1 := h n List.mem_cons_self
    exact ⟨⟨Int.emod_nonneg _ (by omega), Int.emod_lt_of_pos _ (by omega)⟩, mirL_seat (fun m hm => h m (List.mem_cons_of_mem _ hm)) (by simpa using h1) (by simpa using h2)⟩
/-- the call that leads from p to o -/
def toL : List Int → List Int → List Int → List Int
  | n :: ns, p :: ps, o :: os => ((o - p) % n) :: toL ns ps os
  | _, _, _ => []
theorem toL_len : ∀ {ns ps os : List Int}, ps.length = ns.length → os.length = ns.length → (toL ns ps os).length = ns.length
  | [], _, _, _, _ => by cases ‹List Int› <;> cases ‹List Int› <;> rfl
  | n :: ns, p :: ps, o :: os, h1, h2 => by
    simp only [toL, List.length_cons] at *
    rw [toL_len (by omega) (by omega)]
theorem toL_get : ∀ {ns ps os : List Int} {i : Nat} {n p o : Int}, ns[i]? = some n → ps[i]? = some p → os[i]? = some o → (toL ns ps os)[i]? = some ((o - p) % n)
  | n :: ns, p :: ps, o :: os, 0, _, _, _, h1, h2, h3 => by
    simp at h1 h2 h3
    subst h1 h2 h3
    rfl
  | n :: ns, p :: ps, o :: os, i + 1, _, _, _, h1, h2, h3 => by
    rw [List.getElem?_cons_succ] at h1 h2 h3
    show (toL ns ps os)[i]? = _
    exact toL_get h1 h2 h3
  | [], _, _, _, _, _, _, h1, _, _ => by simp at h1
  | _ :: _, [], _, _, _, _, _, _, h1, _ => by simp at h1
  | _ :: _, _ :: _, [], _, _, _, _, _, _, h1 => by simp at h1
/-- the number of a seat in a list of numbers -/
def dep (fs : List (List Int × Nat)) (p : List Int) : Option Nat := (fs.find? fun q => decide (q.1 = p)).map (·.2)
abbrev keysL (fs : List (List Int × Nat)) : List (List Int) := fs.map (·.1)
theorem dep_cons (f : List Int × Nat) (fs : List (List Int × Nat)) (p : List Int) : dep (f :: fs) p = if f.1 = p then some f.2 else dep fs p := by
  unfold dep
  rw [List.find?_cons]
  by_cases c : f.1 = p
  · rw [decide_eq_true c, if_pos c]
    rfl
  · rw [decide_eq_false c, if_neg c]
theorem dep_isSome {fs : List (List Int × Nat)} {p : List Int} : (dep fs p).isSome = decide (p ∈ keysL fs) := by
  induction fs with
  | nil => simp [dep]
  | cons f fs ih =>
    rw [dep_cons]
    by_cases c : f.1 = p
    · rw [if_pos c]
      simp [c]
    · rw [if_neg c, ih]
      have : ¬ p = f.1 := fun z => c z.symm
      simp [this]
/-- the seats that join next -/
def newL (ns : List Int) (fs : List (List Int × Nat)) (miss newest : List (List Int)) : List (List Int) := miss.filter fun s => newest.any fun o => decide (mirL ns s o ∈ keysL fs)
abbrev atD (d : Nat) (ps : List (List Int)) : List (List Int × Nat) := ps.map fun p => (p, d)
def missL (fs : List (List Int × Nat)) (miss : List (List Int)) : List (List Int) := miss.filter fun s => decide (s ∉ keysL fs)
def roundsL (ns : List Int) : Nat → List (List Int × Nat) → List (List Int) → List (List Int) → Nat → List (List Int × Nat)
  | 0, fs, _, _, _ => fs
  | f + 1, fs, miss, newest, d => if newest = [] then fs else
    roundsL ns f (fs ++ atD (d + 1) (newL ns fs miss newest)) (missL (fs ++ atD (d + 1) (newL ns fs miss newest)) miss) (newL ns fs miss newest) (d + 1)
def countsL (ns : List Int) (tss : List (List Int)) : List (List Int × Nat) := roundsL ns ((allS ns).length + 2) (atD 0 tss) (missL (atD 0 tss) (allS ns)) tss 0
theorem crossS_nodup {hss : List (List Int)} (n : Int) (h : hss.Nodup) : (crossS hss n).Nodup := by
  unfold crossS
  unfold List.Nodup at h ⊢
  rw [List.pairwise_flatMap]
  constructor
  · intro hs _
    rw [List.pairwise_map]
    refine List.Pairwise.imp (fun {a b} z e => z ?_) List.nodup_range
    have := (List.append_inj' e rfl).2
    exact Int.ofNat.inj (List.cons.inj this).1
  · refine h.imp fun {a b} z x hx y hy e => z ?_
    obtain ⟨i, _, rfl⟩ := List.mem_map.mp hx
    obtain ⟨j, _, rfl⟩ := List.mem_map.mp hy
    exact (List.append_inj' e rfl).1
theorem allS_nodup (ns : List Int) : (allS ns).Nodup := by
  unfold allS
  have : ∀ (ns : List Int) (hss : List (List Int)), hss.Nodup → (ns.foldl crossS hss).Nodup := fun ns => by
    induction ns with
    | nil => exact fun _ h => h
    | cons n ns ih => exact fun hss h => ih _ (crossS_nodup n h)
  exact this ns _ (by simp)
theorem filter_two {α : Type} {c d : α → Bool} : ∀ {l : List α}, (∀ x ∈ l, c x = true → d x = false) → (l.filter c).length + (l.filter d).length ≤ l.length
  | [], _ => by simp
  | x :: l, h => by
    have ih := filter_two (l := l) fun y hy => h y (List.mem_cons_of_mem _ hy)
    rw [List.filter_cons, List.filter_cons]
    cases hc : c x
    · cases d x <;> simp <;> omega
    · rw [h x List.mem_cons_self hc]
      simp
      omega
theorem newL_sub {ns : List Int} {fs : List (List Int × Nat)} {miss newest : List (List Int)} {p : List Int} (h : p ∈ newL ns fs miss newest) : p ∈ miss := (List.mem_filter.mp h).1
theorem keys_app (fs gs : List (List Int × Nat)) : keysL (fs ++ gs) = keysL fs ++ keysL gs := List.map_append
theorem mem_missL {fs : List (List Int × Nat)} {miss : List (List Int)} {p : List Int} : p ∈ missL fs miss ↔ p ∈ miss ∧ p ∉ keysL fs := by
  unfold missL
  rw [List.mem_filter, decide_eq_true_iff]

/-- a dict of numbers by seats -/
abbrev entK (p : List Int) : List L2.Key := p.map Sum.inl
abbrev entV (q : List Int × Nat) : List L2.Key × V := (entK q.1, V.int (q.2 : Int))
theorem entK_kV (p : List Int) : (entK p).map kV = p.map V.int := by rw [List.map_map]; rfl
theorem entK_inj {p q : List Int} (h : entK p = entK q) : p = q := by
  induction p generalizing q with
  | nil =>
    cases q with
    | nil => rfl
    | cons => cases h
  | cons a p ih =>
    cases q with
    | nil => cases h
    | cons b q =>
      obtain ⟨h1, h2⟩ := List.cons.inj h
      rw [Sum.inl.inj h1, ih h2]
def CntAt (H : Hp) (d : Addr) (fs : List (List Int × Nat)) : Prop := H d = some (.dT (fs.map entV))
theorem CntAt.mono {H H2 : Hp} {d : Addr} {fs : List (List Int × Nat)} (e : Ex H H2) (h : CntAt H d fs) : CntAt H2 d fs := e _ _ h
theorem val_ent (p : List Int) : ∀ fs : List (List Int × Nat), valV (fs.map entV) (entK p) = (dep fs p).map fun d : Nat => V.int (d : Int)
  | [] => rfl
  | f :: fs => by
    rw [List.map_cons]
    by_cases c : f.1 = p
    · rw [valV_pos (show entK f.1 = entK p by rw [c])]
      unfold dep
      rw [List.find?_cons, decide_eq_true c]
      rfl
    · rw [valV_neg (fun z => c (entK_inj z)), val_ent p fs]
      unfold dep
      rw [List.find?_cons, decide_eq_false c]
theorem cnt_get {H : Hp} {d r : Addr} {fs : List (List Int × Nat)} {p : List Int} (h : CntAt H d fs) (hr : H r = some (.tup (p.map V.int))) : DGet H d (.ref r) ((dep fs p).map fun d : Nat => V.int (d : Int)) := by
  rw [← val_ent]
  exact DGet.t h (by rw [entK_kV]; exact hr)
theorem tup_dict {q D : Addr} {H : Hp} {kvs : List (List L2.Key × V)} {ys : List V} {o : HO} (hD : H D = some (.dT kvs)) (h : H q = some (.tup ys)) : upd H D o q = some (.tup ys) := by
  rw [upd_ne (ne_of h hD (by intro z; cases z))]
  exact h
section
variable {P : Program} {w : World} {K : PySem.W.Frag} {mg : Str → Option Value} {base : Heap}
def sp_all_seats (C : Addr) : Sp := fun vs H Q _ => ∃ (a : Addr) (ns : List Int), vs = [.ref a] ∧ TabAt C H a ns ∧ SzOk ns ∧ prodL ns ≤ 300 ∧ ∀ q H2, Ex H H2 → H q = none → RowsAt H2 q (allS ns) → Q (.ref q) H2
theorem ok_all_seats (T : TX K mg) : FnOk P w K mg base CX0 2 T.f_all_seats T.fd_all_seats ["table"] (sp_all_seats T.C_Table) := by
  refine T.F_all_seats.ok sc_all_seats (fun vs H Q E h => ?_) (fun cdv A outer s H vs Q E hr h => ?_)
  · obtain ⟨a, ns, rfl, _⟩ := h
    rfl
  · obtain ⟨a, ns, rfl, ⟨dx, t, h1, h2⟩, ok, pr, k⟩ := h
    have l4 := ok.le
    refine ⟨_, (pss_cons (ps_set (i := 1) sc_all_seats.nd rfl (Or.inl rfl) (pe_lst (pa_cons (pe_tup pa_nil) pa_nil))) (pss_cons (ps_for PassesOwn.never rfl (pi_tup (pe_meth0 (pv 0) T.cl_Table T.me_Table_sizes (ok_Table_sizes T) hr T.b_Table_sizes .nil pass0)) (pg_name (i := 2) sc_all_seats.nd rfl (Or.inr rfl)) (pss_one (ps_setLc2 (own := [("start", 3), ("place", 4)]) (g := (gName 3)) (g1 := (gName 4)) (vs1 := [4]) (i := 1) rfl sc_all_seats.nd rfl rfl (sw_true rfl rfl rfl (by decide +kernel)) (pi_list (pv 1)) (blkOk_by (N := N_all_seats) (sc := defScope s_all_seats) (by decide +kernel)) (by decide) (fun _ _ _ _ _ => (pg_name (i := 3) sc_all_seats.nd rfl (Or.inl rfl))) (fun _ _ _ _ _ => pts_nil) (fun _ _ _ _ _ => (pi_range1 rfl T.z_range (pa_cons (pv 2) pa_nil))) (fun _ _ _ _ _ => (pg_name (i := 4) sc_all_seats.nd rfl (Or.inl rfl))) (fun _ _ _ _ _ => pts_nil) (fun _ _ _ _ _ => (pe_op (r := rCatA K) op_catA (pv 3) (pe_tup (pa_cons (pv 4) pa_nil))))))) (pss_one (ps_ret (pv 1))))), ?_⟩
    refine ⟨by show 0 ≤ sizeLine; decide, fun u hu => ⟨by show 1 ≤ sizeLine; decide, fun f hf => ?_⟩⟩
    have e2 : Ex H (upd (upd H u (.tup [])) f (.lst [.ref u])) := ext (exn hu) (exn hf)
    have f0 : H f = none := Evl.fresh_back (exn hu) hf
    refine ⟨_, rfl, a, dx, _, rfl, e2 _ _ h1, rfl, a, dx, t, rfl, e2 _ _ h1, t, rfl, ⟨_, SqT.of (e2 _ _ h2)⟩, ?_⟩
    refine for_it (walk_tup (xs := ns.map V.int)) (fun i σ H2 => ∃ (f : Addr) (y1 y2 y3 : Option V), σ = [some (.ref a), some (.ref f), y1, y2, y3] ∧ Ex H H2 ∧ H f = none ∧ RowsAt H2 f (allS (ns.take i))) ⟨_, _, _, _, rfl, e2, f0, _, upd_same, .cons ⟨u, rfl, by rw [upd_ne (ne_of_none upd_same hf)]; exact upd_same⟩ .nil⟩ (fun i σ H2 _ ⟨_, _, _, _, _, e, _⟩ => SqT.of (e _ _ h2)) ?_ ?_
    · rintro i x σ _ H4 hi ⟨f, y1, y2, y3, rfl, e4, f0, ra⟩ ⟨rfl, hx⟩
      obtain ⟨n, hn, rfl⟩ := map_get hx
      have n1 := ok.one n (List.mem_of_getElem? hn)
      have ezs := take_more hn
      have o1 : ∀ m ∈ ns.take i, 1 ≤ m := fun m hm => ok.one m (List.mem_of_mem_take hm)
      have len : ((allS (ns.take i)).length : Int) ≤ 300 := by
        rw [allS_len o1]
        exact Int.le_trans (prodL_take i ok.one) pr
      have nb : n ≤ 300 := by
        have a1 : prodL (ns.take (i + 1)) ≤ prodL ns := prodL_take (i + 1) ok.one
        rw [ezs, prodS_snoc] at a1
        have a2 := prodL_pos o1
        have a3 : 1 * n ≤ prodL (ns.take i) * n := Int.mul_le_mul_of_nonneg_right a2 (by omega)
        omega
      have rows : ∀ hs ∈ allS (ns.take i), hs.length ≤ 4 := fun hs hh => by
        rw [rows_allS hs hh, List.length_take]
        omega
      obtain ⟨xs, ra5, rr⟩ := ra
      generalize hh : allS (ns.take i) = hss at rr len rows
      dsimp only [gName]
      refine ⟨_, rfl, f, rfl, ⟨_, SqL.of ra5⟩, fun D hD => ?_⟩
      refine lc2_it (walk_list (xs := xs)) (fun j H => Ex H4 H ∧ RowsAt H D (crossS (hss.take j) n)) ⟨exn hD, _, upd_same, .nil⟩ (fun j H _ q => SqL.of (q.1 _ _ ra5)) ?_ ?_
      · rintro j x _ H5 hj ⟨e5, rb⟩ ⟨rfl, hx⟩
        obtain ⟨hs, r, hhs, rfl, hr4⟩ := rr.get hx
        refine ⟨rfl, ?_⟩
        refine ⟨_, rfl, n, rfl, by omega, by omega, ?_⟩
        refine in_it walk_range (fun l H => Ex H4 H ∧ RowsAt H D (crossS (hss.take j) n ++ (List.range l).map fun (i : Nat) => hs ++ [(i : Int)])) ⟨e5, ?_⟩ (fun l H _ q => True.intro) ?_ ?_
        · rw [List.range_zero, List.map_nil, List.append_nil]
          exact rb
        · rintro l x _ H7 hl ⟨e7, rc⟩ ⟨rfl, hx⟩
          obtain rfl : x = .int (l : Int) := hx.trans (congrArg V.int (Int.zero_add _))
          refine ⟨rfl, ?_⟩
          refine ⟨_, rfl, _, rfl, by show 1 ≤ sizeLine; decide, fun u hu => ?_⟩
          refine cat_row (exn hu _ _ (e7 _ _ hr4)) upd_same (Nat.le_trans (rows hs (List.mem_of_getElem? hhs)) (by decide)) fun v H8 e8 hv => ?_
          have e8' : Ex H7 H8 := ext (exn hu) e8
          obtain ⟨acc, g1, g2, g3⟩ := rows_push (rc.mono e8') hv
          refine ⟨acc, g1, ?_, ex_upd (ext e7 e8') hD, ?_⟩
          · rw [g2, List.length_append, crossS_len, List.length_map, List.length_range, List.length_take]
            have hl2 : l < n.toNat := hl
            have : min j hss.length * n.toNat ≤ 300 * 300 := Nat.mul_le_mul (by omega) (by omega)
            exact Nat.lt_of_le_of_lt (show _ ≤ 90300 by omega) (by decide)
          · rw [List.range_succ, List.map_append, ← List.append_assoc]
            exact g3
        · rintro Hz ⟨ez, rz⟩
          refine ⟨ez, ?_⟩
          rw [take_more hhs, crossS_snoc]
          exact rz
      · rintro Hz ⟨ez, rz⟩
        rw [List.take_of_length_le (by have := Paired.length rr; omega)] at rz
        refine ⟨D, _, _, _, rfl, ext e4 ez, Evl.fresh_back e4 hD, ?_⟩
        rw [ezs, allS_snoc, hh]
        exact rz
    · rintro σ H2 ⟨f, y1, y2, y3, rfl, e, f0, ra⟩
      rw [List.take_of_length_le (by simp)] at ra
      exact ⟨_, rfl, k f H2 e f0 ra⟩
def sp_mirror_seat (C : Addr) : Sp := fun vs H Q _ => ∃ (a s c : Addr) (ns ps os : List Int), vs = [.ref a, .ref s, .ref c] ∧ TabAt C H a ns ∧ SzOk ns ∧ H s = some (.tup (ps.map V.int)) ∧ H c = some (.tup (os.map V.int)) ∧ ps.length = ns.length ∧ os.length = ns.length ∧
  ∀ H2 q, Ex H H2 → H q = none → H2 q = some (.tup ((mirL ns ps os).map V.int)) → Q (.ref q) H2
theorem ok_mirror_seat (T : TX K mg) : FnOk P w K mg base CX0 2 T.f_mirror_seat T.fd_mirror_seat ["table", "seat", "other"] (sp_mirror_seat T.C_Table) := by
  refine T.F_mirror_seat.ok sc_mirror_seat (fun vs H Q E h => ?_) (fun cdv A outer s H vs Q E hr h => ?_)
  · obtain ⟨a, s, c, ns, ps, os, rfl, _⟩ := h
    rfl
  · obtain ⟨a, s, c, ns, ps, os, rfl, ⟨dx, t, h1, h2⟩, ok, hs, hc, lp, lc, k⟩ := h
    have l4 := ok.le
    refine ⟨_, (pss_one (ps_ret (pe_callTy call_tuple_of (by rfl) T.z_tuple (by decide +kernel) (pa_cons (pe_lc (own := [("place", 3), ("one", 4), ("size", 5)]) (g := (gTup K 3 (gCons (gName 3) (gCons (gName 4) (gCons (gName 5) gNil))))) rfl sc_mirror_seat.nd (CZ.pi_z3s (fl := [true, true, true]) rfl (by rfl) T.z_zip (pa_cons (pv 1) (pa_cons (pv 2) (pa_cons (pe_meth0 (pv 0) T.cl_Table T.me_Table_sizes (ok_Table_sizes T) hr T.b_Table_sizes .nil pass0) pa_nil)))) (blkOk_by (N := N_mirror_seat) (sc := defScope s_mirror_seat) (by decide +kernel)) (fun _ _ _ _ _ => (pg_tup rfl (pgs_cons (pg_name (i := 3) sc_mirror_seat.nd rfl (Or.inl rfl)) (pgs_cons (pg_name (i := 4) sc_mirror_seat.nd rfl (Or.inl rfl)) (pgs_cons (pg_name (i := 5) sc_mirror_seat.nd rfl (Or.inl rfl)) pgs_nil))))) (fun _ _ _ _ _ => pts_nil) (fun _ _ _ _ _ => (pe_op op_mod (pe_op op_sub (pe_op op_mulI pe_int (pv 3)) (pv 4)) (pv 5)))) pa_nil)))), ?_⟩
    refine ⟨_, rfl, _, rfl, _, rfl, a, dx, _, rfl, h1, rfl, a, dx, t, rfl, h1, [s, c, t], rfl, rfl, all3 (sqT hs) (sqT hc) (sqT h2), fun D hD => ?_⟩
    have ls : (mirL ns ps os).length = ns.length := mirL_len lp lc
    refine lc_vals (CZ.walk_rows (xss := [ps.map V.int, os.map V.int, ns.map V.int]) (n := ns.length) (lens3 (by rw [List.length_map, lp]) (by rw [List.length_map, lc]) (by rw [List.length_map]))) ((mirL ns ps os).map V.int) (by rw [List.length_map, ls]) (by omega) hD (fun H3 e => .cons (SqT.of (e _ _ hs)) (.cons (SqT.of (e _ _ hc)) (.cons (SqT.of (e _ _ h2)) .nil))) ?_ (gmono_tup (gmono_cons gmono_name (gmono_cons gmono_name (gmono_cons gmono_name gmono_nil)))) ?_
    · intro i y H3 H4 R hi e yy kk
      obtain ⟨Ta, p, d, n, rfl, hT, rfl, hp, hd, hn⟩ := yints3 yy
      have n1 := ok.one n (List.mem_of_getElem? hn)
      refine ⟨Ta, _, rfl, SqT.of upd_same, rfl, _, _, rfl, _, _, rfl, _, _, rfl, rfl, rfl, ?_⟩
      refine ⟨_, rfl, _, _, rfl, rfl, mul_ok (.inl (by decide)), _, rfl, _, _, rfl, rfl, _, rfl, _, _, rfl, rfl, (by show (0 : Int) < n; omega), ?_⟩
      refine kk _ _ (exn hT) ?_
      rw [List.getElem?_map, mirL_get hn hp hd]
      rfl
    · intro H3 e hD3
      exact ⟨D, _, rfl, .inl ⟨SqL.of hD3, fun q hq => k _ q (ext e (exn hq)) (Evl.fresh_back e hq) upd_same⟩⟩
end

theorem keys_atD (d : Nat) (ps : List (List Int)) : keysL (atD d ps) = ps := by
  unfold keysL atD
  rw [List.map_map]
  exact List.map_id _
theorem atD_snoc (d : Nat) (ps : List (List Int)) (p : List Int) : atD d (ps ++ [p]) = atD d ps ++ [(p, d)] := List.map_append
theorem dep_none {fs : List (List Int × Nat)} {p : List Int} (h : p ∉ keysL fs) : dep fs p = none := by
  have := dep_isSome (fs := fs) (p := p)
  rw [decide_eq_false h] at this
  exact Option.isSome_eq_false_iff.mp this |> Option.isNone_iff_eq_none.mp
theorem SqH.either {K : PySem.W.Frag} {H : Hp} : ∀ {q : Bool × Addr} {xs : List V}, SqH H q xs → SqL K H q.2 xs ∨ SqT K H q.2 xs
  | (false, _), _, h => .inl (SqL.of h)
  | (true, _), _, h => .inr (SqT.of h)
theorem eqv_ne' {css : List (List Int)} (ne : css ≠ []) : (!PyData.eqv (.list (css.map iT)) (.list (([] : List (List Int)).map iT))) = true := by
  cases css with
  | nil => exact absurd rfl ne
  | cons c r => simp [PyData.eqv, PyData.eqvAll]
theorem nodup_take {α : Type} {l : List α} (nod : l.Nodup) {i : Nat} {x : α} (h : l[i]? = some x) : x ∉ l.take i := fun z => by
  obtain ⟨j, hj⟩ := List.mem_iff_getElem?.mp z
  have jl : j < i := by
    have := (List.getElem?_eq_some_iff.mp hj).1
    rw [List.length_take] at this
    omega
  rw [List.getElem?_take_of_lt jl] at hj
  exact absurd ((List.getElem?_inj (List.getElem?_eq_some_iff.mp hj).1 nod).mp (hj.trans h.symm)) (by omega)
theorem merge_new {e : Nat} : ∀ {nw : List (List Int)} {fs : List (List Int × Nat)}, (∀ p ∈ nw, p ∉ keysL fs) → nw.Nodup → CD.mergeT (fs.map entV) ((atD e nw).map entV) = (fs ++ atD e nw).map entV
  | [], fs, _, _ => by simp [CD.mergeT]
  | p :: nw, fs, h, nod => by
    have hp := h p List.mem_cons_self
    show CD.mergeT (putK (fs.map entV) (entK p) (V.int (e : Int))) ((atD e nw).map entV) = _
    rw [putK_new _ (by rw [val_ent, dep_none hp]; rfl), show fs.map entV ++ [(entK p, V.int (e : Int))] = (fs ++ [(p, e)]).map entV by rw [List.map_append]; rfl, merge_new ?_ (List.nodup_cons.mp nod).2]
    · rw [List.append_assoc]
      rfl
    · intro r hr z
      rw [keys_app] at z
      rcases List.mem_append.mp z with z | z
      · exact h r (List.mem_cons_of_mem _ hr) z
      · have : r = p := List.mem_singleton.mp z
        exact (List.nodup_cons.mp nod).1 (this ▸ hr)
section
variable {P : Program} {w : World} {K : PySem.W.Frag} {mg : Str → Option Value} {base : Heap}
end

def closerL (fs : List (List Int × Nat)) (d : Nat) : List (List Int) := (fs.filter fun q => decide (q.2 < d)).map (·.1)
def fromL (ns : List Int) (fs : List (List Int × Nat)) (p : List Int) (d : Nat) : List (List Int) := ((closerL fs d).filter fun o => decide ((dep fs (mirL ns p o)).getD d < d)).map fun o => toL ns p o
theorem closer_snoc (fs : List (List Int × Nat)) (q : List Int × Nat) (d : Nat) : closerL (fs ++ [q]) d = if q.2 < d then closerL fs d ++ [q.1] else closerL fs d := by
  unfold closerL
  rw [List.filter_append, List.map_append]
  by_cases c : q.2 < d
  · rw [if_pos c]
    simp [c]
  · rw [if_neg c]
    simp [c]
theorem dep_mem {fs : List (List Int × Nat)} (nod : (keysL fs).Nodup) {q : List Int × Nat} (h : q ∈ fs) : dep fs q.1 = some q.2 := by
  induction fs with
  | nil => cases h
  | cons f fs ih =>
    rw [dep_cons]
    rcases List.mem_cons.mp h with rfl | h
    · rw [if_pos rfl]
    · have nf : f.1 ≠ q.1 := fun z => (List.nodup_cons.mp nod).1 (by show f.1 ∈ _; rw [z]; exact List.mem_map_of_mem h)
      rw [if_neg nf, ih (List.nodup_cons.mp nod).2 h]
theorem Ex.back {H H2 : Hp} {d : Addr} {u v : HO} (hd : H d = some u) (e : Ex (upd H d v) H2) : Ex H (upd H2 d u) := fun c o z => by
  by_cases cd : c = d
  · subst cd
    rw [upd_same]
    exact hd.symm.trans z
  · rw [upd_ne cd]
    exact e _ _ (by rw [upd_ne cd]; exact z)
theorem tup_pshL {q D : Addr} {H : Hp} {xs ys : List V} {o : HO} (hD : H D = some (.lst xs)) (h : H q = some (.tup ys)) : upd H D o q = some (.tup ys) := by
  rw [upd_ne (ne_of h hD (by intro z; cases z))]
  exact h
theorem getD_int (o : Option Nat) (d : Nat) : (o.map fun d : Nat => V.int (d : Int)).getD (V.int (d : Int)) = V.int ((o.getD d : Nat) : Int) := by cases o <;> rfl
section
variable {P : Program} {w : World} {K : PySem.W.Frag} {mg : Str → Option Value} {base : Heap}
end

section
variable {P : Program} {w : World} {K : PySem.W.Frag} {mg : Str → Option Value} {base : Heap}
def sp_Table_count (C : Addr) : Sp := fun vs H Q _ => ∃ (a : Addr) (ns : List Int), vs = [.ref a] ∧ TabAt C H a ns ∧ SzOk ns ∧ prodL ns ≤ 10 ^ 9 ∧ Q (.int (prodL ns)) H
theorem ok_Table_count (T : TX K mg) : FnOk P w K mg base CX0 1 T.f_Table_count T.fd_Table_count ["self"] (sp_Table_count T.C_Table) := by
  refine T.F_Table_count.ok sc_Table_count (fun vs H Q E h => ?_) (fun cdv A outer s H vs Q E hr h => ?_)
  · obtain ⟨a, ns, rfl, _⟩ := h
    rfl
  · obtain ⟨a, ns, rfl, ⟨dx, t, h1, h2⟩, ok, hB, k⟩ := h
    refine ⟨_, (pss_cons (ps_set (i := 1) sc_Table_count.nd rfl (Or.inl rfl) pe_int) (pss_cons (ps_for PassesOwn.never rfl (pi_tup (pe_fld (pv 0) rfl)) (pg_name (i := 2) sc_Table_count.nd rfl (Or.inl rfl)) (pss_one (ps_set (i := 1) sc_Table_count.nd rfl (Or.inl rfl) (pe_op op_mulI (pv 1) (pv 2))))) (pss_one (ps_ret (pv 1))))), ?_⟩
    refine ⟨_, rfl, a, _, dx, _, _, rfl, h1, T.cl_Table, T.n_Table_rings, rfl, t, rfl, ⟨_, SqT.of h2⟩, ?_⟩
    refine for_it (walk_tup (xs := ns.map V.int)) (fun i σ H2 => ∃ y : Option V, σ = [some (.ref a), some (.int (prodL (ns.take i))), y] ∧ H2 = H) ⟨none, rfl, rfl⟩ (fun i σ H2 _ ⟨_, _, e⟩ => by rw [e]; exact SqT.of h2) ?_ ?_
    · rintro i x σ H2 H3 hi ⟨y, rfl, rfl⟩ ⟨rfl, hx⟩
      obtain ⟨n, hn, rfl⟩ := map_get hx
      have b1 : 1 ≤ prodL (ns.take i) := prodL_pos fun m hm => ok.one m (List.mem_of_mem_take hm)
      have b2 : prodL (ns.take i) ≤ 10 ^ 9 := Int.le_trans (prodL_take i ok.one) hB
      refine ⟨_, rfl, _, rfl, _, _, rfl, rfl, mul_ok (.inl ⟨by omega, by omega⟩), some (.int n), ?_, rfl⟩
      rw [take_more hn, prodS_snoc]
      rfl
    · rintro σ H2 ⟨y, rfl, rfl⟩
      rw [List.length_map, List.take_length]
      exact ⟨_, rfl, k⟩
end

theorem mem_rows {H : Hp} : ∀ {ys : List V} {tss : List (List Int)} {v : V}, RowsR H ys tss → v ∈ ys → ∃ r ts, v = V.ref r ∧ ts ∈ tss ∧ H r = some (.tup (ts.map V.int))
  | y :: ys, ts :: tss, v, .cons q t, h => by
    rcases List.mem_cons.mp h with rfl | h
    · obtain ⟨r, h1, h2⟩ := q
      exact ⟨r, ts, h1, List.mem_cons_self, h2⟩
    · obtain ⟨r, ts, h1, h2, h3⟩ := mem_rows t h
      exact ⟨r, ts, h1, List.mem_cons_of_mem _ h2, h3⟩

/-! ### amounts by places, as sum_counts halves them -/
abbrev entZ (x : Int × Int) : Key × V := (Sum.inl x.1, V.int x.2)
def getA (A : List (Int × Int)) (k : Int) : Option Int := (A.find? fun x => decide (x.1 = k)).map fun x => x.2
def putA (A : List (Int × Int)) (k v : Int) : List (Int × Int) := if (A.any fun x => decide (x.1 = k)) = true then A.map (fun x => if x.1 = k then (x.1, v) else x) else A ++ [(k, v)]
def sumA (A : List (Int × Int)) : Int := (A.map fun x => x.2).sum
def momA (A : List (Int × Int)) : Int := (A.map fun x => x.1 * x.2).sum
theorem val_entZ (k : Int) : ∀ A : List (Int × Int), valV (A.map entZ) (.inl k) = (getA A k).map V.int
  | [] => rfl
  | f :: A => by
    have ih := val_entZ k A
    rw [List.map_cons]
    unfold getA at ih ⊢
    rw [List.find?_cons]
    by_cases c : f.1 = k
    · rw [valV_pos (show Sum.inl f.1 = Sum.inl k by rw [c]), decide_eq_true c]
      rfl
    · rw [valV_neg (fun z => c (Sum.inl.inj z)), ih, decide_eq_false c]
theorem put_entZ (A : List (Int × Int)) (k v : Int) : putK (A.map entZ) (.inl k) (V.int v) = (putA A k v).map entZ := by
  have e : ((A.map entZ).any fun kv => decide (kv.1 = (Sum.inl k : Key))) = A.any fun x => decide (x.1 = k) := by
    rw [List.any_map]
    congr 1
    funext x
    show decide ((Sum.inl x.1 : Key) = Sum.inl k) = decide (x.1 = k)
    by_cases c : x.1 = k
    · simp [c]
    · simp [c]
  unfold putK putA
  rw [e]
  by_cases c : (A.any fun x => decide (x.1 = k)) = true
  · rw [if_pos c, if_pos c, List.map_map, List.map_map]
    refine List.map_congr_left fun x _ => ?_
    show (if (Sum.inl x.1 : Key) = Sum.inl k then ((Sum.inl x.1 : Key), V.int v) else (Sum.inl x.1, V.int x.2)) = entZ (if x.1 = k then (x.1, v) else x)
    by_cases h : x.1 = k
    · rw [if_pos h, if_pos (by rw [h])]
    · rw [if_neg h, if_neg fun z => h (Sum.inl.inj z)]
  · rw [if_neg c, if_neg c, List.map_append]
    rfl
theorem any_key (A : List (Int × Int)) (k : Int) : (A.any fun x => decide (x.1 = k)) = true ↔ k ∈ A.map fun x => x.1 := by
  rw [List.any_eq_true, List.mem_map]
  constructor
  · rintro ⟨x, h1, h2⟩
    exact ⟨x, h1, of_decide_eq_true h2⟩
  · rintro ⟨x, h1, h2⟩
    exact ⟨x, h1, decide_eq_true h2⟩
theorem put_sum {k a : Int} : ∀ {A : List (Int × Int)}, (A.map fun x => x.1).Nodup → sumA (putA A k ((getA A k).getD 0 + a)) = sumA A + a ∧ momA (putA A k ((getA A k).getD 0 + a)) = momA A + k * a := by
  intro A nd
  by_cases c : (A.any fun x => decide (x.1 = k)) = true
  · have key : ∀ B : List (Int × Int), (B.map fun x => x.1).Nodup → k ∈ B.map (fun x => x.1) → ∀ v : Int, sumA (B.map fun x => if x.1 = k then (x.1, v) else x) = sumA B + (v - (getA B k).getD 0) ∧ momA (B.map fun x => if x.1 = k then (x.1, v) else x) = momA B + k * (v - (getA B k).getD 0) := fun B => by
      induction B with
      | nil => exact fun _ h => by simp at h
      | cons f B ih =>
        intro nd hm v
        rw [List.map_cons, List.nodup_cons] at nd
        unfold getA sumA momA at ih ⊢
        rw [List.find?_cons]
        by_cases h : f.1 = k
        · have no : ∀ x ∈ B, (if x.1 = k then (x.1, v) else x) = x := fun x hx => by
            rw [if_neg]
            intro z
            exact nd.1 (List.mem_map.mpr ⟨x, hx, z.trans h.symm⟩)
          rw [List.map_cons, if_pos h, List.map_congr_left no, List.map_id', decide_eq_true h]
          simp only [List.map_cons, List.sum_cons, Option.map_some, Option.getD_some]
          rw [h]
          constructor
          · omega
          · rw [Int.mul_sub]
            omega
        · have hm2 : k ∈ B.map fun x => x.1 := by
            rcases List.mem_cons.mp hm with z | z
            · exact absurd z.symm h
            · exact z
          obtain ⟨i1, i2⟩ := ih nd.2 hm2 v
          rw [List.map_cons, if_neg h, decide_eq_false h]
          simp only [List.map_cons, List.sum_cons]
          constructor
          · rw [i1]
            omega
          · rw [i2]
            omega
    obtain ⟨q1, q2⟩ := key A nd ((any_key A k).mp c) ((getA A k).getD 0 + a)
    unfold putA
    rw [if_pos c]
    exact ⟨by rw [q1]; omega, by rw [q2]; congr 1; congr 1; omega⟩
  · have g0 : getA A k = none := by
      unfold getA
      rw [Option.map_eq_none_iff, List.find?_eq_none]
      intro x hx z
      exact c (List.any_eq_true.mpr ⟨x, hx, z⟩)
    unfold putA
    rw [if_neg c, g0]
    unfold sumA momA
    simp
theorem put_keys {A : List (Int × Int)} {k v : Int} (nd : (A.map fun x => x.1).Nodup) : ((putA A k v).map fun x => x.1).Nodup ∧ (∀ x ∈ putA A k v, x.1 = k ∧ x.2 = v ∨ x ∈ A) := by
  unfold putA
  by_cases c : (A.any fun x => decide (x.1 = k)) = true
  · rw [if_pos c]
    constructor
    · rw [List.map_map, show ((fun x : Int × Int => x.1) ∘ fun x => if x.1 = k then (x.1, v) else x) = fun x => x.1 from by
        funext x
        show (if x.1 = k then (x.1, v) else x).1 = x.1
        split <;> rfl]
      exact nd
    · intro x hx
      obtain ⟨y, hy, rfl⟩ := List.mem_map.mp hx
      by_cases h : y.1 = k
      · rw [if_pos h]
        exact .inl ⟨h, rfl⟩
      · rw [if_neg h]
        exact .inr hy
  · rw [if_neg c]
    constructor
    · rw [List.map_append, List.nodup_append]
      refine ⟨nd, by simp, fun a ha b hb z => ?_⟩
      have hb2 : b = k := by simpa using hb
      exact c ((any_key A k).mpr (by rw [← hb2, ← z]; exact ha))
    · intro x hx
      rcases List.mem_append.mp hx with h | h
      · exact .inr h
      · rw [List.mem_singleton.mp h]
        exact .inl ⟨rfl, rfl⟩
theorem getA_mem {A : List (Int × Int)} {k v : Int} (h : getA A k = some v) : (k, v) ∈ A := by
  unfold getA at h
  obtain ⟨x, h1, h2⟩ := Option.map_eq_some_iff.mp h
  have h3 := List.mem_of_find?_eq_some h1
  have h4 := List.find?_some h1
  have h5 : x.1 = k := of_decide_eq_true h4
  rw [← h5, ← h2]
  exact h3
/-- amounts on places of a set: their sum, and their sum weighted by the places -/
structure AOk (n B : Nat) (A : List (Int × Int)) (t m : Int) : Prop where
  nod : (A.map fun x => x.1).Nodup
  ok : ∀ x ∈ A, 0 ≤ x.1 ∧ x.1 < n ∧ B.testBit x.1.toNat = true ∧ 0 ≤ x.2
  sum : sumA A = t
  mom : (n : Int) ∣ momA A - m
theorem AOk.put {n B : Nat} {A : List (Int × Int)} {t m k a : Int} (h : AOk n B A t m) (k0 : 0 ≤ k) (k1 : k < n) (kb : B.testBit k.toNat = true) (a0 : 0 ≤ a) : AOk n B (putA A k ((getA A k).getD 0 + a)) (t + a) (m + k * a) := by
  obtain ⟨s1, s2⟩ := put_sum (k := k) (a := a) h.nod
  obtain ⟨p1, p2⟩ := put_keys (k := k) (v := (getA A k).getD 0 + a) h.nod
  have g0 : 0 ≤ (getA A k).getD 0 := by
    cases e : getA A k with
    | none => exact Int.le_refl _
    | some v => exact (h.ok _ (getA_mem e)).2.2.2
  refine ⟨p1, fun x hx => ?_, by rw [s1, h.sum], ?_⟩
  · rcases p2 x hx with ⟨e1, e2⟩ | hx
    · rw [e1, e2]
      exact ⟨k0, k1, kb, by omega⟩
    · exact h.ok x hx
  · rw [s2]
    exact (congrArg ((n : Int) ∣ ·) (by omega)).mp h.mom
theorem AOk.len {n B : Nat} {A : List (Int × Int)} {t m : Int} (h : AOk n B A t m) : A.length ≤ n := by
  have := List.Nodup.length_le_of_subset h.nod (l₂ := (List.range n).map fun (i : Nat) => (i : Int)) fun p hp => by
    obtain ⟨x, hx, rfl⟩ := List.mem_map.mp hp
    obtain ⟨h1, h2, _⟩ := h.ok x hx
    exact List.mem_map.mpr ⟨x.1.toNat, List.mem_range.mpr (by omega), by omega⟩
  simpa using this
theorem AOk.to {n B : Nat} {A : List (Int × Int)} {t u m r : Int} (h : AOk n B A t m) (e : t = u) (d : (n : Int) ∣ m - r) : AOk n B A u r := ⟨h.nod, h.ok, h.sum.trans e, by
  have := Int.dvd_add h.mom d
  exact (congrArg ((n : Int) ∣ ·) (by omega)).mp this⟩

/-! ### the largest sets that can be avoided -/
def oddsD (n : Int) : List Int := ((List.range ((n - 1) / 2).toNat).map fun (i : Nat) => 3 + (i : Int) * 2).filter fun d => decide (n % d = 0)
def oddP (n : Int) : Option Int := (oddsD n).head?
theorem mem_odds {n d : Int} : d ∈ oddsD n ↔ 3 ≤ d ∧ d % 2 = 1 ∧ d ≤ n ∧ n % d = 0 := by
  unfold oddsD
  simp only [List.mem_filter, List.mem_map, List.mem_range, decide_eq_true_eq]
  constructor
  · rintro ⟨⟨i, hi, rfl⟩, hd⟩
    exact ⟨by omega, by omega, by omega, hd⟩
  · rintro ⟨h1, h2, h3, h4⟩
    exact ⟨⟨((d - 3) / 2).toNat, by omega, by omega⟩, h4⟩
theorem odds_sorted (n : Int) : (oddsD n).Pairwise (· < ·) := by
  unfold oddsD
  refine List.Pairwise.filter _ ?_
  rw [List.pairwise_map]
  refine List.pairwise_lt_range.imp fun {a b} h => ?_
  omega
structure LeastOdd (n p : Int) : Prop where
  three : 3 ≤ p
  odd : p % 2 = 1
  le : p ≤ n
  dvd : p ∣ n
  least : ∀ d, 3 ≤ d → d % 2 = 1 → d ∣ n → p ≤ d
theorem oddP_some {n p : Int} (n1 : 1 ≤ n) (h : oddP n = some p) : LeastOdd n p := by
  unfold oddP at h
  have hs := odds_sorted n
  cases e : oddsD n with
  | nil =>
    rw [e] at h
    cases h
  | cons q l =>
    rw [e] at h hs
    obtain rfl : q = p := by simpa using h
    have hm : q ∈ oddsD n := by rw [e]; exact List.mem_cons_self
    obtain ⟨a, b, c, d⟩ := mem_odds.mp hm
    refine ⟨a, b, c, Int.dvd_of_emod_eq_zero d, fun d' h1 h2 h3 => ?_⟩
    have : d' ∈ q :: l := by
      rw [← e]
      exact mem_odds.mpr ⟨h1, h2, Int.le_of_dvd (by omega) h3, Int.emod_eq_zero_of_dvd h3⟩
    rcases List.mem_cons.mp this with rfl | hl
    · exact Int.le_refl _
    · exact Int.le_of_lt ((List.pairwise_cons.mp hs).1 _ hl)
theorem oddP_none {n : Int} (n1 : 1 ≤ n) (h : oddP n = none) : ∀ d, 3 ≤ d → d % 2 = 1 → ¬ d ∣ n := fun d h1 h2 h3 => by
  have hm : d ∈ oddsD n := mem_odds.mpr ⟨h1, h2, Int.le_of_dvd (by omega) h3, Int.emod_eq_zero_of_dvd h3⟩
  unfold oddP at h
  cases e : oddsD n with
  | nil =>
    rw [e] at hm
    cases hm
  | cons q l =>
    rw [e] at h
    cases h

/-! ### the greatest number of seats that one witness protects: plain -/
theorem get_put (A : List (Int × Int)) (k v r : Int) : getA (putA A k v) r = if r = k then some v else getA A r := by
  have h1 := val_entZ r (putA A k v)
  rw [← put_entZ, valV_put] at h1
  by_cases c : r = k
  · rw [if_pos c]
    rw [if_pos (by rw [c])] at h1
    cases hg : getA (putA A k v) r with
    | none => rw [hg] at h1; cases h1
    | some x => rw [hg] at h1; injection h1 with h1; injection h1 with h1; rw [h1]
  · rw [if_neg c]
    rw [if_neg (fun z => c (Sum.inl.inj z)), val_entZ] at h1
    cases h2 : getA A r with
    | none =>
      rw [h2] at h1
      cases hg : getA (putA A k v) r with
      | none => rfl
      | some x => rw [hg] at h1; cases h1
    | some y =>
      rw [h2] at h1
      cases hg : getA (putA A k v) r with
      | none => rw [hg] at h1; cases h1
      | some x => rw [hg] at h1; injection h1 with h1; injection h1 with h1; rw [h1]
/-- how many seats have a value -/
def cntR (m : Int) (ws : List Int) (op : List (List Int)) (r : Int) : Nat := (op.filter fun o => decide (wsum ws o % m = r)).length
theorem cntR_snoc (m : Int) (ws : List Int) (op : List (List Int)) (o : List Int) (r : Int) : cntR m ws (op ++ [o]) r = cntR m ws op r + if wsum ws o % m = r then 1 else 0 := by
  unfold cntR
  rw [List.filter_append, List.length_append]
  by_cases c : wsum ws o % m = r
  · simp [c]
  · simp [c]
theorem cntR_le (m : Int) (ws : List Int) (op : List (List Int)) (r : Int) : cntR m ws op r ≤ op.length := List.length_filter_le _ _
/-- a dict of these numbers -/
structure TalOk (A : List (Int × Int)) (f : Int → Nat) : Prop where
  nod : (A.map fun x => x.1).Nodup
  get : ∀ r, getA A r = if f r = 0 then none else some (f r : Int)
theorem TalOk.mem {A : List (Int × Int)} {f : Int → Nat} (h : TalOk A f) {r : Int} : r ∈ (A.map fun x => x.1) ↔ f r ≠ 0 := by
  constructor
  · intro hr z
    have := h.get r
    rw [if_pos z] at this
    unfold getA at this
    rw [Option.map_eq_none_iff, List.find?_eq_none] at this
    obtain ⟨x, hx, rfl⟩ := List.mem_map.mp hr
    exact this x hx (decide_eq_true rfl)
  · intro z
    have := h.get r
    rw [if_neg z] at this
    exact List.mem_map_of_mem (f := fun x : Int × Int => x.1) (getA_mem this)
theorem getA_of_mem {k v : Int} : ∀ {A : List (Int × Int)}, (A.map fun x => x.1).Nodup → (k, v) ∈ A → getA A k = some v
  | a :: A, nod, h => by
    rw [List.map_cons, List.nodup_cons] at nod
    unfold getA
    rw [List.find?_cons]
    rcases List.mem_cons.mp h with rfl | h
    · simp
    · have : a.1 ≠ k := fun z => nod.1 (by rw [z]; exact List.mem_map_of_mem (f := fun x : Int × Int => x.1) h)
      rw [decide_eq_false this]
      exact getA_of_mem nod.2 h
theorem TalOk.val {A : List (Int × Int)} {f : Int → Nat} (h : TalOk A f) {x : Int × Int} (hx : x ∈ A) : x.2 = (f x.1 : Int) ∧ f x.1 ≠ 0 := by
  have e := getA_of_mem h.nod (show (x.1, x.2) ∈ A from hx)
  rw [h.get] at e
  by_cases c : f x.1 = 0
  · rw [if_pos c] at e
    cases e
  · rw [if_neg c] at e
    exact ⟨(Option.some.inj e).symm, c⟩
theorem TalOk.nil : TalOk [] fun _ => 0 := ⟨.nil, fun r => rfl⟩
theorem TalOk.add {A : List (Int × Int)} {m : Int} {ws : List Int} {op : List (List Int)} {o : List Int} (h : TalOk A (cntR m ws op)) : TalOk (putA A (wsum ws o % m) ((getA A (wsum ws o % m)).getD 0 + 1)) (cntR m ws (op ++ [o])) := by
  refine ⟨(put_keys h.nod).1, fun r => ?_⟩
  rw [get_put, cntR_snoc]
  by_cases c : r = wsum ws o % m
  · subst c
    rw [if_pos rfl, if_pos rfl, h.get]
    by_cases z : cntR m ws op (wsum ws o % m) = 0
    · rw [if_pos z, z]
      rfl
    · rw [if_neg z, if_neg (by omega)]
      show some (((cntR m ws op (wsum ws o % m) : Nat) : Int) + 1) = _
      congr 1
  · rw [if_neg c, if_neg (show ¬ wsum ws o % m = r from fun z => c z.symm), h.get, Nat.add_zero]
/-- the values in ascending order -/
def resL (m : Int) (ws : List Int) (op : List (List Int)) : List Int := ((List.range m.toNat).map fun (i : Nat) => (i : Int)).filter fun r => decide (cntR m ws op r ≠ 0)
theorem mem_resL {m : Int} {ws : List Int} {op : List (List Int)} {r : Int} : r ∈ resL m ws op ↔ (0 ≤ r ∧ r < m) ∧ cntR m ws op r ≠ 0 := by
  unfold resL
  rw [List.mem_filter, List.mem_map, decide_eq_true_iff]
  constructor
  · rintro ⟨⟨i, hi, rfl⟩, h⟩
    have := List.mem_range.mp hi
    exact ⟨⟨by omega, by omega⟩, h⟩
  · rintro ⟨⟨h0, h1⟩, h⟩
    exact ⟨⟨r.toNat, List.mem_range.mpr (by omega), by omega⟩, h⟩
theorem cnt_range {m : Int} (m0 : 0 < m) {ws : List Int} {op : List (List Int)} {r : Int} (h : cntR m ws op r ≠ 0) : 0 ≤ r ∧ r < m := by
  unfold cntR at h
  obtain ⟨o, ho⟩ := List.exists_mem_of_ne_nil _ (fun z => h (by rw [z]; rfl) : (op.filter fun o => decide (wsum ws o % m = r)) ≠ [])
  rw [← of_decide_eq_true (List.mem_filter.mp ho).2]
  exact ⟨Int.emod_nonneg _ (by omega), Int.emod_lt_of_pos _ m0⟩
theorem resL_lt (m : Int) (ws : List Int) (op : List (List Int)) : (resL m ws op).Pairwise (· < ·) := by
  unfold resL
  refine List.Pairwise.filter _ ?_
  rw [List.pairwise_map]
  exact List.pairwise_lt_range.imp fun {a b} h => by omega
theorem TalOk.sorted {A : List (Int × Int)} {m : Int} {ws : List Int} {op : List (List Int)} (m0 : 0 < m) (h : TalOk A (cntR m ws op)) {ys : List Int} (pm : ys.Perm (A.map fun x => x.1)) (pw : ys.Pairwise (· ≤ ·)) : ys = resL m ws op := by
  have nod : ys.Nodup := pm.nodup_iff.mpr h.nod
  have nod2 : (resL m ws op).Nodup := (resL_lt m ws op).imp fun {a b} h => by omega
  have pm2 : ys.Perm (resL m ws op) := (List.perm_ext_iff_of_nodup nod nod2).mpr fun r => by
    rw [pm.mem_iff, h.mem, mem_resL]
    exact ⟨fun z => ⟨cnt_range m0 z, z⟩, fun z => z.2⟩
  exact List.Perm.eq_of_pairwise (le := fun a b : Int => a ≤ b) (fun a b _ _ h1 h2 => by omega) pw ((resL_lt m ws op).imp fun {a b} h => by omega) pm2
/-- all weights for a modulus -/
def fitL (m n : Int) : List Int := ((List.range m.toNat).map fun (i : Nat) => (i : Int)).filter fun x => decide (x * n % m = 0)
def crossW (hss : List (List Int)) (fs : List Int) : List (List Int) := hss.flatMap fun hs => fs.map fun x => hs ++ [x]
def wtsA (m : Int) (ns : List Int) : List (List Int) := ns.foldl (fun hss n => crossW hss (fitL m n)) [[]]
theorem wtsA_snoc (m : Int) (ns : List Int) (n : Int) : wtsA m (ns ++ [n]) = crossW (wtsA m ns) (fitL m n) := by
  unfold wtsA
  rw [List.foldl_append]
  rfl
theorem mem_fit {m n x : Int} : x ∈ fitL m n ↔ (0 ≤ x ∧ x < m) ∧ x * n % m = 0 := by
  unfold fitL
  rw [List.mem_filter, List.mem_map, decide_eq_true_iff]
  constructor
  · rintro ⟨⟨i, hi, rfl⟩, h⟩
    have := List.mem_range.mp hi
    exact ⟨⟨by omega, by omega⟩, h⟩
  · rintro ⟨⟨h0, h1⟩, h⟩
    exact ⟨⟨x.toNat, List.mem_range.mpr (by omega), by omega⟩, h⟩
theorem fit_len {m n : Int} (m0 : 0 < m) (n1 : 1 ≤ n) : ((fitL m n).length : Int) ≤ n := by
  have nod : ((fitL m n).map fun x => (x * n / m).toNat).Nodup := by
    unfold List.Nodup
    rw [List.pairwise_map]
    have pw : (fitL m n).Pairwise (· < ·) := by
      unfold fitL
      refine List.Pairwise.filter _ ?_
      rw [List.pairwise_map]
      exact List.pairwise_lt_range.imp fun {a b} h => by omega
    refine List.Pairwise.imp_of_mem (fun {a b} ha hb h z => ?_) pw
    obtain ⟨⟨a0, a1⟩, ea⟩ := mem_fit.mp ha
    obtain ⟨⟨b0, b1⟩, eb⟩ := mem_fit.mp hb
    obtain ⟨c, hc⟩ := Int.dvd_of_emod_eq_zero ea
    obtain ⟨d, hd⟩ := Int.dvd_of_emod_eq_zero eb
    have n0 : (0 : Int) ≤ n := by omega
    have c0 : 0 ≤ c := by
      refine Decidable.byContradiction fun q => ?_
      have h1 : m * c ≤ m * (-1) := Int.mul_le_mul_of_nonneg_left (by omega) (by omega)
      have h2 : 0 ≤ a * n := Int.mul_nonneg a0 n0
      omega
    have d0 : 0 ≤ d := by
      refine Decidable.byContradiction fun q => ?_
      have h1 : m * d ≤ m * (-1) := Int.mul_le_mul_of_nonneg_left (by omega) (by omega)
      have h2 : 0 ≤ b * n := Int.mul_nonneg b0 n0
      omega
    rw [hc, hd, Int.mul_ediv_cancel_left _ (by omega), Int.mul_ediv_cancel_left _ (by omega)] at z
    have : c = d := by omega
    rw [this, ← hd] at hc
    have := Int.eq_of_mul_eq_mul_right (by omega : n ≠ 0) hc
    omega
  have sub : ((fitL m n).map fun x => (x * n / m).toNat) ⊆ List.range n.toNat := fun y hy => by
    obtain ⟨x, hx, rfl⟩ := List.mem_map.mp hy
    obtain ⟨⟨x0, x1⟩, ex⟩ := mem_fit.mp hx
    obtain ⟨c, hc⟩ := Int.dvd_of_emod_eq_zero ex
    refine List.mem_range.mpr ?_
    rw [hc, Int.mul_ediv_cancel_left _ (by omega)]
    have h1 : (x + 1) * n ≤ m * n := Int.mul_le_mul_of_nonneg_right (by omega) (by omega)
    rw [Int.add_mul] at h1
    have h2 : m * c < m * n := by omega
    have := Int.lt_of_mul_lt_mul_left h2 (by omega)
    omega
  have := nod.length_le_of_subset sub
  rw [List.length_map, List.length_range] at this
  omega
theorem crossW_len (hss : List (List Int)) (fs : List Int) : (crossW hss fs).length = hss.length * fs.length := by
  unfold crossW
  induction hss with
  | nil => simp
  | cons h hss ih => rw [List.flatMap_cons, List.length_append, ih, List.length_map, List.length_cons, Nat.succ_mul, Nat.add_comm]
theorem crossW_snoc (hss : List (List Int)) (hs : List Int) (fs : List Int) : crossW (hss ++ [hs]) fs = crossW hss fs ++ fs.map fun x => hs ++ [x] := by
  unfold crossW
  rw [List.flatMap_append]
  simp
theorem foldW_len {m : Int} (m0 : 0 < m) : ∀ (ns : List Int) (hss : List (List Int)), (∀ n ∈ ns, 1 ≤ n) → ((ns.foldl (fun hss n => crossW hss (fitL m n)) hss).length : Int) ≤ hss.length * prodL ns
  | [], hss, _ => by simp [prodL]
  | n :: ns, hss, h => by
    rw [List.foldl_cons, prodL_cons]
    refine Int.le_trans (foldW_len m0 ns _ fun x hx => h x (List.mem_cons_of_mem _ hx)) ?_
    have n1 := h n List.mem_cons_self
    have h2 := fit_len m0 n1
    have h3 := prodL_pos fun x hx => h x (List.mem_cons_of_mem _ hx)
    rw [crossW_len, Int.natCast_mul, Int.mul_assoc]
    exact Int.mul_le_mul_of_nonneg_left (Int.mul_le_mul_of_nonneg_right h2 (by omega)) (Int.natCast_nonneg _)
theorem wtsA_len {m : Int} (m0 : 0 < m) {ns : List Int} (h : ∀ n ∈ ns, 1 ≤ n) : ((wtsA m ns).length : Int) ≤ prodL ns := by
  have := foldW_len m0 ns [[]] h
  simpa [wtsA] using this
theorem mem_foldW (m : Int) : ∀ (ns : List Int) (hss : List (List Int)) (ws : List Int), ws ∈ ns.foldl (fun hss n => crossW hss (fitL m n)) hss ↔ ∃ h ∈ hss, ∃ q : List Int, q.length = ns.length ∧ (∀ (i : Nat) (x n : Int), q[i]? = some x → ns[i]? = some n → (0 ≤ x ∧ x < m) ∧ x * n % m = 0) ∧ ws = h ++ q
  | [], hss, p => by
    constructor
    · intro h
      exact ⟨p, h, [], rfl, fun i x n hx => (by simp at hx), by simp⟩
    · rintro ⟨h, hh, q, ql, _, rfl⟩
      cases q with
      | nil => rw [List.append_nil]; exact hh
      | cons x q => cases ql
  | n :: ns, hss, p => by
    rw [List.foldl_cons, mem_foldW m ns]
    constructor
    · rintro ⟨h, hh, q, ql, hq, rfl⟩
      obtain ⟨g, hg, hh⟩ := List.mem_flatMap.mp hh
      obtain ⟨y, hy, rfl⟩ := List.mem_map.mp hh
      refine ⟨g, hg, y :: q, by rw [List.length_cons, List.length_cons, ql], fun i x k hx hk => ?_, by simp⟩
      cases i with
      | zero =>
        cases hx
        cases hk
        exact mem_fit.mp hy
      | succ i => exact hq i x k (by simpa using hx) (by simpa using hk)
    · rintro ⟨h, hh, q, ql, hq, rfl⟩
      cases q with
      | nil => cases ql
      | cons x q =>
        exact ⟨h ++ [x], List.mem_flatMap.mpr ⟨h, hh, List.mem_map.mpr ⟨x, mem_fit.mpr (hq 0 x n rfl rfl), rfl⟩⟩, q, Nat.succ.inj ql, fun i y k hy hk => hq (i + 1) y k (by simpa using hy) (by simpa using hk), by simp⟩
theorem mem_wts {m : Int} {ns ws : List Int} : ws ∈ wtsA m ns ↔ ws.length = ns.length ∧ ∀ (i : Nat) (x n : Int), ws[i]? = some x → ns[i]? = some n → (0 ≤ x ∧ x < m) ∧ x * n % m = 0 := by
  unfold wtsA
  rw [mem_foldW]
  constructor
  · rintro ⟨h, hh, q, ql, hq, rfl⟩
    rw [List.mem_singleton.mp hh]
    exact ⟨ql, hq⟩
  · rintro ⟨ql, hq⟩
    exact ⟨[], List.mem_singleton.mpr rfl, ws, ql, hq, rfl⟩
theorem wts_wit {m r : Int} {ns ws : List Int} (m3 : 3 ≤ m) (mo : m % 2 = 1) (r0 : 0 ≤ r) (r1 : r < m) (h : ws ∈ wtsA m ns) : WitOk ns m ws r := by
  obtain ⟨h1, h2⟩ := mem_wts.mp h
  refine ⟨m3, mo, r0, r1, h1, fun x hx => ?_, fun i x n hx hn => (h2 i x n hx hn).2⟩
  obtain ⟨i, hi⟩ := List.mem_iff_getElem?.mp hx
  have li : i < ns.length := by
    rw [← h1]
    exact (List.getElem?_eq_some_iff.mp hi).1
  exact (h2 i x _ hi (List.getElem?_eq_getElem li)).1
theorem wit_wts {m r : Int} {ns ws : List Int} (w : WitOk ns m ws r) : ws ∈ wtsA m ns :=
  mem_wts.mpr ⟨w.len, fun i x n hx hn => ⟨w.w0 x (List.mem_of_getElem? hx), w.fit i x n hx hn⟩⟩
/-! ### odd prime powers -/
theorem cop_mul {a b d : Int} (h : Int.gcd a b = 1) (ha : a ∣ d) (hb : b ∣ d) : a * b ∣ d := by
  have h1 := Nat.Coprime.mul_dvd_of_dvd_of_dvd (show Nat.Coprime a.natAbs b.natAbs from h) (Int.natAbs_dvd_natAbs.mpr ha) (Int.natAbs_dvd_natAbs.mpr hb)
  rw [← Int.natAbs_mul] at h1
  exact Int.natAbs_dvd_natAbs.mp h1
theorem cop_left {a b c : Int} (h : Int.gcd a b = 1) (hd : a ∣ b * c) : a ∣ c := by
  have h1 := Int.natAbs_dvd_natAbs.mpr hd
  rw [Int.natAbs_mul] at h1
  exact Int.natAbs_dvd_natAbs.mp (Nat.Coprime.dvd_of_dvd_mul_left (show Nat.Coprime a.natAbs b.natAbs from h) h1)
theorem cop_pow {a b : Int} (h : Int.gcd a b = 1) (k : Nat) : Int.gcd (a ^ k) b = 1 := by
  unfold Int.gcd at *
  rw [Int.natAbs_pow]
  exact Nat.Coprime.pow_left k h
theorem gcd_sym {a b : Int} (h : Int.gcd a b = 1) : Int.gcd b a = 1 := by rw [Int.gcd_comm]; exact h
/-- the least odd divisor is prime -/
theorem least_cop {n p x : Int} (lo : LeastOdd n p) (hx : x ∣ n) (hp : ¬ p ∣ x) : Int.gcd p x = 1 := by
  have gp : ((Int.gcd p x : Nat) : Int) ∣ p := Int.gcd_dvd_left ..
  have gx : ((Int.gcd p x : Nat) : Int) ∣ x := Int.gcd_dvd_right ..
  refine Decidable.byContradiction fun c => ?_
  have p3 := lo.three
  have g0 : Int.gcd p x ≠ 0 := fun z => by
    rw [z] at gp
    obtain ⟨q, hq⟩ := gp
    have : p = 0 := by rw [hq]; exact Int.zero_mul _
    omega
  have odd : ((Int.gcd p x : Nat) : Int) % 2 = 1 := by
    obtain ⟨k, hk⟩ := gp
    have := lo.odd
    rw [hk, Int.mul_emod] at this
    rcases Int.emod_two_eq ((Int.gcd p x : Nat) : Int) with z | z
    · rw [z] at this
      simp at this
    · exact z
  have g3 : 3 ≤ ((Int.gcd p x : Nat) : Int) := by omega
  have le := lo.least _ g3 odd (Int.dvd_trans gx hx)
  have ge := Int.le_of_dvd (by omega) gp
  have e : ((Int.gcd p x : Nat) : Int) = p := by omega
  rw [e] at gx
  exact hp gx

/-- the powers of p that divide rest, from pw on; what is left -/
def powsL : Nat → Int → Int → Int → List Int × Int
  | 0, rest, _, _ => ([], rest)
  | f + 1, rest, p, pw => if rest % p = 0 then (pw :: (powsL f (rest / p) p (pw * p)).1, (powsL f (rest / p) p (pw * p)).2) else ([], rest)
def oppL : Nat → Int → List Int
  | 0, _ => []
  | f + 1, rest => match oddP rest with
    | none => []
    | some p => (powsL (f + 1) rest p p).1 ++ oppL f (powsL (f + 1) rest p p).2
theorem pows_ok {p : Int} (p3 : 3 ≤ p) : ∀ (f : Nat) {rest : Int} (pw : Int), 1 ≤ rest → rest < 3 ^ f → ∃ (a : Nat) (r2 : Int), (powsL f rest p pw).2 = r2 ∧ 1 ≤ r2 ∧ r2 ≤ rest ∧ rest = p ^ a * r2 ∧ ¬ p ∣ r2 ∧ ∀ q, q ∈ (powsL f rest p pw).1 ↔ ∃ j, j < a ∧ q = pw * p ^ j
  | 0, rest, pw, h1, h2 => by
    have : rest < 1 := by simpa using h2
    omega
  | f + 1, rest, pw, h1, h2 => by
    unfold powsL
    by_cases c : rest % p = 0
    · rw [if_pos c]
      obtain ⟨k, hk⟩ := Int.dvd_of_emod_eq_zero c
      have e : rest / p = k := by rw [hk]; exact Int.mul_ediv_cancel_left _ (by omega)
      have k1 : 1 ≤ k := by
        refine Decidable.byContradiction fun q => ?_
        have : p * k ≤ p * 0 := Int.mul_le_mul_of_nonneg_left (by omega) (by omega)
        omega
      have k3 : 3 * k ≤ p * k := Int.mul_le_mul_of_nonneg_right p3 (by omega)
      have h3 : k < 3 ^ f := by
        rw [Int.pow_succ] at h2
        omega
      rw [e]
      obtain ⟨a, r2, g1, g2, g3, g4, g5, g6⟩ := pows_ok p3 f (pw * p) k1 h3
      refine ⟨a + 1, r2, g1, g2, by omega, ?_, g5, fun q => ?_⟩
      · rw [hk, g4, Int.pow_succ]
        generalize p ^ a = z
        grind
      · show q ∈ pw :: _ ↔ _
        rw [List.mem_cons, g6]
        constructor
        · rintro (rfl | ⟨j, hj, rfl⟩)
          · exact ⟨0, by omega, by simp⟩
          · refine ⟨j + 1, by omega, ?_⟩
            rw [Int.pow_succ]
            generalize p ^ j = z
            grind
        · rintro ⟨j, hj, rfl⟩
          cases j with
          | zero => exact .inl (by simp)
          | succ j =>
            refine .inr ⟨j, by omega, ?_⟩
            rw [Int.pow_succ]
            generalize p ^ j = z
            grind
    · rw [if_neg c]
      exact ⟨0, rest, rfl, h1, Int.le_refl _, by simp, fun z => c (Int.emod_eq_zero_of_dvd z), fun q => ⟨fun h => (nomatch h), fun ⟨j, h, _⟩ => (by omega)⟩⟩
theorem max_pow {p : Int} (p3 : 3 ≤ p) {m : Int} (m1 : 1 ≤ m) : ∃ (b : Nat) (m2 : Int), 1 ≤ m2 ∧ m = p ^ b * m2 ∧ ¬ p ∣ m2 := by
  have h : m < 3 ^ m.toNat := by
    have : ∀ k : Nat, (k : Int) < 3 ^ k := fun k => by
      induction k with
      | zero => decide
      | succ k ih => rw [Int.pow_succ]; omega
    have := this m.toNat
    omega
  obtain ⟨a, r2, _, g2, _, g4, g5, _⟩ := pows_ok p3 m.toNat p m1 h
  exact ⟨a, r2, g2, g4, g5⟩
theorem odd_of_mul {a b : Int} (h : (a * b) % 2 = 1) : b % 2 = 1 := by
  rcases Int.emod_two_eq b with z | z
  · rw [Int.mul_emod, z] at h
    simp at h
  · exact z
theorem pow_odd {p : Int} (h : p % 2 = 1) : ∀ j : Nat, p ^ j % 2 = 1
  | 0 => by simp
  | j + 1 => by rw [Int.pow_succ, Int.mul_emod, pow_odd h j, h]; rfl
theorem pow_ge {p : Int} (h : 3 ≤ p) : ∀ j : Nat, 1 ≤ p ^ j
  | 0 => by simp
  | j + 1 => by
    rw [Int.pow_succ]
    have := pow_ge h j
    have : 1 * p ≤ p ^ j * p := Int.mul_le_mul_of_nonneg_right this (by omega)
    omega
/-- an odd number is told by its prime powers -/
theorem opp_ok : ∀ (f : Nat) {o : Int}, 1 ≤ o → o % 2 = 1 → o < 3 ^ f → (∀ q ∈ oppL f o, 3 ≤ q ∧ q % 2 = 1 ∧ q ∣ o) ∧ ∀ m d : Int, 1 ≤ m → m ∣ o → (∀ q ∈ oppL f o, q ∣ m → q ∣ d) → m ∣ d
  | 0, o, h1, _, h2 => by
    have : o < 1 := by simpa using h2
    omega
  | f + 1, o, o1, oo, hf => by
    unfold oppL
    cases hp : oddP o with
    | none =>
      refine ⟨fun q hq => (nomatch hq), fun m d m1 hm _ => ?_⟩
      have mo : m % 2 = 1 := by
        obtain ⟨c, hc⟩ := hm
        rw [hc, Int.mul_comm] at oo
        exact odd_of_mul oo
      have : ¬ 3 ≤ m := fun h3 => oddP_none o1 hp m h3 mo hm
      have : m = 1 := by omega
      rw [this]
      exact Int.one_dvd d
    | some p =>
      have lo := oddP_some o1 hp
      have p3 := lo.three
      obtain ⟨a, r2, g1, g2, g3, g4, g5, g6⟩ := pows_ok p3 (f + 1) p o1 hf
      have a1 : 1 ≤ a := by
        refine Decidable.byContradiction fun z => ?_
        have : a = 0 := by omega
        rw [this] at g4
        have e : o = r2 := by simpa using g4
        exact g5 (e ▸ lo.dvd)
      show (∀ q ∈ (powsL (f + 1) o p p).1 ++ oppL f (powsL (f + 1) o p p).2, _) ∧ _
      rw [g1]
      have r2o : r2 % 2 = 1 := by
        rw [g4] at oo
        exact odd_of_mul oo
      have r2d : r2 ∣ o := ⟨p ^ a, by rw [g4, Int.mul_comm]⟩
      have r2f : r2 < 3 ^ f := by
        obtain ⟨a, rfl⟩ : ∃ a', a = a' + 1 := ⟨a - 1, by omega⟩
        rw [Int.pow_succ, Int.mul_assoc] at g4
        have h1 : 3 * r2 ≤ p * r2 := Int.mul_le_mul_of_nonneg_right p3 (by omega)
        have h2 := pow_ge p3 a
        have h3 : 1 * (p * r2) ≤ p ^ a * (p * r2) := Int.mul_le_mul_of_nonneg_right h2 (by omega)
        rw [Int.pow_succ] at hf
        omega
      obtain ⟨i1, i2⟩ := opp_ok f g2 r2o r2f
      constructor
      · intro q hq
        rcases List.mem_append.mp hq with h | h
        · obtain ⟨j, hj, rfl⟩ := (g6 q).mp h
          have h1 := pow_ge p3 j
          have h2 : p * 1 ≤ p * p ^ j := Int.mul_le_mul_of_nonneg_left h1 (by omega)
          refine ⟨by omega, ?_, ?_⟩
          · rw [Int.mul_emod, lo.odd, pow_odd lo.odd]
            rfl
          · obtain ⟨c, rfl⟩ : ∃ c, a = (j + 1) + c := ⟨a - (j + 1), by omega⟩
            rw [g4, Int.pow_add, Int.pow_succ]
            refine ⟨p ^ c * r2, ?_⟩
            generalize p ^ j = z
            generalize p ^ c = y
            grind
        · obtain ⟨x, y, z⟩ := i1 q h
          exact ⟨x, y, Int.dvd_trans z r2d⟩
      · intro m d m1 hm hq
        obtain ⟨b, m2, m21, em, hm2⟩ := max_pow p3 m1
        have m2m : m2 ∣ m := ⟨p ^ b, by rw [em, Int.mul_comm]⟩
        have pbm : p ^ b ∣ m := ⟨m2, em⟩
        have c1 : Int.gcd p m2 = 1 := least_cop lo (Int.dvd_trans m2m hm) hm2
        have c2 : Int.gcd p r2 = 1 := least_cop lo r2d g5
        have m2r : m2 ∣ r2 := by
          refine cop_left (b := p ^ a) (gcd_sym (cop_pow c1 a)) ?_
          rw [← g4]
          exact Int.dvd_trans m2m hm
        have bd : p ^ b ∣ p ^ a := by
          refine cop_left (b := r2) (cop_pow c2 b) ?_
          rw [Int.mul_comm, ← g4]
          exact Int.dvd_trans pbm hm
        have ba : b ≤ a := by
          refine Decidable.byContradiction fun z => ?_
          obtain ⟨k, rfl⟩ : ∃ k, b = a + (k + 1) := ⟨b - a - 1, by omega⟩
          have h0 := pow_ge p3 a
          have h1 := pow_ge p3 k
          have h2 := Int.le_of_dvd (by omega) bd
          rw [Int.pow_add, Int.pow_succ] at h2
          have h3 : 1 * p ≤ p ^ k * p := Int.mul_le_mul_of_nonneg_right h1 (by omega)
          have h4 : p ^ a * 3 ≤ p ^ a * (p ^ k * p) := Int.mul_le_mul_of_nonneg_left (by omega) (by omega)
          omega
        have d2 : m2 ∣ d := i2 m2 d m21 m2r fun q hq2 hd => hq q (List.mem_append_right _ (by rw [g1]; exact hq2)) (Int.dvd_trans hd m2m)
        have d1 : p ^ b ∣ d := by
          cases b with
          | zero => simp
          | succ b =>
            refine hq _ (List.mem_append_left _ ((g6 _).mpr ⟨b, by omega, ?_⟩)) pbm
            rw [Int.pow_succ, Int.mul_comm]
        rw [em]
        exact cop_mul (cop_pow c1 b) d1 d2
/-! ### the search -/
section
variable {α β : Type} {f : β → α → β} {μ : β → Nat}
theorem foldl_up (mono : ∀ b a, μ b ≤ μ (f b a)) : ∀ (l : List α) (b : β), μ b ≤ μ (l.foldl f b)
  | [], _ => Nat.le_refl _
  | a :: l, b => Nat.le_trans (mono b a) (foldl_up mono l (f b a))
theorem foldl_ge (mono : ∀ b a, μ b ≤ μ (f b a)) : ∀ (l : List α) (b : β) {a : α}, a ∈ l → ∀ {k : Nat}, (∀ b, k ≤ μ (f b a)) → k ≤ μ (l.foldl f b)
  | x :: l, b, a, h, k, hk => by
    rw [List.foldl_cons]
    rcases List.mem_cons.mp h with rfl | h
    · exact Nat.le_trans (hk b) (foldl_up mono l _)
    · exact foldl_ge mono l _ h hk
theorem foldl_good {G : β → Prop} : ∀ (l : List α) (b : β), G b → (∀ b a, a ∈ l → G b → G (f b a)) → G (l.foldl f b)
  | [], _, h, _ => h
  | x :: l, b, h, hs => foldl_good l _ (hs b x List.mem_cons_self h) fun b a ha => hs b a (List.mem_cons_of_mem _ ha)
end
abbrev KSt := Nat × Option (Int × List Int × Int)
def keepR (op : List (List Int)) (p : List Int) (m : Int) (ws : List Int) (st : KSt) (r : Int) : KSt := if st.1 < cntR m ws op r ∧ r ≠ wsum ws p % m then (cntR m ws op r, some (m, ws, r)) else st
def keepW (op : List (List Int)) (p : List Int) (m : Int) (st : KSt) (ws : List Int) : KSt := (resL m ws op).foldl (keepR op p m ws) st
def keepM (ns : List Int) (op : List (List Int)) (p : List Int) (st : KSt) (m : Int) : KSt := (wtsA m ns).foldl (keepW op p m) st
def keptL (ns : List Int) (op : List (List Int)) (p : List Int) : KSt := (oppL 9 (oddI (prodL ns))).foldl (keepM ns op p) (0, none)
/-- a witness that the law looks at, and a value that the seat does not have -/
structure LookAt (ns p : List Int) (m : Int) (ws : List Int) (r : Int) : Prop where
  m3 : 3 ≤ m
  odd : m % 2 = 1
  dvd : m ∣ prodL ns
  wts : ws ∈ wtsA m ns
  r0 : 0 ≤ r
  r1 : r < m
  ne : r ≠ wsum ws p % m
/-- the greatest number -/
structure MostOk (ns : List Int) (op : List (List Int)) (p : List Int) (M : Nat) : Prop where
  all : ∀ m ws r, LookAt ns p m ws r → cntR m ws op r ≤ M
  some : M = 0 ∨ ∃ m ws r, LookAt ns p m ws r ∧ cntR m ws op r = M
def KGood (ns : List Int) (op : List (List Int)) (p : List Int) (st : KSt) : Prop := (st.1 = 0 ∧ st.2 = none) ∨ ∃ m ws r, st.2 = some (m, ws, r) ∧ LookAt ns p m ws r ∧ cntR m ws op r = st.1 ∧ 0 < st.1
theorem keepR_up (op : List (List Int)) (p : List Int) (m : Int) (ws : List Int) (st : KSt) (r : Int) : st.1 ≤ (keepR op p m ws st r).1 := by
  unfold keepR
  split
  · rename_i h
    exact Nat.le_of_lt h.1
  · exact Nat.le_refl _
theorem keepW_up (op : List (List Int)) (p : List Int) (m : Int) (st : KSt) (ws : List Int) : st.1 ≤ (keepW op p m st ws).1 := foldl_up (μ := fun st : KSt => st.1) (keepR_up op p m ws) _ _
theorem keepM_up (ns : List Int) (op : List (List Int)) (p : List Int) (st : KSt) (m : Int) : st.1 ≤ (keepM ns op p st m).1 := foldl_up (μ := fun st : KSt => st.1) (keepW_up op p m) _ _
theorem oddI_div {n : Int} (n1 : 1 ≤ n) : oddI n ∣ n ∧ oddI n % 2 = 1 ∧ 1 ≤ oddI n := by
  obtain ⟨⟨k, hk⟩, h2, h3⟩ := oddI_ok n1
  exact ⟨⟨2 ^ k, by rw [Int.mul_comm]; exact hk⟩, h2, by omega⟩
theorem wsum_mod {m q : Int} (hd : q ∣ m) : ∀ (ws xs : List Int), q ∣ wsum ws xs - wsum (ws.map fun w => w % q) xs
  | [], _ => by simp [wsum]
  | _ :: _, [] => by simp [wsum]
  | w :: ws, x :: xs => by
    have ih := wsum_mod hd ws xs
    rw [List.map_cons, wsum_cons, wsum_cons]
    have h1 : q ∣ (w - w % q) * x := Int.dvd_mul_of_dvd_left (by have := Int.mul_ediv_add_emod w q; exact ⟨w / q, by omega⟩)
    refine (congrArg (q ∣ ·) ?_).mp (Int.dvd_add h1 ih)
    grind
theorem kept_good {ns : List Int} {op : List (List Int)} {p : List Int} (one : ∀ n ∈ ns, 1 ≤ n) (pr : prodL ns ≤ 300) : KGood ns op p (keptL ns op p) := by
  have N1 := prodL_pos one
  obtain ⟨o1, o2, o3⟩ := oddI_div N1
  have ol : oddI (prodL ns) ≤ prodL ns := Int.le_of_dvd (by omega) o1
  obtain ⟨qok, _⟩ := opp_ok 9 o3 o2 (show oddI (prodL ns) < 3 ^ 9 by omega)
  unfold keptL
  refine foldl_good _ _ (.inl ⟨rfl, rfl⟩) fun st m hm g => ?_
  obtain ⟨m3, mo, md⟩ := qok m hm
  unfold keepM
  refine foldl_good _ _ g fun st ws hws g => ?_
  unfold keepW
  refine foldl_good _ _ g fun st r hr g => ?_
  unfold keepR
  by_cases c : st.1 < cntR m ws op r ∧ r ≠ wsum ws p % m
  · rw [if_pos c]
    obtain ⟨⟨r0, r1⟩, _⟩ := mem_resL.mp hr
    exact .inr ⟨m, ws, r, rfl, ⟨m3, mo, Int.dvd_trans md o1, hws, r0, r1, c.2⟩, rfl, by show 0 < cntR m ws op r; omega⟩
  · rw [if_neg c]
    exact g
theorem kept_all {ns : List Int} {op : List (List Int)} {p : List Int} (one : ∀ n ∈ ns, 1 ≤ n) (pr : prodL ns ≤ 300) {m r : Int} {ws : List Int} (h : LookAt ns p m ws r) : cntR m ws op r ≤ (keptL ns op p).1 := by
  have N1 := prodL_pos one
  obtain ⟨o1, o2, o3⟩ := oddI_div N1
  have ol : oddI (prodL ns) ≤ prodL ns := Int.le_of_dvd (by omega) o1
  obtain ⟨qok, qall⟩ := opp_ok 9 o3 o2 (show oddI (prodL ns) < 3 ^ 9 by omega)
  have m3 := h.m3
  have mO : m ∣ oddI (prodL ns) := by
    obtain ⟨⟨k, hk⟩, _⟩ := oddI_ok N1
    refine odd_pow2 h.odd k ?_
    rw [← hk]
    exact h.dvd
  have nd : ¬ m ∣ r - wsum ws p := fun z => h.ne (by
    have := emod_eq_iff.mpr z
    rwa [Int.emod_eq_of_lt h.r0 h.r1] at this)
  obtain ⟨q, hq, hqm, hqd⟩ : ∃ q ∈ oppL 9 (oddI (prodL ns)), q ∣ m ∧ ¬ q ∣ r - wsum ws p := by
    refine Classical.byContradiction fun no => nd (qall m _ (by omega) mO fun q hq hqm => ?_)
    exact Classical.byContradiction fun c => no ⟨q, hq, hqm, c⟩
  obtain ⟨q3, qo, qd⟩ := qok q hq
  have eqm : ∀ x : List Int, wsum (ws.map fun w => w % q) x % q = wsum ws x % q := fun x => (emod_eq_iff.mpr (wsum_mod hqm ws x)).symm
  have hw2 : (ws.map fun w => w % q) ∈ wtsA q ns := by
    obtain ⟨h1, h2⟩ := mem_wts.mp h.wts
    refine mem_wts.mpr ⟨by rw [List.length_map, h1], fun i x n hx hn => ?_⟩
    rw [List.getElem?_map] at hx
    obtain ⟨w, hw, rfl⟩ := Option.map_eq_some_iff.mp hx
    refine ⟨⟨Int.emod_nonneg _ (by omega), Int.emod_lt_of_pos _ (by omega)⟩, ?_⟩
    have d1 : q ∣ w * n := Int.dvd_trans hqm (Int.dvd_of_emod_eq_zero (h2 i w n hw hn).2)
    rw [Int.mul_emod, Int.emod_emod, ← Int.mul_emod]
    exact Int.emod_eq_zero_of_dvd d1
  have le : cntR m ws op r ≤ cntR q (ws.map fun w => w % q) op (r % q) := by
    unfold cntR
    rw [← List.countP_eq_length_filter, ← List.countP_eq_length_filter]
    refine List.countP_mono_left fun x _ hx => ?_
    have e := of_decide_eq_true hx
    refine decide_eq_true ?_
    rw [eqm, ← e, Int.emod_emod_of_dvd _ hqm]
  refine Nat.le_trans le ?_
  by_cases z : cntR q (ws.map fun w => w % q) op (r % q) = 0
  · omega
  have hr : r % q ∈ resL q (ws.map fun w => w % q) op := mem_resL.mpr ⟨⟨Int.emod_nonneg _ (by omega), Int.emod_lt_of_pos _ (by omega)⟩, z⟩
  have ne : r % q ≠ wsum (ws.map fun w => w % q) p % q := fun z => hqd (emod_eq_iff.mp (z.trans (eqm p)))
  unfold keptL
  refine foldl_ge (μ := fun st : KSt => st.1) (keepM_up ns op p) _ _ hq fun st => ?_
  unfold keepM
  refine foldl_ge (μ := fun st : KSt => st.1) (keepW_up op p q) _ _ hw2 fun st => ?_
  unfold keepW
  refine foldl_ge (μ := fun st : KSt => st.1) (keepR_up op p q _) _ _ hr fun st => ?_
  unfold keepR
  by_cases c : st.1 < cntR q (ws.map fun w => w % q) op (r % q) ∧ r % q ≠ wsum (ws.map fun w => w % q) p % q
  · rw [if_pos c]
    exact Nat.le_refl _
  · rw [if_neg c]
    exact Nat.le_of_not_lt fun z => c ⟨z, ne⟩
theorem kept_most {ns : List Int} {op : List (List Int)} {p : List Int} (one : ∀ n ∈ ns, 1 ≤ n) (pr : prodL ns ≤ 300) {M : Nat} (h : MostOk ns op p M) : (keptL ns op p).1 = M := by
  refine Nat.le_antisymm ?_ ?_
  · rcases kept_good (op := op) (p := p) one pr with g | ⟨m, ws, r, _, g2, g3, _⟩
    · omega
    · rw [← g3]
      exact h.all m ws r g2
  · rcases h.some with g | ⟨m, ws, r, g1, g2⟩
    · omega
    · rw [← g2]
      exact kept_all one pr g1

theorem mul_le_prod {ns : List Int} (h : ∀ n ∈ ns, 1 ≤ n) {i : Nat} {n : Int} (hn : ns[i]? = some n) : n ≤ prodL ns := by
  have o1 : ∀ m ∈ ns.take i, 1 ≤ m := fun m hm => h m (List.mem_of_mem_take hm)
  have a1 : prodL (ns.take (i + 1)) ≤ prodL ns := prodL_take (i + 1) h
  have n1 := h n (List.mem_of_getElem? hn)
  rw [take_more hn, prodS_snoc] at a1
  have a2 := prodL_pos o1
  have a3 : 1 * n ≤ prodL (ns.take i) * n := Int.mul_le_mul_of_nonneg_right a2 (by omega)
  omega
theorem szc_of {ns : List Int} (ok : SzOk ns) (pr : prodL ns ≤ 300) : SzC ns := fun n hn => by
  obtain ⟨i, hi⟩ := List.getElem?_of_mem hn
  have := mul_le_prod ok.one hi
  exact Int.le_trans (show n ≤ 300 by omega) (by decide +kernel)
/-- the unvisited seats in ascending order -/
def openL (ns : List Int) (vis : List (List Int)) (p : List Int) : List (List Int) := (allS ns).filter fun o => decide (o ∉ vis) && decide (o ≠ p)
theorem openL_nodup (ns : List Int) (vis : List (List Int)) (p : List Int) : (openL ns vis p).Nodup := (allS_nodup ns).filter _
theorem mem_open {ns : List Int} {vis : List (List Int)} {p o : List Int} : o ∈ openL ns vis p ↔ SeatOk ns o ∧ o ∉ vis ∧ o ≠ p := by
  unfold openL
  rw [List.mem_filter, mem_allS, Bool.and_eq_true, decide_eq_true_eq, decide_eq_true_eq]
theorem openL_len {ns : List Int} (ok : SzOk ns) (pr : prodL ns ≤ 300) (vis : List (List Int)) (p : List Int) : (openL ns vis p).length ≤ 300 := by
  have h1 := allS_len ok.one
  have h2 : (openL ns vis p).length ≤ (allS ns).length := List.length_filter_le _ _
  omega
theorem seats_len {ns : List Int} (ok : SzOk ns) (pr : prodL ns ≤ 300) {tss : List (List Int)} (nod : tss.Nodup) (sks : ∀ t ∈ tss, SeatOk ns t) : tss.length ≤ 300 := by
  have h1 := allS_len ok.one
  have h2 := nod.length_le_of_subset (l₂ := allS ns) fun t ht => mem_allS.mpr (sks t ht)
  omega
/-- what the caller does on a seat -/
def ActV (H : Hp) (r : Addr) (ns : List Int) (op : List (List Int)) (p : List Int) : Prop :=
  if op = [] then H r = some (.tup [.str "complete"]) else
    match dep (countsL ns op) p with
    | some d => ∃ (c : List Int) (rc : Addr) (rest : List (List Int)), fromL ns (countsL ns op) p d = c :: rest ∧ H r = some (.tup [.str "call", .ref rc]) ∧ H rc = some (.tup (c.map V.int))
    | none => ∃ (i : Nat) (wt : Addr), sepI (shiftB ns op) ns.length (diffL p (op.headD [])) = some i ∧ H r = some (.tup [.str "end", .ref wt]) ∧ WitAt H wt (witM (shiftB ns op) ns.length i) (witW (shiftB ns op) ns.length i) (wsum (witW (shiftB ns op) ns.length i) (op.headD []) % witM (shiftB ns op) ns.length i)
def BoolAt (H : Hp) (D : Addr) (tss : List (List Int)) : Prop := H D = some (.dT (tss.map fun p => (entK p, V.bl true)))
theorem bool_val (p : List Int) : ∀ tss : List (List Int), valV (tss.map fun p => (entK p, V.bl true)) (entK p) = if p ∈ tss then some (V.bl true) else none
  | [] => rfl
  | t :: tss => by
    rw [List.map_cons]
    by_cases c : t = p
    · rw [valV_pos (show entK t = entK p by rw [c]), if_pos (by rw [c]; exact List.mem_cons_self)]
    · rw [valV_neg (fun z => c (entK_inj z)), bool_val p tss]
      by_cases c2 : p ∈ tss
      · rw [if_pos c2, if_pos (List.mem_cons_of_mem _ c2)]
      · rw [if_neg c2, if_neg (fun z => by rcases List.mem_cons.mp z with rfl | z; exact c rfl; exact c2 z)]
theorem bool_get {H : Hp} {d r : Addr} {tss : List (List Int)} {p : List Int} (h : BoolAt H d tss) (hr : H r = some (.tup (p.map V.int))) : DGet H d (.ref r) (if p ∈ tss then some (V.bl true) else none) := by
  rw [← bool_val]
  exact DGet.t h (by rw [entK_kV]; exact hr)
section
variable {P : Program} {w : World} {K : PySem.W.Frag} {mg : Str → Option Value} {base : Heap}
def sp_require_visited (C : Addr) : Sp := fun vs H Q _ => ∃ (a : Addr) (q : Bool × Addr) (ns : List Int) (tss : List (List Int)), vs = [.ref a, .ref q.2] ∧ TabAt C H a ns ∧ ns.length ≤ 4 ∧ RowsQ H q tss ∧ tss.length ≤ 100000 ∧ (∀ ts ∈ tss, SeatOk ns ts) ∧ tss.Nodup ∧ ∀ H2, Ex H H2 → Q .non H2
theorem ok_require_visited (T : TX K mg) : FnOk P w K mg base CX0 4 T.f_require_visited T.fd_require_visited ["table", "visited"] (sp_require_visited T.C_Table) := by
  refine T.F_require_visited.ok sc_require_visited (fun vs H Q E h => ?_) (fun cdv A outer s H vs Q E hr h => ?_)
  · obtain ⟨a, q, ns, tss, rfl, _⟩ := h
    rfl
  · obtain ⟨a, ⟨b, q⟩, ns, tss, rfl, tab, l4, ⟨xs, hq, rr⟩, lts, sks, nod, k⟩ := h
    refine ⟨_, (pss_cons (ps_if (pt_not (pt_val (pe_callB call_isiT (by rfl) T.z_isinstance (by decide +kernel) (pa_cons (pv 1) (pa_cons (pe_tup (pa_cons (pe_bltn (v := .ty "list") rfl T.z_list (by decide +kernel) rfl) (pa_cons (pe_bltn (v := .ty "tuple") rfl T.z_tuple (by decide +kernel) rfl) pa_nil))) pa_nil))))) pss_never pss_nil) (pss_cons (ps_set (i := 2) sc_require_visited.nd rfl (Or.inl rfl) pe_dnewT) (pss_one (ps_for PassesOwn.never rfl (CE.pi_e rfl T.z_enumerate (pa_cons (pv 1) pa_nil)) (pg_tup rfl (pgs_cons (pg_name (i := 3) sc_require_visited.nd rfl (Or.inl rfl)) (pgs_cons (pg_name (i := 4) sc_require_visited.nd rfl (Or.inl rfl)) pgs_nil))) (pss_cons (ps_if (PW.pt (pw_or (pt_not (pt_val (pe_meth (pv 0) T.cl_Table T.me_Table_is_seat (ok_Table_is_seat T) hr T.b_Table_is_seat .nil pass0 (pa_cons (pv 4) pa_nil)))) (pw_or1 (pt_cmp (pc_din (hu_of hr) (pv 4) (pv 2)))))) pss_never pss_nil) (pss_one (ps_dput (hu_of hr) (pv 2) (pv 4) (pv 3) (by rfl)))))))), ?_⟩
    have lx := rr.len
    (repeat (first | refine ⟨rfl, ?_⟩ | refine ⟨_, rfl, ?_⟩ | refine ⟨_, _, rfl, rfl, ?_⟩ | refine ⟨_, _, rfl, ?_⟩ | refine ⟨slen rfl, ?_⟩ | refine ⟨⟨by decide, by decide +kernel⟩, ?_⟩ | refine ⟨⟨by decide, by decide, by decide⟩, ?_⟩ | refine ⟨(by show (0 : Int) < _; first | decide | assumption | omega), ?_⟩ | refine ⟨mul_ok (by first | exact .inr (by decide) | exact .inl (by decide)), ?_⟩))
    (intro y ny; generalize hGy : upd _ y _ = H1; have eH1 := exG hGy ny; have hy := atG hGy; clear hGy)
    have q1 := hq.mono eH1
    refine ⟨_, y, _, _, _, true, rfl, hy, .cons (.ty _) (.cons (.ty _) .nil), q1.ty, kit_seq b, _, rfl, itf rfl ?_⟩
    (intro d nd; generalize hGd : upd _ d _ = H2; have eH2 := exG hGd nd; have hd := atG hGd; clear hGd)
    have e2 : Ex H H2 := ext eH1 eH2
    have nd0 : H d = none := Evl.fresh_back eH1 nd
    refine ⟨_, rfl, (b, q), rfl, ⟨_, (hq.mono e2).sq⟩, ?_⟩
    refine for_it (CE.walk_e (xs := xs)) (fun i σ H3 => ∃ (y3 y4 : Option V) (kvs : List (List Key × V)), σ = [some (.ref a), some (.ref q), some (.ref d), y3, y4] ∧ Ex H H3 ∧ H3 d = some (.dT kvs) ∧ kvs.length = i ∧ ∀ ts : List Int, (valV kvs (kI ts)).isSome = true → ts ∈ tss.take i) ⟨_, _, [], rfl, e2, hd, rfl, fun t h => by simp [valV] at h⟩ (fun i σ H2 _ ⟨_, _, _, _, e, _⟩ => (hq.mono e).sq) ?_ ?_
    · rintro i x σ H3 H4 hi ⟨y3, y4, kvs, rfl, e3, hd3, lk, hv⟩ ⟨Ta, x1, x2, rfl, hT, rfl, hx1, hx2⟩
      cases hx1
      obtain ⟨ts, r, ht, rfl, hr0⟩ := rr.get hx2
      have sk := sks ts (List.mem_of_getElem? ht)
      have lt := sk.len
      have e4 : Ex H (upd H3 Ta (.tup [.int (i : Nat), .ref r])) := ext e3 (exn hT)
      have hd4 := exn (o := .tup [.int (i : Nat), .ref r]) hT _ _ hd3
      refine ⟨Ta, _, rfl, SqT.of upd_same, rfl, _, _, rfl, _, _, rfl, rfl, ?_⟩
      generalize upd H3 Ta (.tup [.int (i : Nat), .ref r]) = H4 at e4 hd4
      obtain ⟨dx, t, g1, g2⟩ := tab.mono e4
      refine ⟨_, rfl, a, dx, _, rfl, g1, rfl, _, rfl, a, _, ns, _, rfl, tab.mono e4, l4, TupA.ints (e4 _ _ hr0) (by omega), fun H5 e5 => ?_⟩
      refine ⟨_, rfl, itf (by rw [isSeat_ok sk]; rfl) ?_⟩
      have hno : valV kvs (kI ts) = none := by
        cases hz : valV kvs (kI ts) with
        | none => rfl
        | some v => exact absurd (hv ts (by rw [hz]; rfl)) (nodup_get nod ht)
      have hd5 := e5 _ _ hd4
      have hr5 : H5 r = some (.tup ((kI ts).map kV)) := by rw [kI_map]; exact e5 _ _ (e4 _ _ hr0)
      refine ⟨_, rfl, _, rfl, d, _, rfl, DGet.t hd5 hr5, _, rfl, itf (by rw [hno]; rfl) ?_⟩
      refine ⟨_, rfl, _, rfl, _, rfl, d, _, rfl, DPut.t hd5 hr5 ?_, ?_⟩
      · rw [lk]
        exact Nat.lt_of_lt_of_le (show i < tss.length by omega) (Nat.le_trans lts (by decide))
      · refine ⟨_, _, putK kvs (kI ts) (.int (i : Nat)), rfl, ?_, upd_same, by rw [put_len hno, lk], fun us hu => ?_⟩
        · intro c o z
          rw [upd_ne (ne_of_none z nd0)]
          exact e5 c o (e4 c o z)
        · rw [valV_put] at hu
          rw [take_more ht, List.mem_append]
          by_cases e : us = ts
          · exact .inr (by rw [e]; exact List.mem_cons_self)
          · rw [if_neg (fun z => e (kI_inj z))] at hu
            exact .inl (hv us hu)
    · rintro σ H2 ⟨y3, y4, kvs, rfl, e3, _⟩
      exact k _ e3
def sp_require_state (C : Addr) : Sp := fun vs H Q _ => ∃ (a s : Addr) (q : Bool × Addr) (ns p : List Int) (tss : List (List Int)), vs = [.ref a, .ref q.2, .ref s] ∧ TabAt C H a ns ∧ ns.length ≤ 4 ∧ RowsQ H q tss ∧ tss.length ≤ 100000 ∧ (∀ ts ∈ tss, SeatOk ns ts) ∧ tss.Nodup ∧ H s = some (.tup (p.map V.int)) ∧ SeatOk ns p ∧ ∀ H2, Ex H H2 → Q .non H2
theorem ok_require_state (T : TX K mg) : FnOk P w K mg base CX0 6 T.f_require_state T.fd_require_state ["table", "visited", "seat"] (sp_require_state T.C_Table) := by
  refine T.F_require_state.ok sc_require_state (fun vs H Q E h => ?_) (fun cdv A outer s H vs Q E hr h => ?_)
  · obtain ⟨a, s, q, ns, p, tss, rfl, _⟩ := h
    rfl
  · obtain ⟨a, s, q, ns, p, tss, rfl, tab, l4, hq, lts, sks, nod, hs, sk, k⟩ := h
    refine ⟨_, (pss_cons (ps_expr (pe_call (ok_require_table T) hr rfl T.m_require_table T.F_require_table.kp T.b_require_table .nil pass0 (pa_cons (pv 0) pa_nil))) (pss_cons (ps_expr (pe_call (ok_require_visited T) (hr.mono (by decide)) rfl T.m_require_visited T.F_require_visited.kp T.b_require_visited .nil pass0 (pa_cons (pv 0) (pa_cons (pv 1) pa_nil)))) (pss_one (ps_expr (pe_call (ok_require_seat T) (hr.mono (by decide)) rfl T.m_require_seat T.F_require_seat.kp T.b_require_seat .nil pass0 (pa_cons (pv 0) (pa_cons (pv 2) pa_nil))))))), ?_⟩
    refine ⟨_, rfl, a, ns, rfl, tab, ?_⟩
    refine ⟨_, rfl, _, rfl, a, q, ns, tss, rfl, tab, l4, hq, lts, sks, nod, fun H1 e1 => ?_⟩
    exact ⟨_, rfl, _, rfl, a, _, ns, _, rfl, tab.mono e1, l4, TupA.ints (e1 _ _ hs) (by rw [sk.len]; omega), isSeat_ok sk, fun H2 e2 => k H2 (ext e1 e2)⟩
def sp_unvisited (C : Addr) : Sp := fun vs H Q _ => ∃ (a s : Addr) (q : Bool × Addr) (ns p : List Int) (tss : List (List Int)), vs = [.ref a, .ref q.2, .ref s] ∧ TabAt C H a ns ∧ SzOk ns ∧ prodL ns ≤ 300 ∧ RowsQ H q tss ∧ tss.length ≤ 1000 ∧ tss.Nodup ∧ H s = some (.tup (p.map V.int)) ∧
  ∀ D H2, Ex H H2 → H D = none → RowsAt H2 D (openL ns tss p) → Q (.ref D) H2
theorem ok_unvisited_seats (T : TX K mg) : FnOk P w K mg base CX0 3 T.f_unvisited_seats T.fd_unvisited_seats ["table", "visited", "seat"] (sp_unvisited T.C_Table) := by
  refine T.F_unvisited_seats.ok sc_unvisited_seats (fun vs H Q E h => ?_) (fun cdv A outer s H vs Q E hr h => ?_)
  · obtain ⟨a, s, q, ns, p, tss, rfl, _⟩ := h
    rfl
  · obtain ⟨a, s, q, ns, p, tss, rfl, tab, ok, pr, ⟨xs, hq, rr⟩, lt, nod, hs, k⟩ := h
    refine ⟨_, (pss_cons (ps_set (i := 3) sc_unvisited_seats.nd rfl (Or.inr rfl) (CD.pe_dcT (own := [("one", 4)]) (g := (gName 4)) (hu_of hr) rfl sc_unvisited_seats.nd (pi_seq (pv 1)) (blkOk_by (N := N_unvisited_seats) (sc := defScope s_unvisited_seats) (by decide +kernel)) (fun _ _ _ _ _ => (pg_name (i := 4) sc_unvisited_seats.nd rfl (Or.inl rfl))) (fun _ _ _ _ _ => pts_nil) (fun _ _ _ _ _ => (pv 4)) (fun _ _ _ _ _ => pe_bl))) (pss_one (ps_ret (pe_lc (own := [("one", 4)]) (g := (gName 4)) rfl sc_unvisited_seats.nd (pi_list (pe_call (ok_all_seats T) hr rfl T.m_all_seats T.F_all_seats.kp T.b_all_seats .nil pass0 (pa_cons (pv 0) pa_nil))) (blkOk_by (N := N_unvisited_seats) (sc := defScope s_unvisited_seats) (by decide +kernel)) (fun _ _ _ _ _ => (pg_name (i := 4) sc_unvisited_seats.nd rfl (Or.inl rfl))) (fun _ _ _ _ _ => (pts_one (PW.pt (pw_and (pt_cmp (pc_dnotin (hu_of hr) (pv 4) (pv 3))) (pw_and1 (pt_cmpR (r := rNeD K) (op_neD hr.units) (pv 4) (pv 2) (nomark _))))))) (fun _ _ _ _ _ => (pv 4)))))), ?_⟩
    have lx : xs.length = tss.length := Paired.length rr
    refine ⟨_, rfl, q, rfl, ⟨_, hq.sq⟩, fun D hD => ?_⟩
    refine CD.dcT_it (walk_seq (xs := xs)) (fun i Hx => Ex H Hx ∧ BoolAt Hx D (tss.take i)) ⟨exn hD, upd_same⟩ (fun i Hx _ p => (hq.mono p.1).sq) ?_ ?_
    · rintro i x _ Hx hi ⟨ex, hc⟩ ⟨rfl, hx⟩
      obtain ⟨ts, r, hts, rfl, hr2⟩ := rr.get hx
      have hn : ts ∉ tss.take i := nodup_take nod hts
      refine ⟨rfl, _, rfl, _, entK ts, r, rfl, by rw [entK_kV]; exact ex _ _ hr2, hc, ?_, ex_upd ex hD, ?_⟩
      · rw [List.length_map, List.length_take]
        exact Nat.lt_of_le_of_lt (show _ ≤ 1000 by omega) (by decide)
      · show upd _ _ _ _ = _
        rw [upd_same, putK_new _ (by rw [bool_val, if_neg hn]), take_more hts, List.map_append]
        rfl
    rintro H1 ⟨e1, hc1⟩
    rw [List.take_of_length_le (by omega)] at hc1
    dsimp only [gName]
    refine ⟨_, rfl, a, ns, rfl, tab.mono e1, ok, pr, fun sl H2 e2 nsl ⟨ys, hsl, rs⟩ => ⟨sl, rfl, ⟨_, SqL.of hsl⟩, fun D2 hD2 => ?_⟩⟩
    have ly : ys.length = (allS ns).length := Paired.length rs
    have lA : (allS ns).length ≤ 300 := by have := allS_len ok.one; omega
    have hc2 : BoolAt H2 D tss := e2 _ _ hc1
    have E2 := ext e1 e2
    refine lc_filt (walk_list (xs := ys)) (ys.zip (allS ns)) (fun z => decide (z.2 ∉ tss) && decide (z.2 ≠ p)) (fun z => z.1) (by rw [List.length_zip]; omega) (by omega) hD2 (fun Hx ex => SqL.of (ex _ _ hsl)) ?_ ?_
    · rintro i x ⟨z1, z2⟩ _ Hx R S hz ex ⟨rfl, hx⟩ kR kS
      obtain ⟨hz1, hz2⟩ := zip_at2 hz
      obtain ⟨o, r, hp, rfl, hr2⟩ := rs.get hx
      obtain rfl : o = z2 := Option.some.inj (hp.symm.trans hz2)
      obtain rfl : V.ref r = z1 := Option.some.inj (hx.symm.trans hz1)
      refine ⟨rfl, _, rfl, _, rfl, D, _, rfl, bool_get (show BoolAt Hx D tss from ex _ _ hc2) (ex _ _ hr2), _, rfl, ?_⟩
      by_cases c : o ∈ tss
      · rw [if_pos c]
        exact kS _ exr (by show (decide (o ∉ tss) && _) = false; rw [decide_eq_false (not_not_intro c)]; rfl)
      rw [if_neg c]
      refine ⟨_, rfl, _, rfl, iT o, iT p, dp_ints (ex _ _ hr2), dp_ints (ex _ _ (E2 _ _ hs)), (sh_ints (n := 59) _).ok, (sh_ints (n := 59) _).ok, _, rfl, ?_⟩
      rw [eqv_ints]
      by_cases c2 : o = p
      · exact itf (by rw [decide_eq_true c2]; rfl) (kS _ exr (by show (decide (o ∉ tss) && decide (o ≠ p)) = false; rw [decide_eq_false (not_not_intro c2), Bool.and_false]))
      · exact itt (by rw [decide_eq_false c2]; rfl) ⟨_, rfl, kR _ _ exr (by show (decide (o ∉ tss) && decide (o ≠ p)) = true; rw [decide_eq_true c, decide_eq_true c2]; rfl) rfl⟩
    intro H3 e3 hD3
    have rm : RowsR H3 (((ys.zip (allS ns)).filter fun z => decide (z.2 ∉ tss) && decide (z.2 ≠ p)).map fun z => z.1) (openL ns tss p) := RowsR.filt (fun o => decide (o ∉ tss) && decide (o ≠ p)) (rs.mono e3)
    exact k D2 H3 (ext E2 e3) (Evl.fresh_back E2 hD2) ⟨_, hD3, rm⟩
end

-- nestedkeys
/-! ### dicts whose keys are tuples of seats -/
def seatN (p : List Int) : NestedKey := .tup (p.map NestedKey.num)
def rowsN (ps : List (List Int)) : NestedKey := .tup (ps.map seatN)
theorem num_inj : ∀ {p q : List Int}, p.map NestedKey.num = q.map NestedKey.num → p = q
  | [], [], _ => rfl
  | [], _ :: _, h => nomatch h
  | _ :: _, [], h => nomatch h
  | a :: p, b :: q, h => by
    obtain ⟨h1, h2⟩ := List.cons.inj h
    rw [NestedKey.num.inj h1, num_inj h2]
theorem seatN_inj {p q : List Int} (h : seatN p = seatN q) : p = q := num_inj (NestedKey.tup.inj h)
theorem seatNs_inj : ∀ {p q : List (List Int)}, p.map seatN = q.map seatN → p = q
  | [], [], _ => rfl
  | [], _ :: _, h => nomatch h
  | _ :: _, [], h => nomatch h
  | a :: p, b :: q, h => by
    obtain ⟨h1, h2⟩ := List.cons.inj h
    rw [seatN_inj h1, seatNs_inj h2]
theorem rowsN_inj {p q : List (List Int)} (h : rowsN p = rowsN q) : p = q := seatNs_inj (NestedKey.tup.inj h)
theorem depth_num : ∀ p : List Int, NestedKey.depthAll (p.map NestedKey.num) = 0
  | [] => rfl
  | a :: p => by
    show max (NestedKey.depth (.num a)) _ = 0
    rw [depth_num p]
    rfl
theorem depth_seats : ∀ ps : List (List Int), NestedKey.depthAll (ps.map seatN) ≤ 1
  | [] => Nat.zero_le _
  | p :: ps => by
    show max (NestedKey.depthAll (p.map NestedKey.num) + 1) (NestedKey.depthAll (ps.map seatN)) ≤ 1
    rw [depth_num p]
    exact Nat.max_le.mpr ⟨Nat.le_refl _, depth_seats ps⟩
/-- where a tuple of seats stands -/
def KeyAt (H : Hp) (b : Addr) (ps : List (List Int)) : Prop := ∃ rs, H b = some (.tup rs) ∧ RowsR H rs ps
theorem KeyAt.mono {H H2 : Hp} {b : Addr} {ps : List (List Int)} (h : KeyAt H b ps) (e : Ex H H2) : KeyAt H2 b ps := let ⟨rs, h1, h2⟩ := h; ⟨rs, e _ _ h1, h2.mono e⟩
theorem KeyAt.monoT {H H2 : Hp} {b : Addr} {ps : List (List Int)} (h : KeyAt H b ps) (e : ∀ c zs, H c = some (.tup zs) → H2 c = some (.tup zs)) : KeyAt H2 b ps := let ⟨rs, h1, h2⟩ := h; ⟨rs, e _ _ h1, h2.monoT e⟩
section
variable {X : Cx} {pins : List (Addr × Obj)} {σ : L2.St} {H : Hp} {s : Shared}
theorem nums_all {h : Heap} : ∀ {p : List Int} {us : List Value}, Vals (p.map V.int) us → NestedAll h (p.map NestedKey.num) us
  | [], _, .nil => .nil
  | _ :: _, _, .cons r t => by
    obtain ⟨tk, rfl⟩ := r
    exact .cons (.int _ tk) (nums_all t)
theorem seat_nest (I : Inv X pins σ H s) {r : Addr} {p : List Int} (h : H r = some (.tup (p.map V.int))) : NestedIs s.heap (seatN p) (.ref r) := by
  obtain ⟨_, its, rv, o, h1, h2, n, h3⟩ := (show ObjOk X.prog X.w H s.heap r (.tup (p.map V.int)) from I.hok r _ h)
  exact .tup h1 h2 h3 (by simpa using nums_all rv)
theorem seats_all (I : Inv X pins σ H s) : ∀ {rs : List V} {ps : List (List Int)} {us : List Value}, RowsR H rs ps → Vals rs us → NestedAll s.heap (ps.map seatN) us
  | _, _, _, .nil, .nil => .nil
  | _, _, _, .cons ⟨r, e, h⟩ t, .cons rv tv => by
    subst e
    cases rv
    exact .cons (seat_nest I h) (seats_all I t tv)
theorem key_nest (I : Inv X pins σ H s) {b : Addr} {ps : List (List Int)} (h : KeyAt H b ps) : (nestedKind X.prog X.w).is s.heap (rowsN ps) b := by
  obtain ⟨rs, hb, rr⟩ := h
  obtain ⟨_, its, rv, o, h1, h2, n, h3⟩ := (show ObjOk X.prog X.w H s.heap b (.tup rs) from I.hok b _ hb)
  refine ⟨.tup h1 h2 h3 (by simpa using seats_all I rr rv), ?_⟩
  have := depth_seats ps
  show NestedKey.depthAll (ps.map seatN) + 1 ≤ 8
  omega
end
/-- an entry: the seats, where the key stands, where the value stands -/
abbrev NEnt := List (List Int) × Addr × Addr
def entN (x : NEnt) : NestedKey × Addr × Value := (rowsN x.1, x.2.1, .ref x.2.2)
def NDo (P : Program) (w : World) (d : Addr) (xs : List NEnt) : HO := .ext fun h => xs.length ≤ sizeLine ∧ (d == sysModules) = false ∧ ∃ o es ep, h.get? d = some o ∧ o.ExactDict ∧ o.data = .dict es ep ∧ es.toList = (xs.map entN).map (entryOfKey (nestedKind P w)) ∧ (xs.map (·.1)).Nodup
/-- a dict by tuples of seats -/
def ND (P : Program) (w : World) (H : Hp) (d : Addr) (xs : List NEnt) : Prop := H d = some (NDo P w d xs) ∧ ∀ x ∈ xs, KeyAt H x.2.1 x.1
def lkN (xs : List NEnt) (ps : List (List Int)) : Option Addr := (xs.find? fun x => decide (x.1 = ps)).map (·.2.2)
theorem lkN_mem {xs : List NEnt} {ps : List (List Int)} {v : Addr} (h : lkN xs ps = some v) : ∃ b, (ps, b, v) ∈ xs := by
  unfold lkN at h
  obtain ⟨x, h1, h2⟩ := Option.map_eq_some_iff.mp h
  have h3 := List.mem_of_find?_eq_some h1
  have h4 : x.1 = ps := by simpa using List.find?_some h1
  obtain ⟨x1, x2, x3⟩ := x
  obtain rfl : x1 = ps := h4
  obtain rfl : x3 = v := h2
  exact ⟨x2, h3⟩
theorem lkN_none {xs : List NEnt} {ps : List (List Int)} : lkN xs ps = none ↔ ps ∉ xs.map (·.1) := by
  unfold lkN
  rw [Option.map_eq_none_iff, List.find?_eq_none, List.mem_map]
  constructor
  · rintro h ⟨x, hx, rfl⟩
    exact h x hx (decide_eq_true rfl)
  · intro h x hx z
    exact h ⟨x, hx, of_decide_eq_true z⟩
theorem atKeyN (ps : List (List Int)) : ∀ xs : List NEnt, (atKey (xs.map entN) (rowsN ps)).map (·.2) = (lkN xs ps).map Value.ref
  | [] => rfl
  | x :: xs => by
    have ih := atKeyN ps xs
    unfold atKey lkN at ih ⊢
    rw [List.map_cons, List.find?_cons, List.find?_cons]
    by_cases c : x.1 = ps
    · rw [decide_eq_true (show (entN x).1 = rowsN ps by rw [← c]; rfl), decide_eq_true c]
      rfl
    · rw [decide_eq_false (show ¬ (entN x).1 = rowsN ps from fun z => c (rowsN_inj z)), decide_eq_false c]
      exact ih
theorem ND.ext {P : Program} {w : World} {H H2 : Hp} {d : Addr} {xs : List NEnt} (h : ND P w H d xs) (e : Ex H H2) : ND P w H2 d xs := ⟨e _ _ h.1, fun x hx => (h.2 x hx).mono e⟩
theorem NDo_tup {P : Program} {w : World} {d : Addr} {xs : List NEnt} {ys : List V} : HO.tup ys ≠ NDo P w d xs := fun z => by
  unfold NDo at z
  cases z
section
variable {X : Cx} {pins : List (Addr × Obj)} {σ : L2.St} {H : Hp} {s : Shared} {d b : Addr} {xs : List NEnt} {ps : List (List Int)}
theorem nd_at (I : Inv X pins σ H s) (h : ND X.prog X.w H d xs) : xs.length ≤ sizeLine ∧ (d == sysModules) = false ∧ s.heap.DictOfH (nestedKind X.prog X.w) d (xs.map entN) := by
  obtain ⟨z1, z2, o, es, ep, h1, h2, h3, h4, h5⟩ := (show ObjOk X.prog X.w H s.heap d (NDo X.prog X.w d xs) from I.hok d _ h.1).1
  refine ⟨z1, z2, o, es, ep, h1, h2, h3, h4, fun y hy => ?_, ?_⟩
  · obtain ⟨x, hx, rfl⟩ := List.mem_map.mp hy
    exact key_nest I (h.2 x hx)
  · have e : (xs.map entN).map (·.1) = (xs.map (·.1)).map rowsN := by rw [List.map_map, List.map_map]; rfl
    rw [e]
    exact List.Pairwise.map rowsN (fun _ _ n z => n (rowsN_inj z)) h5
theorem ndo_ok {P : Program} {w : World} {H : Hp} {h : Heap} {d : Addr} {xs : List NEnt} (z1 : xs.length ≤ sizeLine) (z2 : (d == sysModules) = false) {o : Obj} {es : Array DictEntry} {ep : Nat} (h1 : h.get? d = some o) (h2 : o.ExactDict) (h3 : o.data = .dict es ep)
    (h4 : es.toList = (xs.map entN).map (entryOfKey (nestedKind P w))) (h5 : (xs.map (·.1)).Nodup) : ObjOk P w H h d (NDo P w d xs) :=
  ⟨⟨z1, z2, o, es, ep, h1, h2, h3, h4, h5⟩, ⟨o, h1⟩, fun _ _ ⟨a1, a2, o, es, ep, b1, b⟩ keep => ⟨a1, a2, o, es, ep, keep o b1, b⟩⟩
end
def tNIn (P : Program) (w : World) (ty td : TE) : TE := fun σ H Q => ty σ H fun y H1 => td σ H1 fun x H2 => ∃ d b xs ps, x = .ref d ∧ y = .ref b ∧ ND P w H2 d xs ∧ KeyAt H2 b ps ∧ Q (.bl (lkN xs ps).isSome) H2
def tNGet (P : Program) (w : World) (td ty : TE) : TE := fun σ H Q => td σ H fun x H1 => ty σ H1 fun y H2 => ∃ d b xs ps v, x = .ref d ∧ y = .ref b ∧ ND P w H2 d xs ∧ KeyAt H2 b ps ∧ lkN xs ps = some v ∧ Q (.ref v) H2
/-- d[key] = a dict, the key being new -/
def sNPut (P : Program) (w : World) (td ty tv : TE) : TS := fun D σ H => tv σ H fun v H1 => td σ H1 fun x H2 => ty σ H2 fun y H3 => ∃ d b r xs ps, v = .ref r ∧ x = .ref d ∧ y = .ref b ∧ ND P w H3 d xs ∧ KeyAt H3 b ps ∧ lkN xs ps = none ∧ xs.length < sizeLine ∧ D.nx σ (upd H3 d (NDo P w d (xs ++ [(ps, b, r)])))
def tNNew (P : Program) (w : World) : TE := fun _ H Q => ∀ d, H d = none → Q (.ref d) (upd H d (NDo P w d []))
section
variable {X : Cx} {o i e value : Expr} {pos pos' tpos : Pos} {td ty tv : TE}
theorem pc_nin (hu : X.A.units + 9 < cLine) (hi : PE X i ty) (ho : PE X o td) : PC X .In i o (tNIn X.prog X.w ty td) := by
  refine ⟨fun pins s σ H Q I h => ?_⟩
  refine thn (hi.run pins s σ H _ I h) fun iv s1 ⟨y, H1, I1, ry, q1⟩ => thn (ho.run pins s1 σ H1 _ I1 q1) fun u s2 ⟨x, H2, I2, rx, d, b, xs, ps, ex, ey, nd, kb, q⟩ => ?_
  subst ex ey
  obtain rfl : u = Value.ref d := rx
  obtain rfl : iv = Value.ref b := ry
  obtain ⟨z1, z2, dd⟩ := nd_at I2 nd
  refine wpAny_in_heap (knd := nestedKind X.prog X.w) (show X.A.in1.units + 8 < cLine from ?_) (key_nest I2 kb) z2 dd ⟨.bl (lkN xs ps).isSome, H2, I2.tok _, ?_, q⟩
  · show X.A.units + 1 + 8 < cLine
    omega
  · have := congrArg Option.isSome (atKeyN ps xs)
    rw [Option.isSome_map, Option.isSome_map] at this
    rw [this]
    rfl
theorem pe_nget (hu : X.A.units + 9 < cLine) (ho : PE X o td) (hi : PE X i ty) (hs : NoSl i) : PE X (.Subscript o i pos) (tNGet X.prog X.w td ty) := by
  refine ⟨fun pins s σ H Q I h => ?_⟩
  refine subD_of PySem.F.slot_dict_getitem.lookup hs (thn (ho.run pins s σ H _ I h) fun u s1 ⟨x, H1, I1, rx, q1⟩ => thn (hi.run pins s1 σ H1 _ I1 q1) fun iv s2 ⟨y, H2, I2, ry, d, b, xs, ps, v, ex, ey, nd, kb, lk, q⟩ => ?_)
  subst ex ey
  obtain rfl : u = Value.ref d := rx
  obtain rfl : iv = Value.ref b := ry
  obtain ⟨z1, z2, dd⟩ := nd_at I2 nd
  refine ⟨dd.typeIs, ?_⟩
  have hv := atKeyN ps xs
  rw [lk] at hv
  obtain ⟨p, hp, hp2⟩ := Option.map_eq_some_iff.mp hv
  refine wpAny_getItem_heap (knd := nestedKind X.prog X.w) (show X.A.in1.units + 8 < cLine from ?_) (key_nest I2 kb) dd hp ⟨.ref v, H2, I2.tok _, hp2, q⟩
  show X.A.units + 1 + 8 < cLine
  omega
theorem ps_nput (hu : X.A.units + 9 < cLine) (ho : PE X o td) (hi : PE X i ty) (hv : PE X value tv) (hs : swapsWith value (some (.Subscript o i pos')) pos.line X.env = pure false) :
    PS X (.Assign [.Subscript o i pos'] value pos) (sNPut X.prog X.w td ty tv) := by
  refine ⟨fun pins s σ H D I h => ?_⟩
  refine wpAny_Assign_Subscript (thn (hv.run pins s σ H _ I h) fun r s1 ⟨v, H1, I1, rv, q1⟩ => thn (ho.run pins s1 σ H1 _ I1 q1) fun u s2 ⟨x, H2, I2, rx, q2⟩ => thn (hi.run pins s2 σ H2 _ I2 q2) fun iv s3 ⟨y, H3, I3, ry, d, b, rr, xs, ps, ev, ex, ey, nd, kb, lk, lt, q⟩ => ?_) hs
  subst ev ex ey
  obtain rfl : u = Value.ref d := rx
  obtain rfl : iv = Value.ref b := ry
  obtain rfl : r = Value.ref rr := rv
  obtain ⟨z1, z2, dd⟩ := nd_at I3 nd
  have hv := atKeyN ps xs
  rw [lk] at hv
  have hn : atKey (xs.map entN) (rowsN ps) = none := Option.map_eq_none_iff.mp hv
  refine wpAny_setItem_heap (hsz := by rw [List.length_map]; exact z1) (knd := nestedKind X.prog X.w) (show X.A.in1.units + 8 < cLine from ?_) (key_nest I3 kb) dd fun h' dd' sb => ⟨σ, _, ?_, q⟩
  · show X.A.units + 1 + 8 < cLine
    omega
  rw [storedH_new hn] at dd'
  obtain ⟨o2, es, ep, h1, h2, h3, h4, _, h5⟩ := dd'
  have e : xs.map entN ++ [(rowsN ps, b, Value.ref rr)] = (xs ++ [(ps, b, rr)]).map entN := by rw [List.map_append]; rfl
  rw [e] at h4 h5
  have e2 : ((xs ++ [(ps, b, rr)]).map entN).map (·.1) = ((xs ++ [(ps, b, rr)]).map (·.1)).map rowsN := by rw [List.map_map, List.map_map]; rfl
  rw [e2] at h5
  exact I3.write (x := d) (e := d) (by rw [nd.1]; exact True.intro) (.inl rfl) (fun c u hc z => (sb.2 c hc).trans z) ⟨o2, h1⟩ (ndo_ok (by rw [List.length_append]; exact lt) z2 h1 h2 h3 h4 (List.Pairwise.of_map rowsN (fun _ _ n z => n (by rw [z])) h5))
theorem pe_nnew {pos : Pos} : PE X (.Dict [] [] pos) (tNNew X.prog X.w) := ⟨fun pins s σ H Q I h => by
  have big := I.big
  refine wpAny_Dict_empty ⟨.ref s.heap.objs.size, _, I.laid (a := s.heap.objs.size) (o := NDo X.prog X.w s.heap.objs.size []) (t' := s.toks) (fun _ _ q => Heap.get?_push_of_some _ q) (Nat.le_refl _) ?_, rfl, h _ (I.hok.fresh (Nat.le_refl _))⟩
  exact ndo_ok (Nat.zero_le _) (beq_eq_false_iff_ne.mpr fun z => by rw [z] at big; exact absurd big (Nat.lt_irrefl _)) (Heap.get?_push_size _ rfl) ⟨rfl, rfl, rfl⟩ rfl rfl List.nodup_nil⟩
end

/-! ### forced goals, and what stays unvisited in the end -/
/-- the seats from which the caller can force a goal while the walker stays on allowed seats -/
inductive Fo (ns : List Int) (G A : List Int → Prop) : List Int → Prop
  | goal {g : List Int} : G g → Fo ns G A g
  | step {s o : List Int} : A s → Fo ns G A o → Fo ns G A (mirL ns s o) → Fo ns G A s
theorem Fo.mono {ns : List Int} {G G2 A : List Int → Prop} {s : List Int} (h : Fo ns G A s) (k : ∀ g, G g → G2 g) : Fo ns G2 A s := by
  induction h with
  | goal h => exact .goal (k _ h)
  | step a _ _ i1 i2 => exact .step a i1 i2
theorem Fo.congr {ns : List Int} {G G2 A A2 : List Int → Prop} {s : List Int} (h : Fo ns G A s) (k : ∀ g, G g → G2 g) (k2 : ∀ g, A g → A2 g) : Fo ns G2 A2 s := by
  induction h with
  | goal h => exact .goal (k _ h)
  | step a _ _ i1 i2 => exact .step (k2 _ a) i1 i2
theorem Fo.in {ns : List Int} {G A : List Int → Prop} {s : List Int} (h : Fo ns G A s) : G s ∨ A s := by
  cases h with
  | goal h => exact .inl h
  | step a _ _ => exact .inr a
theorem Fo.some {ns : List Int} {G A : List Int → Prop} {s : List Int} (h : Fo ns G A s) : ∃ g, G g := by
  induction h with
  | goal h => exact ⟨_, h⟩
  | step _ _ _ i _ => exact i
/-- a set that holds the goals, is forced, and that no allowed seat can be added to -/
theorem Fo.mem {ns : List Int} {G A : List Int → Prop} {tss : List (List Int)} (h1 : ∀ g, G g → g ∈ tss) (h2 : ∀ s, A s → s ∉ tss → ∀ o ∈ tss, mirL ns s o ∉ tss) {s : List Int} (h : Fo ns G A s) : s ∈ tss := by
  induction h with
  | goal h => exact h1 _ h
  | @step s o a _ _ i1 i2 =>
    by_cases c : s ∈ tss
    · exact c
    · exact absurd i2 (h2 s a c o i1)
open Classical in
/-- the least number below m with p, or m -/
noncomputable def leastB (p : Nat → Prop) (m : Nat) : Nat := ((List.range m).find? fun b => decide (p b)).getD m
theorem leastB_is {p : Nat → Prop} {m o : Nat} (ho : o < m) (h : p o) (k : ∀ b, b < o → ¬ p b) : leastB p m = o := by
  unfold leastB
  have e : ((List.range m).find? fun b => @decide (p b) (Classical.propDecidable _)) = some o := by
    rw [List.find?_range_eq_some]
    exact ⟨by simpa using h, List.mem_range.mpr ho, fun j hj => by simpa using k j hj⟩
  rw [e]
  rfl
theorem leastB_no {p : Nat → Prop} {m : Nat} (k : ∀ b, b < m → ¬ p b) : leastB p m = m := by
  unfold leastB
  have e : ((List.range m).find? fun b => @decide (p b) (Classical.propDecidable _)) = none := by
    rw [List.find?_eq_none]
    intro b hb
    simpa using k b (List.mem_range.mp hb)
  rw [e]
  rfl
theorem leastB_or (p : Nat → Prop) (m : Nat) : (leastB p m < m ∧ p (leastB p m) ∧ ∀ b, b < leastB p m → ¬ p b) ∨ (leastB p m = m ∧ ∀ b, b < m → ¬ p b) := by
  by_cases c : ∃ b, b < m ∧ p b
  · obtain ⟨b, h1, h2⟩ := c
    obtain ⟨k, h3, h4, h5⟩ := st_least (p := p) b h2
    have e := leastB_is (p := p) (m := m) (Nat.lt_of_le_of_lt h3 h1) h4 h5
    exact .inl (by rw [e]; exact ⟨by omega, h4, h5⟩)
  · have e := leastB_no (p := p) (m := m) fun b hb hp => c ⟨b, hb, hp⟩
    exact .inr ⟨e, fun b hb hp => c ⟨b, hb, hp⟩⟩
/-- the goals without one of them -/
def lessG (op : List (List Int)) (g : List Int) : List (List Int) := op.filter fun o => decide (o ≠ g)
theorem lessG_len {op : List (List Int)} (nod : op.Nodup) {g : List Int} (h : g ∈ op) : (lessG op g).length + 1 = op.length := by
  induction op with
  | nil => cases h
  | cons a op ih =>
    obtain ⟨n1, n2⟩ := List.nodup_cons.mp nod
    unfold lessG
    by_cases c : a = g
    · subst c
      rw [List.filter_cons_of_neg (by simp), List.length_cons, List.filter_eq_self.mpr (fun o ho => decide_eq_true (p := o ≠ a) fun z => n1 (z ▸ ho))]
    · rw [List.filter_cons_of_pos (by simpa using c), List.length_cons, List.length_cons]
      exact congrArg (· + 1) (ih n2 ((List.mem_cons.mp h).resolve_left fun z => c z.symm))
theorem mem_lessG {op : List (List Int)} {g o : List Int} : o ∈ lessG op g ↔ o ∈ op ∧ o ≠ g := by
  unfold lessG
  rw [List.mem_filter, decide_eq_true_eq]
/-- how many seats stay unvisited in the end: n the number of unvisited seats -/
noncomputable def finN (ns : List Int) : Nat → List (List Int) → List Int → Nat
  | 0, _, _ => 0
  | n + 1, op, s => leastB (fun b => Fo ns (fun g => g ∈ op ∧ finN ns n (lessG op g) g ≤ b) (fun a => SeatOk ns a ∧ a ∉ op) s) (n + 1)
noncomputable def finF (ns : List Int) (op : List (List Int)) (s : List Int) : Nat := finN ns op.length op s
theorem finN_le (ns : List Int) : ∀ (n : Nat) (op : List (List Int)) (s : List Int), finN ns n op s ≤ n
  | 0, _, _ => Nat.le_refl _
  | n + 1, op, s => by
    unfold finN
    rcases leastB_or (fun b => Fo ns (fun g => g ∈ op ∧ finN ns n (lessG op g) g ≤ b) (fun a => SeatOk ns a ∧ a ∉ op) s) (n + 1) with h | h
    · exact Nat.le_of_lt h.1
    · exact Nat.le_of_eq h.1
/-- what stays unvisited behind a goal -/
noncomputable def outF (ns : List Int) (op : List (List Int)) (g : List Int) : Nat := finF ns (lessG op g) g
theorem outF_lt {ns : List Int} {op : List (List Int)} (nod : op.Nodup) {g : List Int} (h : g ∈ op) : outF ns op g < op.length := by
  have h1 := finN_le ns (lessG op g).length (lessG op g) g
  have h2 := lessG_len nod h
  show finN ns _ _ _ < _
  omega
/-- the goals behind which at most b seats stay unvisited -/
def goodG (ns : List Int) (op : List (List Int)) (b : Nat) : List Int → Prop := fun g => g ∈ op ∧ outF ns op g ≤ b
def allowA (ns : List Int) (op : List (List Int)) : List Int → Prop := fun a => SeatOk ns a ∧ a ∉ op
theorem finF_eq {ns : List Int} {op : List (List Int)} (nod : op.Nodup) (s : List Int) : finF ns op s = leastB (fun b => Fo ns (goodG ns op b) (allowA ns op) s) op.length := by
  unfold finF
  cases h : op.length with
  | zero =>
    show 0 = _
    exact (leastB_no fun b hb => by omega).symm
  | succ n =>
    show leastB _ _ = leastB _ _
    congr 1
    funext b
    refine propext ⟨fun z => z.mono fun g hg => ⟨hg.1, ?_⟩, fun z => z.mono fun g hg => ⟨hg.1, ?_⟩⟩
    · have := lessG_len nod hg.1
      have e : (lessG op g).length = n := by omega
      show finN ns (lessG op g).length _ _ ≤ b
      rw [e]
      exact hg.2
    · have := lessG_len nod hg.1
      have e : (lessG op g).length = n := by omega
      have h2 : finN ns (lessG op g).length (lessG op g) g ≤ b := hg.2
      rw [e] at h2
      exact h2
/-- a bound that is reached is a goal's -/
theorem good_hit {ns : List Int} {op : List (List Int)} {A : List Int → Prop} {s : List Int} : ∀ b, Fo ns (goodG ns op b) A s → ∃ g ∈ op, outF ns op g ≤ b ∧ Fo ns (goodG ns op (outF ns op g)) A s
  | 0, h => by
    obtain ⟨g, hg, h0⟩ := h.some
    have e : outF ns op g = 0 := by omega
    exact ⟨g, hg, h0, by rw [e]; exact h⟩
  | b + 1, h => by
    by_cases c : ∃ g ∈ op, outF ns op g = b + 1
    · obtain ⟨g, hg, e⟩ := c
      exact ⟨g, hg, by omega, by rw [e]; exact h⟩
    · have h2 : Fo ns (goodG ns op b) A s := h.mono fun g hg => ⟨hg.1, by
        have := hg.2
        have : outF ns op g ≠ b + 1 := fun z => c ⟨g, hg.1, z⟩
        omega⟩
      obtain ⟨g, hg, h3, h4⟩ := good_hit b h2
      exact ⟨g, hg, by omega, h4⟩
/-- the number by the goals' outcomes alone -/
theorem fin_by {ns : List Int} {op : List (List Int)} (nod : op.Nodup) {s : List Int} {v : Nat}
    (h : (∃ g ∈ op, outF ns op g = v ∧ Fo ns (goodG ns op v) (allowA ns op) s ∧ ∀ g2 ∈ op, Fo ns (goodG ns op (outF ns op g2)) (allowA ns op) s → v ≤ outF ns op g2) ∨ (v = op.length ∧ ∀ g2 ∈ op, ¬ Fo ns (goodG ns op (outF ns op g2)) (allowA ns op) s)) : v = finF ns op s := by
  rw [finF_eq nod]
  rcases h with ⟨g, hg, e, h1, h2⟩ | ⟨e, h⟩
  · refine (leastB_is (by rw [← e]; exact outF_lt nod hg) h1 fun b hb hF => ?_).symm
    obtain ⟨g2, hg2, h3, h4⟩ := good_hit b hF
    have := h2 g2 hg2 h4
    omega
  · rw [e]
    refine (leastB_no fun b _ hF => ?_).symm
    obtain ⟨g2, hg2, _, h4⟩ := good_hit b hF
    exact h g2 hg2 h4

/-- allowed seats that are not there yet -/
def lackN (al tss : List (List Int)) : Nat := (al.filter fun s => decide (s ∉ tss)).length
theorem lack_snoc {al tss : List (List Int)} {s : List Int} (h : s ∈ al) (n : s ∉ tss) : lackN al (tss ++ [s]) < lackN al tss := by
  unfold lackN
  induction al with
  | nil => cases h
  | cons a al ih =>
    have mono : (al.filter fun x => decide (x ∉ tss ++ [s])).length ≤ (al.filter fun x => decide (x ∉ tss)).length := by
      clear ih h
      induction al with
      | nil => exact Nat.le_refl _
      | cons b al ih =>
        by_cases c : b ∈ tss
        · rw [List.filter_cons_of_neg (by simp [c]), List.filter_cons_of_neg (by simp [c])]
          exact ih
        · rw [List.filter_cons_of_pos (p := fun x => decide (x ∉ tss)) (by simp [c])]
          by_cases c2 : b = s
          · rw [List.filter_cons_of_neg (by simp [c2])]
            exact Nat.le_succ_of_le ih
          · rw [List.filter_cons_of_pos (by simp [c, c2])]
            exact Nat.succ_le_succ ih
    by_cases c2 : a = s
    · subst c2
      rw [List.filter_cons_of_neg (by simp), List.filter_cons_of_pos (by simp [n])]
      exact Nat.lt_succ_of_le mono
    · have hs : s ∈ al := (List.mem_cons.mp h).resolve_left fun z => c2 z.symm
      by_cases c : a ∈ tss
      · rw [List.filter_cons_of_neg (by simp [c]), List.filter_cons_of_neg (by simp [c])]
        exact ih hs
      · rw [List.filter_cons_of_pos (by simp [c, c2]), List.filter_cons_of_pos (by simp [c])]
        exact Nat.succ_lt_succ (ih hs)
section
variable {P : Program} {w : World} {K : PySem.W.Frag} {mg : Str → Option Value} {base : Heap}
def sp_forced (C : Addr) : Sp := fun vs H Q _ => ∃ (a g l : Addr) (ns : List Int) (gs al : List (List Int)), vs = [.ref a, .ref g, .ref l] ∧ TabAt C H a ns ∧ SzOk ns ∧ RowsAt H g gs ∧ RowsAt H l al ∧ gs.Nodup ∧ gs.length ≤ 300 ∧ al.length ≤ 300 ∧ (∀ o ∈ gs, SeatOk ns o) ∧ (∀ o ∈ al, SeatOk ns o) ∧
  ∀ D H2 tss, Ex H H2 → H D = none → BoolAt H2 D tss → (∀ x, x ∈ tss ↔ Fo ns (· ∈ gs) (· ∈ al) x) → Q (.ref D) H2
theorem ok_forced_seats (T : TX K mg) : FnOk P w K mg base CX0 3 T.f_forced_seats T.fd_forced_seats ["table", "goals", "allowed"] (sp_forced T.C_Table) := by
  refine T.F_forced_seats.ok sc_forced_seats (fun vs H Q E h => ?_) (fun cdv A outer s H vs Q E hr h => ?_)
  · obtain ⟨a, g, l, ns, gs, al, rfl, _⟩ := h
    rfl
  · obtain ⟨a, g, l, ns, gs, al, rfl, tab, ok, ⟨xs, hg, rg⟩, ⟨ys, hl, rl⟩, nod, lg, la, sg, sa, k⟩ := h
    refine ⟨_, (pss_cons (ps_set (i := 3) sc_forced_seats.nd rfl (Or.inr rfl) (CD.pe_dcT (own := [("goal", 6)]) (g := (gName 6)) (hu_of hr) rfl sc_forced_seats.nd (pi_list (pv 1)) (blkOk_by (N := N_forced_seats) (sc := defScope s_forced_seats) (by decide +kernel)) (fun _ _ _ _ _ => (pg_name (i := 6) sc_forced_seats.nd rfl (Or.inl rfl))) (fun _ _ _ _ _ => pts_nil) (fun _ _ _ _ _ => (pv 6)) (fun _ _ _ _ _ => pe_bl))) (pss_cons (ps_set (i := 4) sc_forced_seats.nd rfl (Or.inl rfl) pe_bl) (pss_cons (ps_while PassesOwn.never (pt_val (pv 4)) (pss_cons (ps_set (i := 4) sc_forced_seats.nd rfl (Or.inl rfl) pe_bl) (pss_one (ps_for PassesOwn.never rfl (pi_list (pv 2)) (pg_name (i := 5) sc_forced_seats.nd rfl (Or.inr rfl)) (pss_one (ps_if (PW.pt (pw_and (pt_cmp (pc_dnotin (hu_of hr) (pv 5) (pv 3))) (pw_and1 (pt_val (pe_callB (cr_any rfl) (by rfl) T.z_any (by decide +kernel) (pa_cons (pe_lock (pe_lc (own := [("one", 7)]) (g := (gName 7)) rfl sc_forced_seats.nd (pi_keys (pv 3)) (blkOk_by (N := N_forced_seats) (sc := defScope s_forced_seats) (by decide +kernel)) (fun _ _ _ _ _ => (pg_name (i := 7) sc_forced_seats.nd rfl (Or.inl rfl))) (fun _ _ _ _ _ => pts_nil) (fun _ _ _ _ _ => (pe_cmp (pc_din (hu_of hr) (pe_call (ok_mirror_seat T) hr rfl T.m_mirror_seat T.F_mirror_seat.kp T.b_mirror_seat .nil pass0 (pa_cons (pv 0) (pa_cons (pv 5) (pa_cons (pv 7) pa_nil)))) (pv 3)))))) pa_nil)))))) (pss_cons (ps_dput (hu_of hr) (pv 3) (pv 5) pe_bl (by rfl)) (pss_one (ps_set (i := 4) sc_forced_seats.nd rfl (Or.inl rfl) pe_bl))) pss_nil)))))) (pss_one (ps_ret (pv 3)))))), ?_⟩
    have lx : xs.length = gs.length := Paired.length rg
    have ly : ys.length = al.length := Paired.length rl
    refine ⟨_, rfl, g, rfl, ⟨_, SqL.of hg⟩, fun D hD => ?_⟩
    refine CD.dcT_it (walk_list (xs := xs)) (fun i Hx => Ex H Hx ∧ BoolAt Hx D (gs.take i)) ⟨exn hD, upd_same⟩ (fun i Hx _ p => SqL.of (p.1 _ _ hg)) ?_ ?_
    · rintro i x _ Hx hi ⟨ex, hc⟩ ⟨rfl, hx⟩
      obtain ⟨ts, r, hts, rfl, hr2⟩ := rg.get hx
      have hn : ts ∉ gs.take i := nodup_take nod hts
      refine ⟨rfl, _, rfl, _, entK ts, r, rfl, by rw [entK_kV]; exact ex _ _ hr2, hc, ?_, ex_upd ex hD, ?_⟩
      · rw [List.length_map, List.length_take]
        exact Nat.lt_of_le_of_lt (show _ ≤ 300 by omega) (by decide)
      · show upd _ _ _ _ = _
        rw [upd_same, putK_new _ (by rw [bool_val, if_neg hn]), take_more hts, List.map_append]
        rfl
    rintro H1 ⟨e1, hc1⟩
    rw [List.take_of_length_le (by omega)] at hc1
    dsimp only [gName]
    have gt : ∀ {i : Nat} {q : List Int}, (gs ++ al).length ≤ 600 := by
      intro _ _
      rw [List.length_append]
      omega
    have tl : ∀ {tss : List (List Int)}, tss.Nodup → (∀ x ∈ tss, Fo ns (· ∈ gs) (· ∈ al) x) → tss.length ≤ 600 := fun {tss} n f => by
      refine Nat.le_trans (n.length_le_of_subset (l₂ := gs ++ al) fun x hx => ?_) (by rw [List.length_append]; omega)
      rcases (f x hx).in with z | z
      · exact List.mem_append_left _ z
      · exact List.mem_append_right _ z
    have ts : ∀ {tss : List (List Int)}, (∀ x ∈ tss, Fo ns (· ∈ gs) (· ∈ al) x) → ∀ x ∈ tss, SeatOk ns x := fun f x hx => (f x hx).in.elim (sg x) (sa x)
    refine ⟨fun m σ Hx => ∃ (tss : List (List Int)) (b : Bool) (y5 : Option V), σ = [some (.ref a), some (.ref g), some (.ref l), some (.ref D), some (.bl b), y5, none, none] ∧ Ex H Hx ∧ BoolAt Hx D tss ∧ tss.Nodup ∧ (∀ x ∈ gs, x ∈ tss) ∧ (∀ x ∈ tss, Fo ns (· ∈ gs) (· ∈ al) x) ∧ (b = false → ∀ s ∈ al, s ∉ tss → ∀ o ∈ tss, mirL ns s o ∉ tss) ∧ 2 * lackN al tss + (if b = true then 1 else 0) < m,
      ⟨2 * lackN al gs + 2, gs, true, none, rfl, e1, hc1, nod, fun _ h => h, fun x hx => .goal hx, (fun z => nomatch z), by rw [if_pos rfl]; omega⟩, ?_⟩
    rintro m σ Hx ⟨tss, b, y5, rfl, ex, hb, tnod, tgs, tfo, tcl, tm⟩
    cases b with
    | false =>
      refine ⟨_, rfl, _, rfl, itf rfl ⟨_, rfl, k D Hx tss ex hD hb fun x => ⟨tfo x, fun h => h.mem tgs (tcl rfl)⟩⟩⟩
    | true =>
      refine ⟨_, rfl, _, rfl, itt rfl ⟨_, fun _ _ h => h, ?_⟩⟩
      dsimp only [gName]
      refine ⟨_, rfl, l, rfl, ⟨_, SqL.of (ex _ _ hl)⟩, ?_⟩
      rw [if_pos rfl] at tm
      refine for_it (walk_list (xs := ys)) (fun i σ Hy => ∃ (us : List (List Int)) (b : Bool) (y5 : Option V), σ = [some (.ref a), some (.ref g), some (.ref l), some (.ref D), some (.bl b), y5, none, none] ∧ Ex H Hy ∧ BoolAt Hy D us ∧ us.Nodup ∧ (∀ x ∈ gs, x ∈ us) ∧ (∀ x ∈ us, Fo ns (· ∈ gs) (· ∈ al) x) ∧ ((b = false ∧ us = tss ∧ ∀ s ∈ al.take i, s ∉ tss → ∀ o ∈ tss, mirL ns s o ∉ tss) ∨ (b = true ∧ lackN al us < lackN al tss)))
        ⟨tss, false, y5, rfl, ex, hb, tnod, tgs, tfo, .inl ⟨rfl, rfl, fun s hs => by simp at hs⟩⟩ (fun i σ Hy _ ⟨_, _, _, _, e, _⟩ => SqL.of (e _ _ hl)) ?_ ?_
      · rintro i x σ _ Hy hi ⟨us, b, y6, rfl, ey, hu, unod, ugs, ufo, ucl⟩ ⟨rfl, hx⟩
        obtain ⟨p, r, hp, rfl, hr2⟩ := rl.get hx
        have skp := sa p (List.mem_of_getElem? hp)
        have hr3 := ey _ _ hr2
        dsimp only [gName]
        refine ⟨_, rfl, _, rfl, D, _, rfl, bool_get hu hr3, _, rfl, ?_⟩
        have pl : p ∈ al := List.mem_of_getElem? hp
        have keepI : (p ∈ us ∨ ∀ o ∈ us, mirL ns p o ∉ us) → ((b = false ∧ us = tss ∧ ∀ s ∈ al.take (i + 1), s ∉ tss → ∀ o ∈ tss, mirL ns s o ∉ tss) ∨ (b = true ∧ lackN al us < lackN al tss)) := fun z => by
          rcases ucl with ⟨u1, u2, u3⟩ | u
          · refine .inl ⟨u1, u2, fun s hs ns1 => ?_⟩
            rw [take_more hp] at hs
            rcases List.mem_append.mp hs with hs | hs
            · exact u3 s hs ns1
            · obtain rfl := List.mem_singleton.mp hs
              rw [u2] at z
              exact z.resolve_left ns1
          · exact .inr u
        by_cases c : p ∈ us
        · rw [if_pos c]
          exact itf rfl ⟨us, b, _, rfl, ey, hu, unod, ugs, ufo, keepI (.inl c)⟩
        rw [if_neg c]
        refine itt rfl ?_
        refine ⟨D, _, hu, True.intro, fun od => ?_⟩
        generalize hG1 : upd Hy D _ = Hz
        have hDz : Hz D = some (.frz od (.dT (us.map fun p => (entK p, V.bl true)))) := by rw [← hG1]; exact upd_same
        have tpz : ∀ c zs, Hy c = some (.tup zs) → Hz c = some (.tup zs) := fun c zs z => hG1 ▸ tup_dict hu z
        have tabz : TabAt T.C_Table Hz a ns := by
          obtain ⟨dx, t, h1, h2⟩ := tab.mono ey
          refine ⟨dx, t, ?_, tpz _ _ h2⟩
          rw [← hG1, upd_ne (ne_of h1 hu (by intro z; cases z))]
          exact h1
        have ul := tl unod ufo
        refine ⟨_, rfl, D, od, rfl, .inr ⟨_, hDz, fun L hL => ?_⟩⟩
        refine lc_vals walk_keysT ((us.map fun o => decide (mirL ns p o ∈ us)).map V.bl) (by rw [List.length_map, List.length_map, List.length_map]) (by rw [List.length_map]; omega) hL (fun Hw ew => ew _ _ hDz) ?_ gmono_name ?_
        · rintro j x _ Hw R2 hj ew ⟨rfl, kk, vv, qa, hkv, rfl, hqa⟩ kR
          rw [List.getElem?_map] at hkv
          obtain ⟨o, ho, eo⟩ := Option.map_eq_some_iff.mp hkv
          obtain ⟨rfl, rfl⟩ := Prod.mk.inj eo
          rw [entK_kV] at hqa
          have sko := ts ufo o (List.mem_of_getElem? ho)
          refine ⟨rfl, _, rfl, _, rfl, _, rfl, a, r, qa, ns, p, o, rfl, tabz.mono ew, ok, ew _ _ (tpz _ _ hr3), hqa, skp.len, sko.len, fun Hv qm ev nqm hqm => ?_⟩
          have hg : DGet Hv D (.ref qm) (if mirL ns p o ∈ us then some (V.bl true) else none) := by
            refine .inr ⟨_, entK (mirL ns p o), qm, .inr ⟨od, ev _ _ (ew _ _ hDz)⟩, rfl, by rw [entK_kV]; exact hqm, ?_⟩
            rw [bool_val]
          refine ⟨_, rfl, D, _, rfl, hg, kR _ _ ev ?_⟩
          rw [List.getElem?_map, List.getElem?_map, ho]
          by_cases c2 : mirL ns p o ∈ us
          · rw [if_pos c2]
            simp [c2]
          · rw [if_neg c2]
            simp [c2]
        intro H2 e2 hL2
        refine ⟨e2 _ _ hDz, ?_⟩
        have e3 : Ex Hy (upd H2 D (.dT (us.map fun p => (entK p, V.bl true)))) := by subst hG1; exact Ex.back hu e2
        generalize hG3 : upd H2 D _ = H3 at e3
        have nLD : L ≠ D := (ne_of_none hDz hL).symm
        have hL3 : H3 L = some (.lst ((us.map fun o => decide (mirL ns p o ∈ us)).map V.bl)) := by rw [← hG3, upd_ne nLD]; exact hL2
        clear hG3
        refine ⟨L, _, rfl, SqL.of hL3, _, rfl, ?_⟩
        have hu3 : BoolAt H3 D us := e3 _ _ hu
        have ea : (us.map fun o => decide (mirL ns p o ∈ us)).any id = us.any fun o => decide (mirL ns p o ∈ us) := by rw [List.any_map]; rfl
        rw [ea]
        cases ca : us.any fun o => decide (mirL ns p o ∈ us)
        · refine itf rfl ⟨us, b, _, rfl, ext ey e3, hu3, unod, ugs, ufo, keepI (.inr fun o ho z => ?_)⟩
          rw [List.any_eq_false] at ca
          exact ca o ho (decide_eq_true z)
        · refine itt rfl ?_
          obtain ⟨o, ho, hm⟩ := List.any_eq_true.mp ca
          have hm := of_decide_eq_true hm
          refine ⟨_, rfl, _, rfl, D, _, rfl, DPut.t (k := entK p) hu3 (by rw [entK_kV]; exact e3 _ _ hr3) ?_, ?_⟩
          · rw [List.length_map]
            exact Nat.lt_of_le_of_lt ul (by decide)
          have nu : (us ++ [p]).Nodup := List.nodup_append.mpr ⟨unod, by simp, fun x hx y hy => by rw [List.mem_singleton.mp hy]; rintro rfl; exact c hx⟩
          refine ⟨us ++ [p], true, _, rfl, ex_upd (ext ey e3) hD, ?_, nu, fun x hx => List.mem_append_left _ (ugs x hx), fun x hx => ?_, .inr ⟨rfl, ?_⟩⟩
          · show upd _ _ _ _ = _
            rw [upd_same, putK_new _ (by rw [bool_val, if_neg c]), List.map_append]
            rfl
          · rcases List.mem_append.mp hx with hx | hx
            · exact ufo x hx
            · rw [List.mem_singleton.mp hx]
              exact .step pl (ufo o ho) (ufo _ hm)
          · rcases ucl with ⟨_, rfl, _⟩ | ⟨_, u⟩
            · exact lack_snoc pl c
            · exact Nat.lt_trans (lack_snoc pl c) u
      · rintro σ Hy ⟨us, b, y6, rfl, ey, hu, unod, ugs, ufo, ucl⟩
        rw [List.take_of_length_le (by omega)] at ucl
        rcases ucl with ⟨rfl, rfl, u3⟩ | ⟨rfl, u⟩
        · exact ⟨2 * lackN al us + 1, by omega, us, false, y6, rfl, ey, hu, unod, ugs, ufo, fun _ => u3, by simp⟩
        · exact ⟨2 * lackN al us + 2, by omega, us, true, y6, rfl, ey, hu, unod, ugs, ufo, (fun z => nomatch z), by simp⟩
end

/-- what is no object of its own kind stays where d alone, a dict by tuples of seats, is written -/
theorem nd_keep {P : Program} {w : World} {H H2 : Hp} {d c : Addr} {xs : List NEnt} {u : HO} (hd : H d = some (NDo P w d xs)) (x : XB d H H2) (n : ∀ φ, u ≠ .ext φ) (h : H c = some u) : H2 c = some u := x c u (ne_of h hd fun z => n _ z) h
section
variable {P : Program} {w : World} {H H2 : Hp} {d : Addr} {xs : List NEnt}
theorem nd_tup (hd : H d = some (NDo P w d xs)) (x : XB d H H2) (c : Addr) (ys : List V) (h : H c = some (.tup ys)) : H2 c = some (.tup ys) := nd_keep hd x (fun _ z => nomatch z) h
theorem nd_lst (hd : H d = some (NDo P w d xs)) (x : XB d H H2) {c : Addr} {ys : List V} (h : H c = some (.lst ys)) : H2 c = some (.lst ys) := nd_keep hd x (fun _ z => nomatch z) h
theorem nd_dT (hd : H d = some (NDo P w d xs)) (x : XB d H H2) {c : Addr} {ys : List (List L2.Key × V)} (h : H c = some (.dT ys)) : H2 c = some (.dT ys) := nd_keep hd x (fun _ z => nomatch z) h
theorem nd_tab (hd : H d = some (NDo P w d xs)) (x : XB d H H2) {C a : Addr} {ns : List Int} (h : TabAt C H a ns) : TabAt C H2 a ns := let ⟨dx, t, h1, h2⟩ := h; ⟨dx, t, nd_keep hd x (fun _ z => nomatch z) h1, nd_tup hd x _ _ h2⟩
theorem nd_rowsAt (hd : H d = some (NDo P w d xs)) (x : XB d H H2) {c : Addr} {hss : List (List Int)} (h : RowsAt H c hss) : RowsAt H2 c hss := let ⟨ys, h1, h2⟩ := h; ⟨ys, nd_lst hd x h1, h2.monoT (nd_tup hd x)⟩
theorem nd_key (hd : H d = some (NDo P w d xs)) (x : XB d H H2) {b : Addr} {ps : List (List Int)} (h : KeyAt H b ps) : KeyAt H2 b ps := h.monoT (nd_tup hd x)
end
/-- a dict of what stays unvisited in the end -/
def FinAt (H : Hp) (r : Addr) (ns : List Int) (op : List (List Int)) : Prop := ∃ fs, CntAt H r fs ∧ ∀ s, SeatOk ns s → s ∉ op → dep fs s = some (finF ns op s)
theorem FinAt.mono {H H2 : Hp} {r : Addr} {ns : List Int} {op : List (List Int)} (h : FinAt H r ns op) (e : ∀ c ys, H c = some (.dT ys) → H2 c = some (.dT ys)) : FinAt H2 r ns op := let ⟨fs, h1, h2⟩ := h; ⟨fs, e _ _ h1, h2⟩
def KnOk (H : Hp) (ns : List Int) (xs : List NEnt) : Prop := ∀ x ∈ xs, FinAt H x.2.2 ns x.1
theorem KnOk.mono {H H2 : Hp} {ns : List Int} {xs : List NEnt} (h : KnOk H ns xs) (e : ∀ c ys, H c = some (.dT ys) → H2 c = some (.dT ys)) : KnOk H2 ns xs := fun x hx => (h x hx).mono e
/-- how many entries a count for n unvisited seats may add -/
def bndN : Nat → Nat
  | 0 => 1
  | n + 1 => 1 + (n + 1) * bndN n
theorem bnd_pos (n : Nat) : 1 ≤ bndN n := by
  cases n with
  | zero => exact Nat.le_refl _
  | succ n => exact Nat.le_add_right _ _
abbrev trueK (k : Nat) : L2.Key × V := (Sum.inl (k : Int), V.bl true)
theorem put_true {ks : List Nat} {k : Nat} (h : k ∈ ks) : putK (ks.map trueK) (Sum.inl (k : Int)) (V.bl true) = ks.map trueK := by
  unfold putK
  rw [if_pos (List.any_eq_true.mpr ⟨trueK k, List.mem_map_of_mem h, decide_eq_true rfl⟩), List.map_map]
  refine List.map_congr_left fun j _ => ?_
  show (if (Sum.inl (j : Int) : L2.Key) = Sum.inl (k : Int) then ((Sum.inl (j : Int) : L2.Key), V.bl true) else trueK j) = trueK j
  split <;> rfl
theorem true_none {ks : List Nat} {k : Nat} (h : k ∉ ks) : valV (ks.map trueK) (Sum.inl (k : Int)) = none := by
  induction ks with
  | nil => rfl
  | cons j ks ih =>
    rw [List.map_cons, valV_neg (fun z => h (by have := Sum.inl.inj z; have : j = k := by omega
                                                rw [this]; exact List.mem_cons_self)), ih fun z => h (List.mem_cons_of_mem _ z)]
/-- pairs put over a dict that has all their keys -/
def overD (o : Nat) (us : List (List Int)) (fs : List (List Int × Nat)) : List (List Int × Nat) := fs.map fun f => if f.1 ∈ us then (f.1, o) else f
theorem over_keys (o : Nat) (us : List (List Int)) (fs : List (List Int × Nat)) : keysL (overD o us fs) = keysL fs := by
  unfold keysL overD
  rw [List.map_map]
  refine List.map_congr_left fun f _ => ?_
  show (if f.1 ∈ us then (f.1, o) else f).1 = f.1
  by_cases c : f.1 ∈ us
  · rw [if_pos c]
  · rw [if_neg c]
theorem over_dep (o : Nat) (us : List (List Int)) (p : List Int) : ∀ fs : List (List Int × Nat), dep (overD o us fs) p = (dep fs p).map fun d => if p ∈ us then o else d
  | [] => rfl
  | f :: fs => by
    show dep ((if f.1 ∈ us then (f.1, o) else f) :: overD o us fs) p = _
    rw [dep_cons, dep_cons, over_dep o us p fs]
    have e : (if f.1 ∈ us then (f.1, o) else f).1 = f.1 := by
      by_cases c : f.1 ∈ us
      · rw [if_pos c]
      · rw [if_neg c]
    rw [e]
    by_cases c : f.1 = p
    · rw [if_pos c, if_pos c]
      subst c
      by_cases c2 : f.1 ∈ us
      · rw [if_pos c2]
        simp [c2]
      · rw [if_neg c2]
        simp [c2]
    · rw [if_neg c, if_neg c]
theorem put_over {o : Nat} {p : List Int} {fs : List (List Int × Nat)} (h : p ∈ keysL fs) : putK (fs.map entV) (entK p) (V.int (o : Int)) = (overD o [p] fs).map entV := by
  unfold putK
  have e : ((fs.map entV).any fun kv => decide (kv.1 = entK p)) = true := by
    obtain ⟨f, hf, rfl⟩ := List.mem_map.mp h
    exact List.any_eq_true.mpr ⟨entV f, List.mem_map_of_mem hf, decide_eq_true rfl⟩
  rw [if_pos e]
  unfold overD
  rw [List.map_map, List.map_map]
  refine List.map_congr_left fun f _ => ?_
  show (if entK f.1 = entK p then (entK f.1, V.int (o : Int)) else entV f) = entV (if f.1 ∈ [p] then (f.1, o) else f)
  by_cases c : f.1 = p
  · rw [if_pos (by rw [c]), if_pos (by rw [c]; exact List.mem_cons_self)]
  · rw [if_neg (fun z => c (entK_inj z)), if_neg (by simpa using c)]
theorem over_cons (o : Nat) (p : List Int) (us : List (List Int)) (fs : List (List Int × Nat)) : overD o us (overD o [p] fs) = overD o (p :: us) fs := by
  unfold overD
  rw [List.map_map]
  refine List.map_congr_left fun f _ => ?_
  show (if (if f.1 ∈ [p] then (f.1, o) else f).1 ∈ us then ((if f.1 ∈ [p] then (f.1, o) else f).1, o) else (if f.1 ∈ [p] then (f.1, o) else f)) = _
  by_cases c : f.1 = p
  · have e1 : (if f.1 ∈ [p] then (f.1, o) else f) = (f.1, o) := if_pos (by rw [c]; exact List.mem_cons_self)
    rw [e1, if_pos (show f.1 ∈ p :: us by rw [c]; exact List.mem_cons_self)]
    by_cases c2 : f.1 ∈ us
    · rw [if_pos c2]
    · rw [if_neg c2]
  · have e1 : (if f.1 ∈ [p] then (f.1, o) else f) = f := if_neg (by simpa using c)
    rw [e1]
    by_cases c2 : f.1 ∈ us
    · rw [if_pos c2, if_pos (List.mem_cons_of_mem _ c2)]
    · rw [if_neg c2, if_neg (fun z => (List.mem_cons.mp z).elim c c2)]
theorem merge_over {o : Nat} : ∀ {us : List (List Int)} {fs : List (List Int × Nat)}, (∀ p ∈ us, p ∈ keysL fs) → CD.mergeT (fs.map entV) ((atD o us).map entV) = (overD o us fs).map entV
  | [], fs, _ => by
    have e : overD o [] fs = fs := by
      unfold overD
      have e2 : (fun f : List Int × Nat => if f.1 ∈ ([] : List (List Int)) then (f.1, o) else f) = id := funext fun f => if_neg List.not_mem_nil
      rw [e2]
      exact List.map_id _
    rw [e]
    rfl
  | p :: us, fs, h => by
    show CD.mergeT (putK (fs.map entV) (entK p) (V.int (o : Int))) ((atD o us).map entV) = _
    rw [put_over (h p List.mem_cons_self), merge_over (fun q hq => by rw [over_keys]; exact h q (List.mem_cons_of_mem _ hq)), over_cons]

theorem notin_key {K : PySem.W.Frag} {H : Hp} {r o : Addr} {ps : List Int} {op : List (List Int)} {Q : VK} (hx : H r = some (.tup (ps.map V.int))) (ho : KeyAt H o op) (k : Q (.bl (!decide (ps ∈ op))) H) : rNotInQ K (.ref r) (.ref o) H Q := by
  obtain ⟨rs, hb, rr⟩ := ho
  refine ⟨iT ps, op.map iT, dp_ints hx, .inr (.tup (SqT.of hb) rr.dp), (sh_ints (n := 59) _).ok, (sh_rows (n := 58) op).ok, ?_⟩
  rw [any_rows]
  exact k
section
variable {P : Program} {w : World} {K : PySem.W.Frag} {mg : Str → Option Value} {base : Heap}
theorem fn_never {k : Nat} {f : Addr} {fd : FuncData} {ps : List Str} {sp : Sp} (h : ∀ vs H Q E, ¬ sp vs H Q E) : FnOk P w K mg base CX0 k f fd ps sp := ⟨fun vs H Q E z => (h _ _ _ _ z).elim, fun A outer s H args us vs Q E _ _ _ _ z => (h _ _ _ _ z).elim⟩
/-- fewer than n unvisited seats -/
def sp_finN (C : Addr) (P : Program) (w : World) (n : Nat) : Sp := fun vs H Q _ => ∃ (a o d : Addr) (ns : List Int) (op : List (List Int)) (xs : List NEnt), vs = [.ref a, .ref o, .ref d] ∧ TabAt C H a ns ∧ SzOk ns ∧ prodL ns ≤ 300 ∧ KeyAt H o op ∧ op.Nodup ∧ (∀ g ∈ op, SeatOk ns g) ∧ (∃ p, SeatOk ns p ∧ p ∉ op) ∧ op.length < n ∧ op.length ≤ 100 ∧ ND P w H d xs ∧ KnOk H ns xs ∧ xs.length + bndN op.length ≤ 1000000 ∧
  ∀ r H2 xs2, XB d H H2 → ND P w H2 d xs2 → KnOk H2 ns xs2 → FinAt H2 r ns op → xs2.length ≤ xs.length + bndN op.length → (∀ x ∈ xs2, x ∈ xs ∨ (x.1.length ≤ op.length ∧ H x.2.2 = none)) → Q (.ref r) H2
theorem ok_finN (T : TX K mg) : ∀ n, FnOk P w K mg base CX0 (4 + n) T.f_final_counts T.fd_final_counts ["table", "open_seats", "known"] (sp_finN T.C_Table P w n)
  | 0 => fn_never fun vs H Q E h => by
    obtain ⟨_, _, _, _, _, _, _, _, _, _, _, _, _, _, h, _⟩ := h
    omega
  | n + 1 => by
    have IH := ok_finN T n
    refine T.F_final_counts.ok sc_final_counts (fun vs H Q E h => ?_) (fun cdv A outer s H vs Q E hr h => ?_)
    · obtain ⟨a, o, d, ns, op, xs, rfl, _⟩ := h
      rfl
    · obtain ⟨a, o, d, ns, op, xs, rfl, tab, ok, pr, hko, nod, sg, ⟨p0, sp0, np0⟩, ln, l100, nd, kno, lb, k⟩ := h
      refine ⟨_, (pss_cons (ps_if (pt_cmp (pc_nin (Nat.lt_of_le_of_lt (Nat.add_le_add_left (by decide : 9 ≤ 65) _) (u65 hr)) (pv 1) (pv 2))) (pss_one (ps_ret (pe_nget (Nat.lt_of_le_of_lt (Nat.add_le_add_left (by decide : 9 ≤ 65) _) (u65 hr)) (pv 2) (pv 1) (fun _ _ => rfl)))) pss_nil) (pss_cons (ps_setLc (own := [("seat", 11)]) (g := (gName 11)) (i := 3) rfl sc_final_counts.nd rfl rfl (sw_true rfl rfl rfl (by decide +kernel)) (pi_list (pe_call (ok_all_seats T) (hr.mono (Nat.le_trans (by decide : 2 ≤ 4) (Nat.le_add_right _ n))) rfl T.m_all_seats T.F_all_seats.kp T.b_all_seats .nil pass0 (pa_cons (pv 0) pa_nil))) (blkOk_by (N := N_final_counts) (sc := defScope s_final_counts) (by decide +kernel)) (fun _ _ _ _ _ => (pg_name (i := 11) sc_final_counts.nd rfl (Or.inl rfl))) (fun _ _ _ _ _ => (pts_one (pt_cmpR (r := rNotInQ K) (op_notInQ (u65 hr)) (pv 11) (pv 1) rfl))) (fun _ _ _ _ _ => (pv 11))) (pss_cons (ps_set (i := 4) sc_final_counts.nd rfl (Or.inr rfl) pe_dnewT) (pss_cons (ps_for PassesOwn.never rfl (pi_tup (pv 1)) (pg_name (i := 5) sc_final_counts.nd rfl (Or.inr rfl)) (pss_cons (ps_set (i := 6) sc_final_counts.nd rfl (Or.inl rfl) (pe_callTy call_tuple_of (by rfl) T.z_tuple (by decide +kernel) (pa_cons (pe_lc (own := [("seat", 11)]) (g := (gName 11)) rfl sc_final_counts.nd (pi_tup (pv 1)) (blkOk_by (N := N_final_counts) (sc := defScope s_final_counts) (by decide +kernel)) (fun _ _ _ _ _ => (pg_name (i := 11) sc_final_counts.nd rfl (Or.inl rfl))) (fun _ _ _ _ _ => (pts_one (pt_cmpR (r := rNeD K) (op_neD hr.units) (pv 11) (pv 5) (nomark _)))) (fun _ _ _ _ _ => (pv 11))) pa_nil))) (pss_one (ps_dput (hu_of hr) (pv 4) (pv 5) (pe_dget (hu_of hr) (pe_call IH hr rfl T.m_final_counts T.F_final_counts.kp T.b_final_counts .nil pass0 (pa_cons (pv 0) (pa_cons (pv 6) (pa_cons (pv 2) pa_nil)))) (pv 5) (fun _ _ => rfl)) (by rfl))))) (pss_cons (CD.ps_setDcT (own := [("seat", 11)]) (g := (gName 11)) (i := 7) (hu_of hr) rfl sc_final_counts.nd rfl rfl (CD.sw_trueD rfl rfl rfl (by decide +kernel)) (pi_list (pv 3)) (blkOk_by (N := N_final_counts) (sc := defScope s_final_counts) (by decide +kernel)) (fun _ _ _ _ _ => (pg_name (i := 11) sc_final_counts.nd rfl (Or.inl rfl))) (fun _ _ _ _ _ => pts_nil) (fun _ _ _ _ _ => (pv 11)) (fun _ _ _ _ _ => (pe_callB (r := rLenQ K) call_len_seq (by rfl) T.z_len (by decide +kernel) (pa_cons (pv 1) pa_nil)))) (pss_cons (CD.ps_setDcK (own := [("goal", 5)]) (g := (gName 5)) (i := 8) rfl sc_final_counts.nd rfl rfl (CD.sw_trueD rfl rfl rfl (by decide +kernel)) (pi_tup (pv 1)) (blkOk_by (N := N_final_counts) (sc := defScope s_final_counts) (by decide +kernel)) (fun _ _ _ _ _ => (pg_name (i := 5) sc_final_counts.nd rfl (Or.inl rfl))) (fun _ _ _ _ _ => pts_nil) (fun _ _ _ _ _ => (pe_dget (hu_of hr) (pv 4) (pv 5) (fun _ _ => rfl))) (fun _ _ _ _ _ => pe_bl)) (pss_cons (ps_for PassesOwn.never rfl (pi_list (pe_callBK (cr_sortedRev (b := true)) (by rfl) T.z_sorted (by decide +kernel) (pa_cons (pe_callTy (call_listD rfl) (by rfl) T.z_list (by decide +kernel) (pa_cons (pv 8) pa_nil)) pa_nil) (pk_cons pe_bl pk_nil))) (pg_name (i := 9) sc_final_counts.nd rfl (Or.inr rfl)) (pss_cons (ps_set (i := 10) sc_final_counts.nd rfl (Or.inr rfl) (pe_call (ok_forced_seats T) (hr.mono (Nat.le_trans (by decide : 3 ≤ 4) (Nat.le_add_right _ n))) rfl T.m_forced_seats T.F_forced_seats.kp T.b_forced_seats .nil pass0 (pa_cons (pv 0) (pa_cons (pe_lc (own := [("goal", 5)]) (g := (gName 5)) rfl sc_final_counts.nd (pi_tup (pv 1)) (blkOk_by (N := N_final_counts) (sc := defScope s_final_counts) (by decide +kernel)) (fun _ _ _ _ _ => (pg_name (i := 5) sc_final_counts.nd rfl (Or.inl rfl))) (fun _ _ _ _ _ => (pts_one (pt_cmpR op_le (pe_dget (hu_of hr) (pv 4) (pv 5) (fun _ _ => rfl)) (pv 9) (nomark _)))) (fun _ _ _ _ _ => (pv 5))) (pa_cons (pv 3) pa_nil))))) (pss_one (ps_expr (pe_bm PySem.F.plainAttrs_dict PySem.F.slot_dict_update PySem.F.type_dict_update (CD.mt_updT (hu_of hr)) (pv 7) (pa_cons (CD.pe_dcT (own := [("seat", 11)]) (g := (gName 11)) (hu_of hr) rfl sc_final_counts.nd (pi_list (pv 3)) (blkOk_by (N := N_final_counts) (sc := defScope s_final_counts) (by decide +kernel)) (fun _ _ _ _ _ => (pg_name (i := 11) sc_final_counts.nd rfl (Or.inl rfl))) (fun _ _ _ _ _ => (pts_one (pt_cmp (pc_din (hu_of hr) (pv 11) (pv 10))))) (fun _ _ _ _ _ => (pv 11)) (fun _ _ _ _ _ => (pv 9))) pa_nil)))))) (pss_cons (ps_nput (Nat.lt_of_le_of_lt (Nat.add_le_add_left (by decide : 9 ≤ 65) _) (u65 hr)) (pv 2) (pv 1) (pv 7) (by rfl)) (pss_one (ps_ret (pv 7))))))))))), ?_⟩
      refine ⟨_, rfl, _, rfl, d, o, xs, op, rfl, rfl, nd, hko, _, rfl, ?_⟩
      cases hlk : lkN xs op with
      | some r =>
        refine itt rfl ?_
        obtain ⟨b, hb⟩ := lkN_mem hlk
        exact ⟨_, rfl, _, rfl, d, o, xs, op, r, rfl, rfl, nd, hko, hlk, k r H xs XB.refl nd kno (kno _ hb) (Nat.le_add_right _ _) fun x hx => .inl hx⟩
      | none =>
        refine itf rfl ?_
        dsimp only [tNext]
        -- allowed
        refine ⟨_, rfl, a, ns, rfl, tab, ok, pr, fun sl H1 e1 nsl ⟨ys, hsl, rs⟩ => ⟨sl, rfl, ⟨_, SqL.of hsl⟩, fun L hL => ?_⟩⟩
        have ly : ys.length = (allS ns).length := Paired.length rs
        have lA : (allS ns).length ≤ 300 := by have := allS_len ok.one; omega
        refine lc_filt (walk_list (xs := ys)) (ys.zip (allS ns)) (fun z => decide (z.2 ∉ op)) (fun z => z.1) (by rw [List.length_zip]; omega) (by omega) hL (fun Hx ex => SqL.of (ex _ _ hsl)) ?_ ?_
        · rintro i x ⟨z1, z2⟩ _ Hx R S hz ex ⟨rfl, hx⟩ kR kS
          obtain ⟨hz1, hz2⟩ := zip_at2 hz
          obtain ⟨p, r, hp, rfl, hr2⟩ := rs.get hx
          obtain rfl : p = z2 := Option.some.inj (hp.symm.trans hz2)
          obtain rfl : V.ref r = z1 := Option.some.inj (hx.symm.trans hz1)
          refine ⟨rfl, _, rfl, _, rfl, notin_key (ex _ _ hr2) (hko.mono (ext e1 ex)) ⟨_, rfl, ?_⟩⟩
          by_cases c : p ∈ op
          · exact itf (by rw [decide_eq_true c]; rfl) (kS _ exr (decide_eq_false (not_not_intro c)))
          · exact itt (by rw [decide_eq_false c]; rfl) ⟨_, rfl, kR _ _ exr (decide_eq_true c) rfl⟩
        intro H2 e2 hL2
        have ra : RowsR H2 (((ys.zip (allS ns)).filter fun z => decide (z.2 ∉ op)).map fun z => z.1) ((allS ns).filter fun q => decide (q ∉ op)) := RowsR.filt (fun q => decide (q ∉ op)) (rs.mono e2)
        have mal : ∀ q, q ∈ (allS ns).filter (fun q => decide (q ∉ op)) ↔ SeatOk ns q ∧ q ∉ op := fun q => by rw [List.mem_filter, mem_allS, decide_eq_true_eq]
        have nal : ((allS ns).filter fun q => decide (q ∉ op)).Nodup := (allS_nodup ns).filter _
        have lal : ((allS ns).filter fun q => decide (q ∉ op)).length ≤ 300 := Nat.le_trans (List.length_filter_le _ _) lA
        generalize (((ys.zip (allS ns)).filter fun z => decide (z.2 ∉ op)).map fun z => z.1) = ls at hL2 ra
        generalize ((allS ns).filter fun q => decide (q ∉ op)) = al at ra mal nal lal
        have E2 := ext e1 e2
        have tab2 := tab.mono E2
        have hko2 := hko.mono E2
        have nd2 := nd.ext E2
        have kno2 : KnOk H2 ns xs := kno.mono fun c ys z => E2 _ _ z
        clear hsl rs ly
        dsimp only [gName]
        -- outcomes
        (intro O nO; generalize hGO : upd _ O _ = H3; have eH3 := exG hGO nO; have hO := atG hGO; clear hGO)
        have nO2 : H2 O = none := nO
        have nd3 := nd2.ext eH3
        have kno3 : KnOk H3 ns xs := kno2.mono fun c ys z => eH3 _ _ z
        obtain ⟨rs, hrs, rr⟩ := hko2
        have lr : rs.length = op.length := Paired.length rr
        refine ⟨_, rfl, o, rfl, ⟨_, SqT.of (eH3 _ _ hrs)⟩, ?_⟩
        refine for_it (walk_tup (xs := rs)) (fun i σ Hx => ∃ (xs2 : List NEnt) (y5 y6 : Option V), σ = [some (.ref a), some (.ref o), some (.ref d), some (.ref L), some (.ref O), y5, y6, none, none, none, none, none] ∧ XB d H2 Hx ∧ ND P w Hx d xs2 ∧ KnOk Hx ns xs2 ∧ CntAt Hx O ((op.take i).map fun g => (g, outF ns op g)) ∧ xs2.length ≤ xs.length + i * bndN (op.length - 1) ∧ ∀ x ∈ xs2, x ∈ xs ∨ (x.1.length < op.length ∧ H x.2.2 = none ∧ x.2.2 ≠ O))
          ⟨xs, _, _, rfl, XB.of eH3, nd3, kno3, hO, by omega, fun x hx => .inl hx⟩ (fun i σ Hx _ ⟨_, _, _, _, xb, _⟩ => SqT.of (nd_tup nd2.1 xb _ _ hrs)) ?_ ?_
        · rintro i x σ _ Hx hi ⟨xs2, y5, y6, rfl, xb, ndx, knx, hOx, lnx, sbx⟩ ⟨rfl, hx⟩
          obtain ⟨g, r, hg, rfl, hr2⟩ := rr.get hx
          have gop : g ∈ op := List.mem_of_getElem? hg
          have hrx := nd_tup nd2.1 xb _ _ hrs
          have rrx := rr.monoT (nd_tup nd2.1 xb)
          have hgx := nd_tup nd2.1 xb _ _ hr2
          dsimp only [gName]
          refine ⟨_, rfl, o, rfl, ⟨_, SqT.of hrx⟩, fun M hM => ?_⟩
          refine lc_filt (walk_tup (xs := rs)) (rs.zip op) (fun z => decide (z.2 ≠ g)) (fun z => z.1) (by rw [List.length_zip]; omega) (by omega) hM (fun Hy ey => SqT.of (ey _ _ hrx)) ?_ ?_
          · rintro j x ⟨z1, z2⟩ _ Hy R S hz ey ⟨rfl, hx⟩ kR kS
            obtain ⟨hz1, hz2⟩ := zip_at2 hz
            obtain ⟨p, rp, hp, rfl, hrp⟩ := rrx.get hx
            obtain rfl : p = z2 := Option.some.inj (hp.symm.trans hz2)
            obtain rfl : V.ref rp = z1 := Option.some.inj (hx.symm.trans hz1)
            refine ⟨rfl, _, rfl, _, rfl, iT p, iT g, dp_ints (ey _ _ hrp), dp_ints (ey _ _ hgx), (sh_ints (n := 59) _).ok, (sh_ints (n := 59) _).ok, _, rfl, ?_⟩
            rw [eqv_ints]
            by_cases c : p = g
            · exact itf (by rw [decide_eq_true c]; rfl) (kS _ exr (decide_eq_false (not_not_intro c)))
            · exact itt (by rw [decide_eq_false c]; rfl) ⟨_, rfl, kR _ _ exr (decide_eq_true c) rfl⟩
          intro H4 e4 hM4
          have rm : RowsR H4 (((rs.zip op).filter fun z => decide (z.2 ≠ g)).map fun z => z.1) (lessG op g) := RowsR.filt (fun q => decide (q ≠ g)) (rrx.mono e4)
          generalize (((rs.zip op).filter fun z => decide (z.2 ≠ g)).map fun z => z.1) = ms at hM4 rm
          refine ⟨M, _, rfl, .inl ⟨SqL.of hM4, ?_⟩⟩
          (intro q nq; generalize hGq : upd _ q _ = H5; have eH5 := exG hGq nq; have hq := atG hGq; clear hGq)
          have E5 : Ex Hx H5 := ext e4 eH5
          have hq5 : KeyAt H5 q (lessG op g) := ⟨ms, hq, rm.mono eH5⟩
          dsimp only [gName]
          have ll := lessG_len nod gop
          have bl : bndN op.length = 1 + op.length * bndN (op.length - 1) := by
            have e : op.length = (op.length - 1) + 1 := by omega
            rw [e]
            rfl
          have eb : (lessG op g).length = op.length - 1 := by omega
          have b1 : (i + 1) * bndN (op.length - 1) ≤ op.length * bndN (op.length - 1) := Nat.mul_le_mul_right _ (by omega)
          rw [Nat.succ_mul] at b1
          have tab5 : TabAt T.C_Table H5 a ns := (nd_tab nd2.1 xb tab2).mono E5
          refine ⟨_, rfl, _, rfl, _, rfl, a, q, d, ns, lessG op g, xs2, rfl, tab5, ok, pr, hq5, nod.filter _, fun z hz => sg z (mem_lessG.mp hz).1, ⟨p0, sp0, fun z => np0 (mem_lessG.mp z).1⟩, by omega, by omega, ndx.ext E5, knx.mono fun c ys z => E5 _ _ z, by rw [eb]; omega, fun fd H6 xs3 xb6 nd6 kn6 fin6 ln6 sb6 => ?_⟩
          have ndx5 := ndx.ext E5
          have xb26 : XB d H2 H6 := (xb.trans (XB.of E5)).trans xb6
          have hO6 : CntAt H6 O ((op.take i).map fun g => (g, outF ns op g)) := nd_dT ndx5.1 xb6 (E5 _ _ hOx)
          have hr6 := nd_tup ndx5.1 xb6 _ _ (E5 _ _ hgx)
          obtain ⟨fs, hfs, hdep⟩ := fin6
          have hget : DGet H6 fd (.ref r) (some (V.int (outF ns op g : Nat))) := by
            have := cnt_get hfs hr6
            rw [hdep g (sg g gop) (fun z => (mem_lessG.mp z).2 rfl)] at this
            exact this
          have ng : g ∉ op.take i := nodup_take nod hg
          refine ⟨_, rfl, fd, _, rfl, hget, _, rfl, _, rfl, O, _, rfl, DPut.t (k := entK g) hO6 (by rw [entK_kV]; exact hr6) ?_, ?_⟩
          · rw [List.length_map, List.length_map, List.length_take]
            exact Nat.lt_of_le_of_lt (show _ ≤ 100 by omega) (by decide)
          have nOd : d ≠ O := ne_of nd6.1 hO6 (by unfold NDo; intro z; cases z)
          refine ⟨xs3, _, _, rfl, fun c u n z => ?_, ⟨?_, fun z hz => (nd6.2 z hz).monoT fun c ys hc => tup_dict hO6 hc⟩, fun z hz => ?_, ?_, ?_, fun z hz => ?_⟩
          · rw [upd_ne (ne_of_none z nO2)]
            exact xb26 c u n z
          · rw [upd_ne nOd]
            exact nd6.1
          · obtain ⟨fz, h1, h2⟩ := kn6 z hz
            refine ⟨fz, ?_, h2⟩
            have nz : z.2.2 ≠ O := by
              rcases sb6 z hz with hz | hz
              · rcases sbx z hz with hz | hz
                · obtain ⟨fz, h1, _⟩ := kno2 z hz
                  exact ne_of_none h1 nO2
                · exact hz.2.2
              · intro e
                have := E5 _ _ hOx
                rw [← e, hz.2] at this
                cases this
            show upd _ _ _ _ = _
            rw [upd_ne nz]
            exact h1
          · show upd _ _ _ _ = _
            rw [upd_same, take_more hg, List.map_append, List.map_append]
            exact congrArg (fun z => some (HO.dT z)) (putK_new _ (by
              rw [val_ent, dep_none (fun z => ng ?_)]
              · rfl
              · obtain ⟨f, hf, e⟩ := List.mem_map.mp z
                obtain ⟨g2, hg2, rfl⟩ := List.mem_map.mp hf
                exact e ▸ hg2))
          · rw [eb] at ln6
            rw [Nat.succ_mul]
            omega
          · rcases sb6 z hz with hz | ⟨h1, h2⟩
            · exact sbx z hz
            · refine .inr ⟨by omega, ?_, ?_⟩
              · have nzd : z.2.2 ≠ d := by
                  intro e
                  have := ndx5.1
                  rw [← e, h2] at this
                  cases this
                exact Evl.fresh_back E2 (xb.back nzd (Evl.fresh_back E5 h2))
              · intro e
                have := E5 _ _ hOx
                rw [← e, h2] at this
                cases this
        · rintro σ Hx ⟨xs2, y5, y6, rfl, xb, ndx, knx, hOx, lnx, sbx⟩
          rw [show rs.length = op.length from lr, List.take_of_length_le (Nat.le_refl op.length)] at hOx
          rw [show rs.length = op.length from lr] at lnx
          have hLx := nd_lst nd2.1 xb hL2
          have rax := ra.monoT (nd_tup nd2.1 xb)
          have hrx := nd_tup nd2.1 xb _ _ hrs
          have rrx := rr.monoT (nd_tup nd2.1 xb)
          have tabx := nd_tab nd2.1 xb tab2
          have lls : ls.length = al.length := Paired.length ra
          -- found
          refine ⟨_, rfl, L, rfl, ⟨_, SqL.of hLx⟩, fun F hF => ?_⟩
          refine CD.dcT_it (walk_list (xs := ls)) (fun i Hy => Ex Hx Hy ∧ CntAt Hy F (atD op.length (al.take i))) ⟨exn hF, upd_same⟩ (fun i Hy _ p => SqL.of (p.1 _ _ hLx)) ?_ ?_
          · rintro i x _ Hy hi ⟨ey, hc⟩ ⟨rfl, hx⟩
            obtain ⟨p, r, hp, rfl, hr2⟩ := rax.get hx
            have hn : p ∉ al.take i := nodup_take nal hp
            refine ⟨rfl, _, rfl, _, rfl, o, rs, rfl, .inr (SqT.of (ey _ _ hrx)), _, entK p, r, rfl, by rw [entK_kV]; exact ey _ _ hr2, hc, ?_, ex_upd ey hF, ?_⟩
            · rw [List.length_map, List.length_map, List.length_take]
              exact Nat.lt_of_le_of_lt (show _ ≤ 300 by omega) (by decide)
            · show upd _ _ _ _ = _
              rw [upd_same, putK_new _ (by rw [val_ent, dep_none (by rw [keys_atD]; exact hn)]; rfl), take_more hp, atD_snoc, List.map_append, lr]
              rfl
          rintro H7 ⟨e7, hF7⟩
          rw [List.take_of_length_le (by omega)] at hF7
          dsimp only [gName]
          -- limits
          have hOut : ∀ {Hy : Hp} {i : Nat} {g : List Int} {r : Addr}, Ex Hx Hy → op[i]? = some g → Hy r = some (.tup (g.map V.int)) → DGet Hy O (.ref r) (some (V.int (outF ns op g : Nat))) := fun {Hy i g r} ey hg hr2 => by
            have := cnt_get (ey _ _ hOx) hr2
            have e2 : dep (op.map fun g => (g, outF ns op g)) g = some (outF ns op g) := dep_mem (q := (g, outF ns op g)) (by unfold keysL; rw [List.map_map]; exact (List.map_id op).symm ▸ nod) (List.mem_map.mpr ⟨g, List.mem_of_getElem? hg, rfl⟩)
            rw [e2] at this
            exact this
          refine ⟨_, rfl, o, rfl, ⟨_, SqT.of (e7 _ _ hrx)⟩, fun D hD => ?_⟩
          refine CD.dcK_it (walk_tup (xs := rs)) (fun i Hy => Ex H7 Hy ∧ ∃ ks : List Nat, Hy D = some (.dK (ks.map trueK)) ∧ ks.length ≤ i ∧ ∀ k, k ∈ ks ↔ ∃ g ∈ op.take i, outF ns op g = k) ⟨exn hD, [], upd_same, Nat.le_refl _, fun k => by simp⟩ (fun i Hy _ p => SqT.of (p.1 _ _ (e7 _ _ hrx))) ?_ ?_
          · rintro i x _ Hy hi ⟨ey, ks, hDy, lk, mk⟩ ⟨rfl, hx⟩
            obtain ⟨g, r, hg, rfl, hr2⟩ := rrx.get hx
            have hOy := hOut (ext e7 ey) hg (ey _ _ (e7 _ _ hr2))
            refine ⟨rfl, _, rfl, _, rfl, O, _, rfl, hOy, ks.map trueK, Sum.inl (outF ns op g : Int), rfl, hDy, ?_, ex_upd ey hD, ?_⟩
            · rw [List.length_map]
              exact Nat.lt_of_le_of_lt (show _ ≤ 100 by omega) (by decide)
            by_cases c : outF ns op g ∈ ks
            · refine ⟨ks, by rw [upd_same, put_true c], by omega, fun k => ?_⟩
              rw [mk, take_more hg]
              constructor
              · rintro ⟨g2, h2, h3⟩
                exact ⟨g2, List.mem_append_left _ h2, h3⟩
              · rintro ⟨g2, h2, h3⟩
                rcases List.mem_append.mp h2 with h2 | h2
                · exact ⟨g2, h2, h3⟩
                · rw [List.mem_singleton.mp h2] at h3
                  exact (mk k).mp (h3 ▸ c)
            · refine ⟨ks ++ [outF ns op g], by rw [upd_same, putK_new _ (true_none c), List.map_append]; rfl, by rw [List.length_append]; simp; omega, fun k => ?_⟩
              rw [List.mem_append, mk, take_more hg]
              constructor
              · rintro (⟨g2, h2, h3⟩ | h)
                · exact ⟨g2, List.mem_append_left _ h2, h3⟩
                · exact ⟨g, List.mem_append_right _ List.mem_cons_self, (List.mem_singleton.mp h).symm⟩
              · rintro ⟨g2, h2, h3⟩
                rcases List.mem_append.mp h2 with h2 | h2
                · exact .inl ⟨g2, h2, h3⟩
                · rw [List.mem_singleton.mp h2] at h3
                  exact .inr (List.mem_singleton.mpr h3.symm)
          rintro H8 ⟨e8, ks, hD8, lk, mk⟩
          rw [List.take_of_length_le (by omega)] at mk
          have mk2 : ∀ g ∈ op, (outF ns op g : Int) ∈ ks.map fun k : Nat => (k : Int) := fun g hg => List.mem_map.mpr ⟨_, (mk _).mpr ⟨g, hg, rfl⟩, rfl⟩
          dsimp only [gName]
          refine ⟨_, rfl, D, ks.map trueK, rfl, .inl hD8, ?_⟩
          (intro l1 nl1; generalize hGl1 : upd _ l1 _ = H9; have eH9 := exG hGl1 nl1; have hl1 := atG hGl1; clear hGl1)
          replace hl1 : H9 l1 = some (.lst ((ks.map fun k : Nat => (k : Int)).map V.int)) := by
            rw [hl1, List.map_map, List.map_map]
            rfl
          refine ⟨l1, _, rfl, rfl, SqL.of hl1, fun outs p perm ord hp => ?_⟩
          generalize hG10 : upd H9 p _ = H10
          have e10 := exG hG10 hp
          have hp10 := atG hG10
          clear hG10
          refine ⟨p, rfl, ⟨_, SqL.of hp10⟩, ?_⟩
          have ord : outs.Pairwise (· ≥ ·) := ord
          have E10 : Ex Hx H10 := ext e7 (ext e8 (ext eH9 e10))
          have E70 : Ex H7 H10 := ext e8 (ext eH9 e10)
          refine for_it (walk_list (xs := outs.map V.int)) (fun i σ Hy => ∃ (fs : List (List Int × Nat)) (y9 y10 : Option V), σ = [some (.ref a), some (.ref o), some (.ref d), some (.ref L), some (.ref O), y5, y6, some (.ref F), some (.ref D), y9, y10, none] ∧ XB F H10 Hy ∧ CntAt Hy F fs ∧ keysL fs = al ∧ ∀ q ∈ al, ∀ v, dep fs q = some v →
              ((∃ g ∈ op, outF ns op g = v ∧ Fo ns (goodG ns op v) (allowA ns op) q ∧ ∀ g2 ∈ op, (outF ns op g2 : Int) ∈ outs.take i → Fo ns (goodG ns op (outF ns op g2)) (allowA ns op) q → v ≤ outF ns op g2) ∨ (v = op.length ∧ ∀ g2 ∈ op, (outF ns op g2 : Int) ∈ outs.take i → ¬ Fo ns (goodG ns op (outF ns op g2)) (allowA ns op) q)))
            ⟨atD op.length al, _, _, rfl, XB.refl, E70 _ _ hF7, keys_atD _ _, fun q hq v hv => ?_⟩ (fun i σ Hy _ ⟨_, _, _, _, xb, hc, _⟩ => SqL.of (xb _ _ (ne_of hp10 (E70 _ _ hF7) (by intro z; cases z)) hp10)) ?_ ?_
          · refine .inr ⟨?_, fun g2 _ z => by simp at z⟩
            have := dep_mem (fs := atD op.length al) (q := (q, op.length)) (by rw [keys_atD]; exact nal) (List.mem_map.mpr ⟨q, hq, rfl⟩)
            rw [this] at hv
            exact (Option.some.inj hv).symm
          · rintro i x σ _ Hy hi ⟨fs, y9, y10, rfl, xbF, hFy, kfs, rel⟩ ⟨rfl, hx⟩
            obtain ⟨oc, hoc, rfl⟩ := map_get hx
            obtain ⟨k, hkk, rfl⟩ := List.mem_map.mp (perm.mem_iff.mp (List.mem_of_getElem? hoc))
            dsimp only [gName]
            have hF10 := E70 _ _ hF7
            have nOF : O ≠ F := ne_of_none hOx hF
            have hOy : Hy O = Hx O := (xbF _ _ nOF (E10 _ _ hOx)).trans hOx.symm
            have xf : ∀ c u, (∀ ys, u ≠ .dT ys) → Hx c = some u → Hy c = some u := fun c u n z => xbF c u (ne_of (E10 _ _ z) hF10 (n _)) (E10 _ _ z)
            have xt : ∀ c ys, Hx c = some (.tup ys) → Hy c = some (.tup ys) := fun c ys z => xf c _ (fun _ z => nomatch z) z
            have hry := xt _ _ hrx
            have rry := rrx.monoT xt
            have hLy : Hy L = some (.lst ls) := xf _ _ (fun _ z => nomatch z) hLx
            have ray := rax.monoT xt
            have taby : TabAt T.C_Table Hy a ns := let ⟨dx, t, h1, h2⟩ := tabx; ⟨dx, t, xf _ _ (fun _ z => nomatch z) h1, xt _ _ h2⟩
            -- the goals
            refine ⟨_, rfl, _, rfl, o, rfl, ⟨_, SqT.of hry⟩, fun G hG => ?_⟩
            refine lc_filt (walk_tup (xs := rs)) (rs.zip op) (fun z => decide (outF ns op z.2 ≤ k)) (fun z => z.1) (by rw [List.length_zip]; omega) (by omega) hG (fun Hz ez => SqT.of (ez _ _ hry)) ?_ ?_
            · rintro j x ⟨z1, z2⟩ _ Hz R S hz ez ⟨rfl, hx⟩ kR kS
              obtain ⟨hz1, hz2⟩ := zip_at2 hz
              obtain ⟨g, rp, hg, rfl, hrp⟩ := rry.get hx
              obtain rfl : g = z2 := Option.some.inj (hg.symm.trans hz2)
              obtain rfl : V.ref rp = z1 := Option.some.inj (hx.symm.trans hz1)
              have hgz : DGet Hz O (.ref rp) (some (V.int (outF ns op g : Nat))) := by
                have := cnt_get (show CntAt Hz O _ from ez _ _ (hOy.trans hOx)) (ez _ _ hrp)
                have e2 : dep (op.map fun g => (g, outF ns op g)) g = some (outF ns op g) := dep_mem (q := (g, outF ns op g)) (by unfold keysL; rw [List.map_map]; exact (List.map_id op).symm ▸ nod) (List.mem_map.mpr ⟨g, List.mem_of_getElem? hg, rfl⟩)
                rw [e2] at this
                exact this
              refine ⟨rfl, _, rfl, _, rfl, O, _, rfl, hgz, _, rfl, _, _, rfl, rfl, _, rfl, ?_⟩
              by_cases c : outF ns op g ≤ k
              · exact itt (decide_eq_true (by omega)) ⟨_, rfl, kR _ _ exr (decide_eq_true c) rfl⟩
              · exact itf (decide_eq_false (by omega)) (kS _ exr (decide_eq_false c))
            intro H11 e11 hG11
            have rg : RowsR H11 (((rs.zip op).filter fun z => decide (outF ns op z.2 ≤ k)).map fun z => z.1) (op.filter fun g => decide (outF ns op g ≤ k)) := RowsR.filt (fun g => decide (outF ns op g ≤ k)) (rry.mono e11)
            have mg2 : ∀ g, g ∈ (op.filter fun g => decide (outF ns op g ≤ k)) ↔ goodG ns op k g := fun g => by rw [List.mem_filter, decide_eq_true_eq]; rfl
            have ngs : (op.filter fun g => decide (outF ns op g ≤ k)).Nodup := nod.filter _
            have lgs : (op.filter fun g => decide (outF ns op g ≤ k)).length ≤ 100 := Nat.le_trans (List.length_filter_le _ _) l100
            generalize (((rs.zip op).filter fun z => decide (outF ns op z.2 ≤ k)).map fun z => z.1) = zs at hG11 rg
            generalize (op.filter fun g => decide (outF ns op g ≤ k)) = gs at rg mg2 ngs lgs
            refine ⟨_, rfl, a, G, L, ns, gs, al, rfl, taby.mono e11, ok, ⟨_, hG11, rg⟩, ⟨_, e11 _ _ hLy, ray.mono e11⟩, ngs, by omega, lal, fun g hg => sg g ((mg2 g).mp hg).1, fun q hq => ((mal q).mp hq).1, fun fr H12 tss e12 nfr hfr mem => ?_⟩
            have mem2 : ∀ x, x ∈ tss ↔ Fo ns (goodG ns op k) (allowA ns op) x := fun x => (mem x).trans ⟨fun z => z.congr (fun g hg => (mg2 g).mp hg) fun q hq => (mal q).mp hq, fun z => z.congr (fun g hg => (mg2 g).mpr hg) fun q hq => (mal q).mpr hq⟩
            have E12 := ext e11 e12
            have hF12 : CntAt H12 F fs := E12 _ _ hFy
            dsimp only [gName]
            refine ⟨_, rfl, .inr (.inr (.inl ⟨rfl, .inr ⟨_, hF12⟩⟩)), ?_⟩
            refine ⟨_, rfl, L, rfl, ⟨_, SqL.of (E12 _ _ hLy)⟩, fun U hU => ?_⟩
            refine CD.dcT_it (walk_list (xs := ls)) (fun i Hz => Ex H12 Hz ∧ CntAt Hz U (atD k ((al.take i).filter fun q => decide (q ∈ tss)))) ⟨exn hU, upd_same⟩ (fun i Hz _ p => SqL.of (p.1 _ _ (E12 _ _ hLy))) ?_ ?_
            · rintro j x _ Hz hj ⟨ez, hc⟩ ⟨rfl, hx⟩
              obtain ⟨p, r, hp, rfl, hr2⟩ := (ray.mono E12).get hx
              have hn : p ∉ (al.take j).filter fun q => decide (q ∈ tss) := fun z => nodup_take nal hp (List.mem_filter.mp z).1
              refine ⟨rfl, _, rfl, _, rfl, fr, _, rfl, bool_get (show BoolAt Hz fr tss from ez _ _ hfr) (ez _ _ hr2), _, rfl, ?_⟩
              rw [take_more hp, List.filter_append]
              by_cases c : p ∈ tss
              · rw [if_pos c]
                refine itt rfl ⟨_, rfl, _, rfl, _, entK p, r, rfl, by rw [entK_kV]; exact ez _ _ hr2, hc, ?_, ex_upd ez hU, ?_⟩
                · rw [List.length_map, List.length_map]
                  exact Nat.lt_of_le_of_lt (Nat.le_trans (List.length_filter_le _ _) (show _ ≤ 300 by rw [List.length_take]; omega)) (by decide)
                · show upd _ _ _ _ = _
                  rw [upd_same, putK_new _ (by rw [val_ent, dep_none (by rw [keys_atD]; exact hn)]; rfl), show ([p].filter fun q => decide (q ∈ tss)) = [p] by simp [c], atD_snoc, List.map_append]
                  rfl
              · rw [if_neg c]
                refine itf rfl ⟨ez, ?_⟩
                rw [show ([p].filter fun q => decide (q ∈ tss)) = [] by simp [c], List.append_nil]
                exact hc
            rintro H13 ⟨e13, hU13⟩
            rw [List.take_of_length_le (by omega)] at hU13
            have mus : ∀ q, q ∈ (al.filter fun q => decide (q ∈ tss)) ↔ q ∈ al ∧ q ∈ tss := fun q => by rw [List.mem_filter, decide_eq_true_eq]
            have lus : (al.filter fun q => decide (q ∈ tss)).length ≤ 300 := Nat.le_trans (List.length_filter_le _ _) lal
            generalize (al.filter fun q => decide (q ∈ tss)) = us at hU13 mus lus
            have hF13 : CntAt H13 F fs := e13 _ _ hF12
            have lfs : fs.length ≤ 300 := by
              have : (keysL fs).length = fs.length := List.length_map _
              rw [kfs] at this
              omega
            have nFU : F ≠ U := ne_of_none hF12 hU
            refine ⟨F, U, _, _, rfl, rfl, nFU, hF13, hU13, (.inl fun z => ?_), ?_, ?_⟩
            · have : fs = [] := List.map_eq_nil_iff.mp z
              rw [this] at kfs
              have h0 := (mal p0).mpr ⟨sp0, np0⟩
              rw [← kfs] at h0
              cases h0
            · rw [List.length_map, List.length_map, List.length_map]
              exact Nat.le_trans (show _ ≤ 600 by omega) (by decide)
            rw [merge_over fun q hq => by rw [kfs]; exact ((mus q).mp hq).1]
            refine ⟨overD k us fs, _, _, rfl, fun c u n z => ?_, upd_same, by rw [over_keys, kfs], fun q hq v hv => ?_⟩
            · rw [upd_ne n]
              exact e13 _ _ (E12 _ _ (xbF c u n z))
            rw [over_dep] at hv
            obtain ⟨v0, hv0, hv1⟩ := Option.map_eq_some_iff.mp hv
            have ge : ∀ y ∈ outs.take i, (k : Int) ≤ y := fun y hy => by
              obtain ⟨j, hj⟩ := List.mem_iff_getElem?.mp hy
              have jl : j < i := by
                have := (List.getElem?_eq_some_iff.mp hj).1
                rw [List.length_take] at this
                omega
              rw [List.getElem?_take_of_lt jl] at hj
              obtain ⟨hj1, hj2⟩ := List.getElem?_eq_some_iff.mp hj
              obtain ⟨hi1, hi2⟩ := List.getElem?_eq_some_iff.mp hoc
              have := List.pairwise_iff_getElem.mp ord j i hj1 hi1 jl
              rw [hj2, hi2] at this
              exact this
            have spl : ∀ y, y ∈ outs.take (i + 1) → y ∈ outs.take i ∨ y = (k : Int) := fun y hy => by
              rw [take_more hoc] at hy
              exact (List.mem_append.mp hy).imp id List.mem_singleton.mp
            by_cases c : q ∈ us
            · rw [if_pos c] at hv1
              subst hv1
              obtain ⟨g, hg, eg⟩ := (mk k).mp hkk
              have hf := (mem2 q).mp ((mus q).mp c).2
              refine .inl ⟨g, hg, eg, hf, fun g2 _ h2 _ => ?_⟩
              rcases spl _ h2 with h2 | h2
              · have := ge _ h2
                omega
              · omega
            · rw [if_neg c] at hv1
              subst hv1
              have nf : ¬ Fo ns (goodG ns op k) (allowA ns op) q := fun z => c ((mus q).mpr ⟨hq, (mem2 q).mpr z⟩)
              rcases rel q hq v0 hv0 with ⟨g, hg, eg, hf, hh⟩ | ⟨e, hh⟩
              · refine .inl ⟨g, hg, eg, hf, fun g2 hg2 h2 hf2 => ?_⟩
                rcases spl _ h2 with h2 | h2
                · exact hh g2 hg2 h2 hf2
                · have : outF ns op g2 = k := by omega
                  rw [this] at hf2
                  exact absurd hf2 nf
              · refine .inr ⟨e, fun g2 hg2 h2 hf2 => ?_⟩
                rcases spl _ h2 with h2 | h2
                · exact hh g2 hg2 h2 hf2
                · have : outF ns op g2 = k := by omega
                  rw [this] at hf2
                  exact nf hf2
          · rintro σ Hy ⟨fs, y9, y10, rfl, xbF, hFy, kfs, rel⟩
            rw [show outs.take (outs.map V.int).length = outs from List.take_of_length_le (by rw [List.length_map]; exact Nat.le_refl _)] at rel
            have hF10 := E70 _ _ hF7
            have ndx10 := ndx.ext E10
            have nFd : d ≠ F := ne_of ndx10.1 hF10 (by unfold NDo; intro z; cases z)
            have xt : ∀ c ys, H10 c = some (.tup ys) → Hy c = some (.tup ys) := fun c ys z => xbF c _ (ne_of z hF10 (by intro z; cases z)) z
            have ndy : ND P w Hy d xs2 := ⟨xbF _ _ nFd ndx10.1, fun z hz => (ndx10.2 z hz).monoT xt⟩
            have koy : KeyAt Hy o op := ⟨rs, xt _ _ (E10 _ _ hrx), (rrx.mono E10).monoT xt⟩
            have lkn : lkN xs2 op = none := lkN_none.mpr fun z => by
              obtain ⟨x, hx, ex⟩ := List.mem_map.mp z
              rcases sbx x hx with hx | hx
              · exact lkN_none.mp hlk (List.mem_map.mpr ⟨x, hx, ex⟩)
              · rw [ex] at hx
                exact absurd hx.1 (Nat.lt_irrefl _)
            have fin : FinAt Hy F ns op := ⟨fs, hFy, fun q sq nq => by
              have hq : q ∈ al := (mal q).mpr ⟨sq, nq⟩
              have hs : (dep fs q).isSome = true := by rw [dep_isSome, kfs, decide_eq_true hq]
              obtain ⟨v, hv⟩ := Option.isSome_iff_exists.mp hs
              have mo : ∀ g2 ∈ op, (outF ns op g2 : Int) ∈ outs := fun g2 hg2 => perm.mem_iff.mpr (mk2 g2 hg2)
              rw [hv, fin_by nod (s := q) (v := v) ?_]
              rcases rel q hq v hv with ⟨g, hg, eg, hf, hh⟩ | ⟨e, hh⟩
              · exact .inl ⟨g, hg, eg, hf, fun g2 hg2 hf2 => hh g2 hg2 (mo g2 hg2) hf2⟩
              · exact .inr ⟨e, fun g2 hg2 hf2 => hh g2 hg2 (mo g2 hg2) hf2⟩⟩
            have bl : xs2.length + 1 ≤ xs.length + bndN op.length := by
              cases ho : op.length with
              | zero =>
                rw [ho] at lnx
                show _ ≤ _ + 1
                omega
              | succ m =>
                rw [ho] at lnx
                show _ ≤ _ + (1 + (m + 1) * bndN m)
                simp only [Nat.add_sub_cancel] at lnx
                omega
            refine ⟨_, rfl, _, rfl, _, rfl, d, o, F, xs2, op, rfl, rfl, rfl, ndy, koy, lkn, Nat.lt_of_le_of_lt (show _ ≤ 1000000 by omega) (by decide), ?_⟩
            generalize hGz : upd Hy d _ = Hz
            have hdz : Hz d = some (NDo P w d (xs2 ++ [(op, o, F)])) := by rw [← hGz]; exact upd_same
            have xz : ∀ c u, c ≠ d → Hy c = some u → Hz c = some u := fun c u n z => by
              rw [← hGz, upd_ne n]
              exact z
            have dtz : ∀ c ys, Hy c = some (.dT ys) → Hz c = some (.dT ys) := fun c ys z => xz c _ (ne_of z ndy.1 (by unfold NDo; intro z; cases z)) z
            have tpz : ∀ c ys, Hy c = some (.tup ys) → Hz c = some (.tup ys) := fun c ys z => xz c _ (ne_of z ndy.1 NDo_tup) z
            have hn2 : ∀ z ∈ xs2, z.2.2 ≠ F := fun z hz => by
              obtain ⟨fz, h1, _⟩ := knx z hz
              exact ne_of_none h1 hF
            refine ⟨_, rfl, k F Hz (xs2 ++ [(op, o, F)]) (fun c u n z => ?_) ⟨hdz, fun z hz => ?_⟩ (fun z hz => ?_) (fin.mono dtz) (by rw [List.length_append]; exact bl) fun z hz => ?_⟩
            · have h2 := E2 _ _ z
              have hx := xb c u n h2
              exact xz c u n (xbF c u (ne_of_none hx hF) (E10 _ _ hx))
            · rcases List.mem_append.mp hz with hz | hz
              · exact (ndy.2 z hz).monoT tpz
              · rw [List.mem_singleton.mp hz]
                exact koy.monoT tpz
            · rcases List.mem_append.mp hz with hz | hz
              · refine (knx z hz).mono fun c ys h => ?_
                by_cases cF : c = F
                · rw [cF, hF] at h
                  cases h
                · exact dtz _ _ (xbF _ _ cF (E10 _ _ h))
              · rw [List.mem_singleton.mp hz]
                exact fin.mono dtz
            · rcases List.mem_append.mp hz with hz | hz
              · rcases sbx z hz with hz | hz
                · exact .inl hz
                · exact .inr ⟨Nat.le_of_lt hz.1, hz.2.1⟩
              · rw [List.mem_singleton.mp hz]
                refine .inr ⟨Nat.le_refl _, Evl.fresh_back E2 (xb.back nFd.symm hF)⟩
end

section
variable {P : Program} {w : World} {K : PySem.W.Frag} {mg : Str → Option Value} {base : Heap}
def sp_final_counts (C : Addr) (P : Program) (w : World) : Sp := sp_finN C P w 10
theorem ok_final_counts (T : TX K mg) : FnOk P w K mg base CX0 14 T.f_final_counts T.fd_final_counts ["table", "open_seats", "known"] (sp_final_counts T.C_Table P w) := ok_finN T 10
def sp_max_more (C : Addr) : Sp := fun vs H Q _ => ∃ (a s : Addr) (q : Bool × Addr) (ns p : List Int) (tss : List (List Int)), vs = [.ref a, .ref q.2, .ref s] ∧ TabAt C H a ns ∧ SzOk ns ∧ prodL ns ≤ 9 ∧ RowsQ H q tss ∧ (∀ ts ∈ tss, SeatOk ns ts) ∧ tss.Nodup ∧ H s = some (.tup (p.map V.int)) ∧ SeatOk ns p ∧
  ∀ H2, Ex H H2 → Q (.int (((openL ns tss p).length : Int) - (finF ns (openL ns tss p) p : Nat))) H2
theorem ok_max_more (T : TX K mg) : FnOk P w K mg base CX0 15 T.f_max_more T.fd_max_more ["table", "visited", "seat"] (sp_max_more T.C_Table) := by
  refine T.F_max_more.ok sc_max_more (fun vs H Q E h => ?_) (fun cdv A outer s H vs Q E hr h => ?_)
  · obtain ⟨a, s, q, ns, p, tss, rfl, _⟩ := h
    rfl
  · obtain ⟨a, s, q, ns, p, tss, rfl, tab, ok, pr, hq, sks, nod, hs, sk, k⟩ := h
    refine ⟨_, (pss_cons (ps_expr (pe_call (ok_require_state T) (hr.mono (by decide)) rfl T.m_require_state T.F_require_state.kp T.b_require_state .nil pass0 (pa_cons (pv 0) (pa_cons (pv 1) (pa_cons (pv 2) pa_nil))))) (pss_cons (ps_if (pt_cmpR op_gt (pe_meth0 (pv 0) T.cl_Table T.me_Table_count (ok_Table_count T) (hr.mono (by decide)) T.b_Table_count .nil pass0) (pe_glob (v := .int 9) rfl T.c_MAX_SEARCHED ⟨_, rfl⟩) (nomark _)) pss_never pss_nil) (pss_cons (ps_set (i := 3) sc_max_more.nd rfl (Or.inl rfl) (pe_callTy call_tuple_of (by rfl) T.z_tuple (by decide +kernel) (pa_cons (pe_call (ok_unvisited_seats T) (hr.mono (by decide)) rfl T.m_unvisited_seats T.F_unvisited_seats.kp T.b_unvisited_seats .nil pass0 (pa_cons (pv 0) (pa_cons (pv 1) (pa_cons (pv 2) pa_nil)))) pa_nil))) (pss_one (ps_ret (pe_op op_sub (pe_callB call_len_seq (by rfl) T.z_len (by decide +kernel) (pa_cons (pv 3) pa_nil)) (pe_dget (hu_of hr) (pe_call (ok_final_counts T) hr rfl T.m_final_counts T.F_final_counts.kp T.b_final_counts .nil pass0 (pa_cons (pv 0) (pa_cons (pv 3) (pa_cons pe_nnew pa_nil)))) (pv 2) (fun _ _ => rfl)))))))), ?_⟩
    have pr3 : prodL ns ≤ 300 := Int.le_trans pr (by decide)
    have lt := seats_len ok pr3 nod sks
    refine ⟨_, rfl, _, rfl, _, rfl, a, s, q, ns, p, tss, rfl, tab, ok.le, hq, by omega, sks, nod, hs, sk, fun H1 e1 => ?_⟩
    have tab1 := tab.mono e1
    obtain ⟨dx, t, h1, h2⟩ := id tab1
    refine ⟨_, rfl, a, dx, _, rfl, h1, rfl, a, ns, rfl, tab1, ok, Int.le_trans pr (by decide), ?_⟩
    refine ⟨_, _, rfl, rfl, _, rfl, itf (decide_eq_false (by show ¬ (9 : Int) < prodL ns; omega)) ?_⟩
    dsimp only [tNext]
    refine ⟨_, rfl, _, rfl, _, rfl, a, s, q, ns, p, tss, rfl, tab1, ok, pr3, hq.mono e1, by omega, nod, e1 _ _ hs, fun D H2 e2 nD ⟨xs, hD, rr⟩ => ?_⟩
    have E2 := ext e1 e2
    have mo : ∀ o, o ∈ openL ns tss p ↔ SeatOk ns o ∧ o ∉ tss ∧ o ≠ p := fun o => mem_open
    have opn := openL_nodup ns tss p
    have lo : (openL ns tss p).length ≤ 8 := by
      have l1 := allS_len ok.one
      have l2 : (p :: openL ns tss p).length ≤ (allS ns).length := (List.nodup_cons.mpr ⟨fun z => ((mo p).mp z).2.2 rfl, opn⟩).length_le_of_subset fun o ho => by
        rcases List.mem_cons.mp ho with rfl | ho
        · exact mem_allS.mpr sk
        · exact mem_allS.mpr ((mo o).mp ho).1
      rw [List.length_cons] at l2
      omega
    have lx : xs.length = (openL ns tss p).length := Paired.length rr
    refine ⟨D, _, rfl, .inl ⟨SqL.of hD, ?_⟩⟩
    (intro o no; generalize hGo : upd _ o _ = H3; have eH3 := exG hGo no; have ho := atG hGo; clear hGo)
    have kho : KeyAt H3 o (openL ns tss p) := ⟨xs, ho, rr.mono eH3⟩
    have E3 := ext E2 eH3
    dsimp only [gName]
    refine ⟨_, rfl, o, xs, rfl, .inr (SqT.of ho), ?_⟩
    refine ⟨_, rfl, _, rfl, ?_⟩
    (intro d nd; generalize hGd : upd _ d _ = H4; have eH4 := exG hGd nd; have hd := atG hGd; clear hGd)
    have E4 := ext E3 eH4
    have nd4 : ND P w H4 d [] := ⟨hd, fun x hx => nomatch hx⟩
    have bb : bndN (openL ns tss p).length ≤ 200000 := by
      have : ∀ n, n ≤ 8 → bndN n ≤ 200000 := by decide
      exact this _ lo
    refine ⟨a, o, d, ns, openL ns tss p, [], rfl, tab.mono E4, ok, pr3, kho.mono eH4, opn, fun g hg => ((mo g).mp hg).1, ⟨p, sk, fun z => ((mo p).mp z).2.2 rfl⟩, by omega, by omega, nd4, (fun x hx => nomatch hx), by show 0 + _ ≤ _; omega, fun r H5 xs2 xb nd5 _ ⟨fs, hfs, hdep⟩ _ _ => ?_⟩
    have E5 : Ex H H5 := fun c u z => by
      have z3 := E3 c u z
      exact xb c u (ne_of_none z3 nd) (eH4 _ _ z3)
    have hget : DGet H5 r (.ref s) (some (V.int (finF ns (openL ns tss p) p : Nat))) := by
      have := cnt_get hfs (E5 _ _ hs)
      rw [hdep p sk fun z => ((mo p).mp z).2.2 rfl] at this
      exact this
    refine ⟨_, rfl, r, _, rfl, hget, _, _, rfl, rfl, ?_⟩
    have := k H5 E5
    rw [← lx] at this
    exact this
end

/-! ### displays of displays of ints -/
/-- the reading t makes these rows, all new -/
def RowsD (t : TA) (rows : List (List Int)) : Prop := ∀ (σ : L2.St) (H : Hp) (Q : List V → Hp → Prop), (∀ xs H2, Ex H H2 → LRows H2 xs rows → (∀ r, V.ref r ∈ xs → H r = none) → Q xs H2) → t σ H Q
theorem RowsD.nil : RowsD tNil [] := fun σ H Q k => k [] H exr .nil (fun r h => nomatch h)
theorem RowsD.cons {te : TE} {t : TA} {ks : List Int} {rows : List (List Int)} (h1 : ∀ (σ : L2.St) (H : Hp) (Q : VK), ((ks.map V.int).length ≤ sizeLine ∧ ∀ p, H p = none → Q (.ref p) (upd H p (.lst (ks.map V.int)))) → te σ H Q) (l : ks.length ≤ 1000) (ne : ks ≠ []) (h2 : RowsD t rows) : RowsD (tCons te t) (ks :: rows) := fun σ H Q k => by
  refine h1 σ H _ ⟨by rw [List.length_map]; exact Nat.le_trans l (by decide), fun p hp => h2 σ _ _ fun xs H2 e lr nr => k _ H2 (ext (exn hp) e) (.cons ⟨p, rfl, e _ _ upd_same, ne⟩ lr) fun r hr => ?_⟩
  rcases List.mem_cons.mp hr with h | h
  · cases h
    exact hp
  · exact Evl.fresh_back (exn hp) (nr r h)
theorem rows_lst {t : TA} {rows : List (List Int)} (h : RowsD t rows) (l : rows.length ≤ 1000) {σ : L2.St} {H : Hp} {Q : VK} (k : ∀ q xs H2, Ex H H2 → H q = none → H2 q = some (.lst xs) → LRows H2 xs rows → (∀ r, V.ref r ∈ xs → H r = none) → Q (.ref q) H2) : tLst t σ H Q :=
  h σ H _ fun xs H2 e lr nr => ⟨by rw [lr.len]; exact Nat.le_trans l (by decide), fun p hp => k p xs _ (ext e (exn hp)) (Evl.fresh_back e hp) upd_same (lr.mono (exn hp)) nr⟩
theorem LRows.app {H : Hp} {xs ys : List V} {r1 r2 : List (List Int)} (h1 : LRows H xs r1) (h2 : LRows H ys r2) : LRows H (xs ++ ys) (r1 ++ r2) := by
  unfold LRows at *
  induction h1 with
  | nil => exact h2
  | cons q _ ih => exact .cons q ih
theorem LRows.filt {H : Hp} (c : List Int → Bool) : ∀ {xs : List V} {rows : List (List Int)}, LRows H xs rows → LRows H (((xs.zip rows).filter fun z => c z.2).map fun z => z.1) (rows.filter c)
  | _, _, .nil => .nil
  | _, _, .cons (a := x) (b := hs) q t => by
    have ih := LRows.filt c t
    rw [List.zip_cons_cons]
    cases e : c hs with
    | false =>
      rw [List.filter_cons_of_neg (by simp [e]), List.filter_cons_of_neg (by simp [e])]
      exact ih
    | true =>
      rw [List.filter_cons_of_pos (by simp [e]), List.filter_cons_of_pos (by simp [e])]
      exact .cons q ih
theorem LRows.mem {H : Hp} : ∀ {xs : List V} {rows : List (List Int)} {v : V}, LRows H xs rows → v ∈ xs → ∃ r ks, v = V.ref r ∧ ks ∈ rows ∧ H r = some (.lst (ks.map V.int))
  | y :: ys, ts :: tss, v, .cons q t, h => by
    rcases List.mem_cons.mp h with rfl | h
    · obtain ⟨r, h1, h2, _⟩ := q
      exact ⟨r, ts, h1, List.mem_cons_self, h2⟩
    · obtain ⟨r, ts, h1, h2, h3⟩ := LRows.mem t h
      exact ⟨r, ts, h1, List.mem_cons_of_mem _ h2, h3⟩
theorem seq_asg {te : TE} {g : TG} {r : TS} {D : Ends} {σ : L2.St} {H : Hp} (h : te σ H fun x H1 => g x σ H1 (r D)) : tSeq (tAsg te g) r D σ H := h
theorem LRows.new {H0 H2 : Hp} {s : Addr} {o : HO} {xs : List V} (hs : H0 s = some o) (nr : ∀ r, V.ref r ∈ xs → H0 r = none) : V.ref s ∉ xs := fun h => by
  have := nr s h
  rw [hs] at this
  cases this

theorem paired_erase {α β : Type} {R : α → β → Prop} : ∀ {xs : List α} {ys : List β} (k : Nat), Paired R xs ys → Paired R (xs.eraseIdx k) (ys.eraseIdx k)
  | _, _, _, .nil => .nil
  | _, _, 0, .cons _ t => t
  | _, _, k + 1, .cons h t => .cons h (paired_erase k t)
theorem erase_perm {α : Type} : ∀ {l : List α} {k : Nat} (h : k < l.length), (l[k] :: l.eraseIdx k).Perm l
  | a :: l, 0, _ => .refl _
  | a :: l, k + 1, h => by
    have h2 : k < l.length := by simpa using h
    show ((l[k]) :: a :: l.eraseIdx k).Perm (a :: l)
    exact (List.Perm.swap a _ _).trans ((erase_perm h2).cons a)
theorem seqIx {r : Int} {n : Nat} (h0 : 0 ≤ r) (h1 : r < n) (hn : n < 2 ^ 62) : seqIndex? r n = some r.toNat := by
  unfold seqIndex?
  rw [if_neg (show ¬ r < 0 by omega)]
  dsimp only
  rw [if_pos (by rw [Bool.and_eq_true, decide_eq_true_iff, decide_eq_true_iff]; omega)]

/-- of items that are data, whatever is drawn -/
def DataIn (K : PySem.W.Frag) (s : Addr) (H : Hp) (xs : List V) : Prop := ∀ H2, XB s H H2 → ∀ ys : List V, (∀ y ∈ ys, y ∈ xs) → ∃ ds, DpAll K H2 ys ds ∧ ∀ d ∈ ds, Sh 59 d
theorem DataIn.ints {K : PySem.W.Frag} {s : Addr} {H : Hp} (is : List Int) : DataIn K s H (is.map V.int) := fun H2 _ ys => by
  induction ys with
  | nil => exact fun _ => ⟨[], .nil, fun d hd => nomatch hd⟩
  | cons y ys ih =>
    intro h
    obtain ⟨ds, h1, h2⟩ := ih fun z hz => h z (List.mem_cons_of_mem _ hz)
    obtain ⟨i, _, e⟩ := List.mem_map.mp (h y List.mem_cons_self)
    subst e
    exact ⟨.int i :: ds, .cons (.int i) h1, fun d hd => by
      rcases List.mem_cons.mp hd with rfl | hd
      · exact sh_int _
      · exact h2 d hd⟩
theorem DataIn.rows {K : PySem.W.Frag} {s : Addr} {H : Hp} {xs : List V} {tss : List (List Int)} (src : Src H s) (rr : RowsR H xs tss) : DataIn K s H xs := fun H2 xb ys => by
  induction ys with
  | nil => exact fun _ => ⟨[], .nil, fun d hd => nomatch hd⟩
  | cons y ys ih =>
    intro h
    obtain ⟨ds, h1, h2⟩ := ih fun z hz => h z (List.mem_cons_of_mem _ hz)
    obtain ⟨i, hi⟩ := List.mem_iff_getElem?.mp (h y List.mem_cons_self)
    obtain ⟨p, r, hp, e, hr⟩ := rr.get hi
    subst e
    exact ⟨iT p :: ds, .cons (dp_ints (tup_xb src hr xb)) h1, fun d hd => by
      rcases List.mem_cons.mp hd with rfl | hd
      · exact sh_ints _
      · exact h2 d hd⟩
theorem DataIn.ne {K : PySem.W.Frag} {H : Hp} {ys : List V} {ds : List PyData} (h : DpAll K H ys ds) : (!PyData.eqv (.list ds) (.list [])) = decide (ys ≠ []) := by
  cases h with
  | nil => simp [PyData.eqv, PyData.eqvAll]
  | cons _ _ => simp [PyData.eqv, PyData.eqvAll]
section
variable {P : Program} {w : World} {K : PySem.W.Frag} {mg : Str → Option Value} {base : Heap}
def sp_law_choice : Sp := fun vs H Q _ => ∃ (s l : Addr) (xs : List V), vs = [.ref s, .ref l] ∧ Src H s ∧ H l = some (.lst xs) ∧ l ≠ s ∧ xs ≠ [] ∧ xs.length ≤ 1000 ∧ ∀ (v : V) H2, v ∈ xs → XB s H H2 → Src H2 s → Q v H2
theorem ok_law_choice (T : TX K mg) : FnOk P w K mg base CX0 3 T.f_law_choice T.fd_law_choice ["_law_source_here", "_law_options"] sp_law_choice := by
  refine T.F_law_choice.ok sc_law_choice (fun vs H Q E h => ?_) (fun cdv A outer s H vs Q E hr h => ?_)
  · obtain ⟨s, l, xs, rfl, _⟩ := h
    rfl
  · obtain ⟨s, l, xs, rfl, hs, hl, nl, ne, lx, k⟩ := h
    refine ⟨_, (pss_one (ps_ret (pe_ix ix_list (pv 1) (pe_call (ok_law_draw T) hr rfl T.m_law_draw T.F_law_draw.kp T.b_law_draw .nil pass0 (pa_cons (pv 0) (pa_cons (pe_callB call_len_seq (by rfl) T.z_len (by decide +kernel) (pa_cons (pv 1) pa_nil)) pa_nil))) (fun _ _ => rfl)))), ?_⟩
    have pos := List.length_pos_iff.mpr ne
    refine ⟨_, rfl, _, rfl, _, rfl, l, _, rfl, .inl (SqL.of hl), s, _, rfl, hs, (by omega), ?_, fun r H2 r0 r1 xb src => ?_⟩
    · rw [Int.natAbs_natCast]
      exact Nat.lt_of_le_of_lt lx (by decide +kernel)
    obtain ⟨v, hv, hm⟩ := atI_nat r0 r1
    exact ⟨l, _, _, _, rfl, rfl, SqL.of (xb _ _ nl hl), hv, k v _ hm xb src⟩
def sp_law_shuffle (K : PySem.W.Frag) : Sp := fun vs H Q _ => ∃ (s l : Addr) (xs : List V), vs = [.ref s, .ref l] ∧ Src H s ∧ H l = some (.lst xs) ∧ l ≠ s ∧ xs.length ≤ 1000 ∧ DataIn K s H xs ∧
  ∀ (q : Addr) (ys : List V) H2, H q = none → H2 q = some (.lst ys) → ys.Perm xs → XB s H H2 → Src H2 s → Q (.ref q) H2
theorem ok_law_shuffle (T : TX K mg) : FnOk P w K mg base CX0 3 T.f_law_shuffle T.fd_law_shuffle ["_law_source_here", "_law_options"] (sp_law_shuffle K) := by
  refine T.F_law_shuffle.ok sc_law_shuffle (fun vs H Q E h => ?_) (fun cdv A outer s H vs Q E hr h => ?_)
  · obtain ⟨s, l, is, rfl, _⟩ := h
    rfl
  · obtain ⟨s, l, xs, rfl, hs, hl, nls, ll, hdt, k⟩ := h
    refine ⟨_, (pss_cons (ps_set (i := 2) sc_law_shuffle.nd rfl (Or.inl rfl) (pe_callTy call_list_of (by rfl) T.z_list (by decide +kernel) (pa_cons (pv 1) pa_nil))) (pss_cons (ps_set (i := 3) sc_law_shuffle.nd rfl (Or.inl rfl) (pe_lst pa_nil)) (pss_cons (ps_while PassesOwn.never (pt_cmpR (r := rNeD K) (op_neD hr.units) (pv 2) (pe_lst pa_nil) (nomark _)) (pss_one (ps_expr (pe_bm PySem.F.plainAttrs_list PySem.F.slot_list_append PySem.F.type_list_append mt_append (pv 3) (pa_cons (pe_bm PySem.F.plainAttrs_list PySem.F.slot_list_pop PySem.F.type_list_pop mt_popAt (pv 2) (pa_cons (pe_call (ok_law_draw T) hr rfl T.m_law_draw T.F_law_draw.kp T.b_law_draw .nil pass0 (pa_cons (pv 0) (pa_cons (pe_callB call_len_seq (by rfl) T.z_len (by decide +kernel) (pa_cons (pv 2) pa_nil)) pa_nil))) pa_nil)) pa_nil))))) (pss_one (ps_ret (pv 3)))))), ?_⟩
    refine ⟨_, rfl, l, xs, rfl, .inl (SqL.of hl), fun pl hpl => ?_⟩
    generalize hG : upd H pl _ = H1
    have e1 := exG hG hpl
    have hp1 := atG hG
    clear hG
    dsimp only [gName]
    refine ⟨slen rfl, ?_⟩
    (intro f nf; generalize hGf : upd _ f _ = H2; have eH2 := exG hGf nf; have hf := atG hGf; clear hGf)
    have nf0 : H f = none := Evl.fresh_back e1 nf
    have E2 := ext e1 eH2
    have nfs : f ≠ s := hs.ne nf0
    have nps : pl ≠ s := hs.ne hpl
    have npf : pl ≠ f := ne_of_none hp1 nf
    dsimp only [gName]
    refine ⟨fun m σ Hx => ∃ ys fs : List V, σ = [some (.ref s), some (.ref l), some (.ref pl), some (.ref f)] ∧ Hx pl = some (.lst ys) ∧ Hx f = some (.lst fs) ∧ (ys ++ fs).Perm xs ∧ XB s H Hx ∧ Src Hx s ∧ m = ys.length,
      ⟨_, xs, [], rfl, eH2 _ _ hp1, hf, by rw [List.append_nil], XB.of E2, hs.mono E2, rfl⟩, ?_⟩
    rintro m σ Hx ⟨ys, fs, rfl, hpx, hfx, pm, xbx, srcx, rfl⟩
    have lall : ys.length + fs.length = xs.length := by
      rw [← List.length_append]
      exact pm.length_eq
    refine ⟨_, rfl, slen rfl, ?_⟩
    (intro el nel; generalize hGel : upd _ el _ = H3; have eH3 := exG hGel nel; have hel := atG hGel; clear hGel)
    have xb3 := xbx.trans (XB.of eH3)
    obtain ⟨ds, hd1, hd2⟩ := hdt H3 xb3 ys fun y hy => pm.mem_iff.mp (List.mem_append_left _ hy)
    refine ⟨.list ds, .list [], .lst (SqL.of (eH3 _ _ hpx)) hd1, .lst (SqL.of hel) .nil, (sh_list hd2).ok, (sh_list (n := 59) (ds := []) (fun d hd => nomatch hd)).ok, _, rfl, ?_⟩
    rw [DataIn.ne hd1]
    by_cases c : ys = []
    · subst c
      exact itf (by simp) ⟨_, rfl, k f fs _ nf0 (eH3 _ _ hfx) pm xb3 (srcx.mono eH3)⟩
    refine itt (decide_eq_true c) ⟨_, fun _ _ h => h, ?_⟩
    have apos := List.length_pos_iff.mpr c
    have hf3 := eH3 _ _ hfx
    have hp3 := eH3 _ _ hpx
    have src3 := srcx.mono eH3
    refine ⟨_, rfl, .inl ⟨rfl, _, SqL.of hf3⟩, _, rfl, .inl ⟨rfl, _, SqL.of hp3⟩, _, rfl, _, rfl, pl, ys, rfl, .inl (SqL.of hp3), s, (ys.length : Int), rfl, src3, by omega, Nat.lt_of_le_of_lt (show _ ≤ 1000 by omega) (by decide +kernel), fun r2 H4 r20 r21 xb4 src4 => ?_⟩
    have hp4 := xb4 _ _ nps hp3
    have hf4 := xb4 _ _ nfs hf3
    have ily : r2.toNat < ys.length := by omega
    refine ⟨pl, ys, r2, r2.toNat, ys[r2.toNat], rfl, rfl, hp4, by omega, by omega, seqIx r20 r21 (Nat.lt_of_le_of_lt (show ys.length ≤ 1000 by omega) (by decide)), List.getElem?_eq_getElem ily, ?_⟩
    have hf5 : upd H4 pl (.lst (ys.eraseIdx r2.toNat)) f = some (.lst fs) := by
      rw [upd_ne (Ne.symm npf)]
      exact hf4
    refine ⟨f, _, _, rfl, rfl, hf5, ?_, ?_⟩
    · exact Nat.lt_of_le_of_lt (show fs.length ≤ 1000 by omega) (by decide)
    refine ⟨(ys.eraseIdx r2.toNat).length, by rw [List.length_eraseIdx_of_lt ily]; omega, ys.eraseIdx r2.toNat, fs ++ [ys[r2.toNat]], rfl, ?_, upd_same, ?_, ((xb3.trans xb4).app hpl).app nf0, (src4.app nps).app nfs, rfl⟩
    · rw [upd_ne npf, upd_same]
    · refine List.Perm.trans ?_ pm
      rw [← List.append_assoc]
      refine List.Perm.trans (List.perm_append_comm) ?_
      show ((ys[r2.toNat] :: ys.eraseIdx r2.toNat) ++ fs).Perm _
      exact (erase_perm ily).append_right fs
def sp_law_spots : Sp := fun vs H Q _ => ∃ (l : Addr) (ns : List Int), vs = [.ref l] ∧ H l = some (.lst (ns.map V.int)) ∧ SzOk ns ∧ prodL ns ≤ 300 ∧ ∀ q H2, Ex H H2 → H q = none → RowsAt H2 q (allS ns) → Q (.ref q) H2
theorem ok_law_spots (T : TX K mg) : FnOk P w K mg base CX0 1 T.f_law_spots T.fd_law_spots ["_law_dims_here"] sp_law_spots := by
  refine T.F_law_spots.ok sc_law_spots (fun vs H Q E h => ?_) (fun cdv A outer s H vs Q E hr h => ?_)
  · obtain ⟨l, ns, rfl, _⟩ := h
    rfl
  · obtain ⟨l, ns, rfl, hl, ok, pr, k⟩ := h
    have l4 := ok.le
    refine ⟨_, (pss_cons (ps_set (i := 1) sc_law_spots.nd rfl (Or.inl rfl) (pe_lst (pa_cons (pe_tup pa_nil) pa_nil))) (pss_cons (ps_for PassesOwn.never rfl (pi_list (pv 0)) (pg_name (i := 2) sc_law_spots.nd rfl (Or.inl rfl)) (pss_cons (ps_set (i := 3) sc_law_spots.nd rfl (Or.inl rfl) (pe_lst pa_nil)) (pss_cons (ps_for PassesOwn.never rfl (pi_list (pv 1)) (pg_name (i := 4) sc_law_spots.nd rfl (Or.inr rfl)) (pss_one (ps_expr (pe_bm PySem.F.plainAttrs_list PySem.F.slot_list_extend PySem.F.type_list_extend mt_extend (pv 3) (pa_cons (pe_lc (own := [("_law_place", 5)]) (g := (gName 5)) rfl sc_law_spots.nd (pi_range1 rfl T.z_range (pa_cons (pv 2) pa_nil)) (blkOk_by (N := N_law_spots) (sc := defScope s_law_spots) (by decide +kernel)) (fun _ _ _ _ _ => (pg_name (i := 5) sc_law_spots.nd rfl (Or.inl rfl))) (fun _ _ _ _ _ => pts_nil) (fun _ _ _ _ _ => (pe_op (r := rCatA K) op_catA (pv 4) (pe_tup (pa_cons (pv 5) pa_nil))))) pa_nil))))) (pss_one (ps_set (i := 1) sc_law_spots.nd rfl (Or.inl rfl) (pv 3)))))) (pss_one (ps_ret (pv 1))))), ?_⟩
    refine ⟨by show 0 ≤ sizeLine; decide, fun u hu => ⟨by show 1 ≤ sizeLine; decide, fun f hf => ?_⟩⟩
    have e2 : Ex H (upd (upd H u (.tup [])) f (.lst [.ref u])) := ext (exn hu) (exn hf)
    have f0 : H f = none := Evl.fresh_back (exn hu) hf
    refine ⟨_, rfl, l, rfl, ⟨_, SqL.of (e2 _ _ hl)⟩, ?_⟩
    refine for_it (walk_list (xs := ns.map V.int)) (fun i σ H2 => ∃ (f : Addr) (y2 y3 y4 y5 : Option V), σ = [some (.ref l), some (.ref f), y2, y3, y4, y5] ∧ Ex H H2 ∧ H f = none ∧ RowsAt H2 f (allS (ns.take i))) ⟨_, _, _, _, _, rfl, e2, f0, _, upd_same, .cons ⟨u, rfl, by rw [upd_ne (ne_of_none upd_same hf)]; exact upd_same⟩ .nil⟩ (fun i σ H2 _ ⟨_, _, _, _, _, _, e, _⟩ => SqL.of (e _ _ hl)) ?_ ?_
    · rintro i x σ _ H2 hi ⟨f, y2, y3, y4, y5, rfl, e3, f0, ra⟩ ⟨rfl, hx⟩
      obtain ⟨n, hn, rfl⟩ := map_get hx
      have n1 := ok.one n (List.mem_of_getElem? hn)
      have nb := mul_le_prod ok.one hn
      have ezs := take_more hn
      have o1 : ∀ m ∈ ns.take i, 1 ≤ m := fun m hm => ok.one m (List.mem_of_mem_take hm)
      have len : ((allS (ns.take i)).length : Int) ≤ 300 := by
        rw [allS_len o1]
        exact Int.le_trans (prodL_take i ok.one) pr
      have rows : ∀ hs ∈ allS (ns.take i), hs.length ≤ 4 := fun hs hh => by
        rw [rows_allS hs hh, List.length_take]
        omega
      refine ⟨by show 0 ≤ sizeLine; decide, fun L hL => ?_⟩
      obtain ⟨xs, ra5, rr⟩ := id ra
      generalize hh : allS (ns.take i) = hss at rr len rows
      have e4 := exn (o := .lst []) hL
      refine ⟨_, rfl, f, rfl, ⟨_, SqL.of (e4 _ _ ra5)⟩, ?_⟩
      refine for_it (walk_list (xs := xs)) (fun j σ H3 => ∃ y4 y5 : Option V, σ = [some (.ref l), some (.ref f), some (.int n), some (.ref L), y4, y5] ∧ Ex H2 H3 ∧ RowsAt H3 L (crossS (hss.take j) n)) ⟨_, _, rfl, e4, _, upd_same, .nil⟩ (fun j σ H3 _ ⟨_, _, _, e, _⟩ => SqL.of (e _ _ ra5)) ?_ ?_
      · rintro j x σ _ H3 hj ⟨y4, y5, rfl, e5, rb⟩ ⟨rfl, hx⟩
        obtain ⟨hs, r, hhs, rfl, hr4⟩ := rr.get hx
        obtain ⟨ys, hy1, hy2⟩ := id rb
        have hsl := rows hs (List.mem_of_getElem? hhs)
        refine ⟨_, rfl, .inl ⟨rfl, _, SqL.of hy1⟩, _, rfl, n, rfl, by omega, by omega, fun D hD => ?_⟩
        refine lc_rows walk_range hs ((List.range n.toNat).map fun (i : Nat) => (i : Int)) (by simp) (by omega) hD (fun _ _ => True.intro) ?_ gmono_name ?_
        · rintro m x _ H5 R hm e6 ⟨rfl, hx⟩ kk
          obtain rfl : x = .int (m : Int) := hx.trans (congrArg V.int (Int.zero_add _))
          refine ⟨rfl, _, rfl, _, rfl, by show 1 ≤ sizeLine; decide, fun v hv => ?_⟩
          have hm2 : m < n.toNat := hm
          refine cat_row (exn hv _ _ (e6 _ _ (e5 _ _ hr4))) upd_same (by omega) fun z H6 e7 hz => kk _ z H6 (ext (exn hv) e7) ?_ hz
          rw [List.getElem?_map, List.getElem?_range hm2]
          rfl
        · intro H4 e6 rc
          have neL : L ≠ D := ne_of_none hy1 hD
          obtain ⟨as, bs, g1, g2, g3, g4, g5⟩ := rows_ext (rb.mono e6) rc neL
          refine ⟨L, D, as, bs, rfl, rfl, g1, g2, ?_, ?_⟩
          · simp only [g3, g4, crossS_len, List.length_map, List.length_range, List.length_take]
            have : min j hss.length * n.toNat ≤ 300 * 300 := Nat.mul_le_mul (by omega) (by omega)
            exact Nat.le_trans (show _ ≤ 90300 by omega) (by decide)
          · refine ⟨_, _, rfl, ex_upd (ext e5 e6) hL, ?_⟩
            rw [take_more hhs, crossS_snoc]
            rw [List.map_map] at g5
            exact g5
      · rintro σ H3 ⟨y4, y5, rfl, e5, rb⟩
        rw [rr.len, List.take_length] at rb
        rw [ezs, allS_snoc, hh]
        exact ⟨_, rfl, L, _, _, _, _, rfl, ext e3 e5, Evl.fresh_back e3 hL, rb⟩
    · rintro σ H2 ⟨f, y2, y3, y4, y5, rfl, e3, f0, ra⟩
      rw [List.length_map, List.take_length] at ra
      exact ⟨_, rfl, k f _ e3 f0 ra⟩
end

section
variable {P : Program} {w : World} {K : PySem.W.Frag} {mg : Str → Option Value} {base : Heap}
def sp_law_total : Sp := fun vs H Q _ => ∃ (l : Addr) (ns : List Int), vs = [.ref l] ∧ H l = some (.lst (ns.map V.int)) ∧ (∀ n ∈ ns, 1 ≤ n) ∧ prodL ns ≤ 10 ^ 9 ∧ Q (.int (prodL ns)) H
theorem ok_law_total (T : TX K mg) : FnOk P w K mg base CX0 1 T.f_law_total T.fd_law_total ["_law_dims_here"] sp_law_total := by
  refine T.F_law_total.ok sc_law_total (fun vs H Q E h => ?_) (fun cdv A outer s H vs Q E hr h => ?_)
  · obtain ⟨l, ns, rfl, _⟩ := h
    rfl
  · obtain ⟨l, ns, rfl, hl, one, hB, k⟩ := h
    refine ⟨_, (pss_cons (ps_set (i := 1) sc_law_total.nd rfl (Or.inl rfl) pe_int) (pss_cons (ps_for PassesOwn.never rfl (pi_list (pv 0)) (pg_name (i := 2) sc_law_total.nd rfl (Or.inl rfl)) (pss_one (ps_set (i := 1) sc_law_total.nd rfl (Or.inl rfl) (pe_op op_mulI (pv 1) (pv 2))))) (pss_one (ps_ret (pv 1))))), ?_⟩
    refine ⟨_, rfl, l, rfl, ⟨_, SqL.of hl⟩, ?_⟩
    refine for_it (walk_list (xs := ns.map V.int)) (fun i σ H2 => ∃ y : Option V, σ = [some (.ref l), some (.int (prodL (ns.take i))), y] ∧ H2 = H) ⟨none, rfl, rfl⟩ (fun i σ H2 _ ⟨_, _, e⟩ => by rw [e]; exact SqL.of hl) ?_ ?_
    · rintro i x σ H2 H3 hi ⟨y, rfl, rfl⟩ ⟨rfl, hx⟩
      obtain ⟨n, hn, rfl⟩ := map_get hx
      have b1 : 1 ≤ prodL (ns.take i) := prodL_pos fun m hm => one m (List.mem_of_mem_take hm)
      have b2 : prodL (ns.take i) ≤ 10 ^ 9 := Int.le_trans (prodL_take i one) hB
      refine ⟨_, rfl, _, rfl, _, _, rfl, rfl, mul_ok (.inl ⟨by omega, by omega⟩), some (.int n), ?_, rfl⟩
      rw [take_more hn, prodS_snoc]
      rfl
    · rintro σ H2 ⟨y, rfl, rfl⟩
      rw [List.length_map, List.take_length]
      exact ⟨_, rfl, k⟩
def dims1 : List (List Int) := [[1], [2], [3], [4], [5], [6], [7], [8], [9], [2, 2], [3, 2], [2, 3], [1, 5], [2, 4], [3, 3], [10], [12]]
def dims2 : List (List Int) := [[3, 4], [2, 2, 3], [15], [16], [3, 5], [2, 8], [6, 3], [20], [21], [4, 5], [25], [5, 5], [27]]
def dims3 : List (List Int) := [[3, 3, 3], [28], [6, 6], [45], [3, 15], [2, 3, 5], [7, 3], [3, 2, 1, 4]]
def dimsL : List (List Int) := ((dims1 ++ dims2) ++ [[9, 3]]) ++ dims3
theorem dims_ok : ∀ ns ∈ dimsL, (ns ≠ [] ∧ ns.length ≤ 4 ∧ (∀ n ∈ ns, 1 ≤ n) ∧ prodL ns ≤ 10 ^ 9) := by decide +kernel
def sp_law_dims : Sp := fun vs H Q _ => ∃ (s : Addr) (b : Int), vs = [.ref s, .int b] ∧ Src H s ∧ 1 ≤ b ∧ ∀ (q : Addr) (ns : List Int) H2, H q = none → H2 q = some (.lst (ns.map V.int)) → SzOk ns → prodL ns ≤ b → XB s H H2 → Src H2 s → Q (.ref q) H2
theorem ok_law_dims (T : TX K mg) : FnOk P w K mg base CX0 4 T.f_law_dims T.fd_law_dims ["_law_source_here", "_law_bound"] sp_law_dims := by
  refine T.F_law_dims.ok sc_law_dims (fun vs H Q E h => ?_) (fun cdv A outer s H vs Q E hr h => ?_)
  · obtain ⟨s, b, rfl, _⟩ := h
    rfl
  · obtain ⟨s, b, rfl, hs, b1, k⟩ := h
    refine ⟨_, (pss_cons (ps_set (i := 2) sc_law_dims.nd rfl (Or.inl rfl) (pe_lst (pa_cons (pe_lst (pa_cons pe_int pa_nil)) (pa_cons (pe_lst (pa_cons pe_int pa_nil)) (pa_cons (pe_lst (pa_cons pe_int pa_nil)) (pa_cons (pe_lst (pa_cons pe_int pa_nil)) (pa_cons (pe_lst (pa_cons pe_int pa_nil)) (pa_cons (pe_lst (pa_cons pe_int pa_nil)) (pa_cons (pe_lst (pa_cons pe_int pa_nil)) (pa_cons (pe_lst (pa_cons pe_int pa_nil)) (pa_cons (pe_lst (pa_cons pe_int pa_nil)) (pa_cons (pe_lst (pa_cons pe_int (pa_cons pe_int pa_nil))) (pa_cons (pe_lst (pa_cons pe_int (pa_cons pe_int pa_nil))) (pa_cons (pe_lst (pa_cons pe_int (pa_cons pe_int pa_nil))) (pa_cons (pe_lst (pa_cons pe_int (pa_cons pe_int pa_nil))) (pa_cons (pe_lst (pa_cons pe_int (pa_cons pe_int pa_nil))) (pa_cons (pe_lst (pa_cons pe_int (pa_cons pe_int pa_nil))) (pa_cons (pe_lst (pa_cons pe_int pa_nil)) (pa_cons (pe_lst (pa_cons pe_int pa_nil)) pa_nil))))))))))))))))))) (pss_cons (ps_set (i := 2) sc_law_dims.nd rfl (Or.inl rfl) (pe_op (r := rCatR K) op_catR (pv 2) (pe_lst (pa_cons (pe_lst (pa_cons pe_int (pa_cons pe_int pa_nil))) (pa_cons (pe_lst (pa_cons pe_int (pa_cons pe_int (pa_cons pe_int pa_nil)))) (pa_cons (pe_lst (pa_cons pe_int pa_nil)) (pa_cons (pe_lst (pa_cons pe_int pa_nil)) (pa_cons (pe_lst (pa_cons pe_int (pa_cons pe_int pa_nil))) (pa_cons (pe_lst (pa_cons pe_int (pa_cons pe_int pa_nil))) (pa_cons (pe_lst (pa_cons pe_int (pa_cons pe_int pa_nil))) (pa_cons (pe_lst (pa_cons pe_int pa_nil)) (pa_cons (pe_lst (pa_cons pe_int pa_nil)) (pa_cons (pe_lst (pa_cons pe_int (pa_cons pe_int pa_nil))) (pa_cons (pe_lst (pa_cons pe_int pa_nil)) (pa_cons (pe_lst (pa_cons pe_int (pa_cons pe_int pa_nil))) (pa_cons (pe_lst (pa_cons pe_int pa_nil)) pa_nil)))))))))))))))) (pss_cons (ps_expr (pe_bm PySem.F.plainAttrs_list PySem.F.slot_list_append PySem.F.type_list_append mt_append (pv 2) (pa_cons (pe_lst (pa_cons pe_int (pa_cons pe_int pa_nil))) pa_nil))) (pss_cons (ps_set (i := 2) sc_law_dims.nd rfl (Or.inl rfl) (pe_op (r := rCatR K) op_catR (pv 2) (pe_lst (pa_cons (pe_lst (pa_cons pe_int (pa_cons pe_int (pa_cons pe_int pa_nil)))) (pa_cons (pe_lst (pa_cons pe_int pa_nil)) (pa_cons (pe_lst (pa_cons pe_int (pa_cons pe_int pa_nil))) (pa_cons (pe_lst (pa_cons pe_int pa_nil)) (pa_cons (pe_lst (pa_cons pe_int (pa_cons pe_int pa_nil))) (pa_cons (pe_lst (pa_cons pe_int (pa_cons pe_int (pa_cons pe_int pa_nil)))) (pa_cons (pe_lst (pa_cons pe_int (pa_cons pe_int pa_nil))) (pa_cons (pe_lst (pa_cons pe_int (pa_cons pe_int (pa_cons pe_int (pa_cons pe_int pa_nil))))) pa_nil))))))))))) (pss_one (ps_ret (pe_call (ok_law_choice T) hr rfl T.m_law_choice T.F_law_choice.kp T.b_law_choice .nil pass0 (pa_cons (pv 0) (pa_cons (pe_lc (own := [("_law_dims_here", 3)]) (g := (gName 3)) rfl sc_law_dims.nd (pi_list (pv 2)) (blkOk_by (N := N_law_dims) (sc := defScope s_law_dims) (by decide +kernel)) (fun _ _ _ _ _ => (pg_name (i := 3) sc_law_dims.nd rfl (Or.inl rfl))) (fun _ _ _ _ _ => (pts_one (pt_cmpR op_le (pe_call (ok_law_total T) (hr.mono (by decide)) rfl T.m_law_total T.F_law_total.kp T.b_law_total .nil pass0 (pa_cons (pv 3) pa_nil)) (pv 1) (nomark _)))) (fun _ _ _ _ _ => (pv 3))) pa_nil))))))))), ?_⟩
    refine seq_asg ?_
    refine rows_lst (rows := dims1) ?_ (by decide) fun q1 xs1 H1 e1 nq1 hq1 lr1 nr1 => ?_
    · unfold dims1
      repeat (first | exact RowsD.nil | refine RowsD.cons (fun _ _ _ h => h) (by decide) (by simp) ?_)
    dsimp only [gName]
    refine ⟨_, rfl, ?_⟩
    show tLst _ _ _ _
    refine rows_lst (rows := dims2) ?_ (by decide) fun q2 xs2 H2 e2 nq2 hq2 lr2 nr2 => ?_
    · unfold dims2
      repeat (first | exact RowsD.nil | refine RowsD.cons (fun _ _ _ h => h) (by decide) (by simp) ?_)
    refine ⟨q1, q2, xs1, xs2, rfl, rfl, SqL.of (e2 _ _ hq1), SqL.of hq2, ?_, ?_⟩
    · rw [lr1.len, lr2.len]
      exact slen (by decide)
    (intro q3 nq3; generalize hGq3 : upd _ q3 _ = H3; have eH3 := exG hGq3 nq3; have hq3 := atG hGq3; clear hGq3)
    have lr3 := LRows.app (lr1.mono (ext e2 eH3)) (lr2.mono eH3)
    have nr3 : ∀ r, V.ref r ∈ xs1 ++ xs2 → H r = none := fun r hr => by
      rcases List.mem_append.mp hr with h | h
      · exact nr1 r h
      · exact Evl.fresh_back e1 (nr2 r h)
    have E3 : Ex H H3 := ext e1 (ext e2 eH3)
    have nq30 : H q3 = none := Evl.fresh_back (ext e1 e2) nq3
    generalize xs1 ++ xs2 = ys at *
    refine ⟨_, rfl, .inl ⟨rfl, _, SqL.of hq3⟩, slen rfl, ?_⟩
    (intro u nu; generalize hGu : upd _ u _ = H4; have eH4 := exG hGu nu; have hu := atG hGu; clear hGu)
    have ly : ys.length = 30 := by rw [lr3.len]; rfl
    have hq4 := eH4 _ _ hq3
    refine ⟨q3, _, _, rfl, rfl, hq4, by rw [ly]; decide, ?_⟩
    have lr4 := lr3.mono eH4
    have hu9 : H4 u = some (.lst (([9, 3] : List Int).map V.int)) := hu
    have lr5 : LRows (upd H4 q3 (.lst (ys ++ [.ref u]))) (ys ++ [.ref u]) ((dims1 ++ dims2) ++ [[9, 3]]) := LRows.snoc (by rw [upd_ne (LRows.ne hq4 lr4 hu9 (by simp))]; exact hu9) (by simp) (lr4.upd hq4 lr4)
    have hq5 : upd H4 q3 (.lst (ys ++ [.ref u])) q3 = some (.lst (ys ++ [.ref u])) := upd_same
    have E5 : Ex H (upd H4 q3 (.lst (ys ++ [.ref u]))) := ex_upd (ext E3 eH4) nq30
    have nr5 : ∀ r, V.ref r ∈ ys ++ [.ref u] → H r = none := fun r hr => by
      rcases List.mem_append.mp hr with h | h
      · exact nr3 r h
      · cases List.mem_singleton.mp h
        exact Evl.fresh_back E3 nu
    have ly5 : (ys ++ [V.ref u]).length = 31 := by rw [List.length_append, ly]; rfl
    generalize upd H4 q3 (.lst (ys ++ [.ref u])) = H5 at *
    generalize ys ++ [V.ref u] = zs at *
    refine ⟨_, rfl, ?_⟩
    show tLst _ _ _ _
    refine rows_lst (rows := dims3) ?_ (by decide) fun q6 xs6 H6 e6 nq6 hq6 lr6 nr6 => ?_
    · unfold dims3
      repeat (first | exact RowsD.nil | refine RowsD.cons (fun _ _ _ h => h) (by decide) (by simp) ?_)
    refine ⟨q3, q6, zs, xs6, rfl, rfl, SqL.of (e6 _ _ hq5), SqL.of hq6, ?_, ?_⟩
    · rw [ly5, lr6.len]
      exact slen (by decide)
    (intro q7 nq7; generalize hGq7 : upd _ q7 _ = H7; have eH7 := exG hGq7 nq7; have hq7 := atG hGq7; clear hGq7)
    have lr7 : LRows H7 (zs ++ xs6) dimsL := LRows.app (lr5.mono (ext e6 eH7)) (lr6.mono eH7)
    have E7 : Ex H H7 := ext E5 (ext e6 eH7)
    have nr7 : ∀ r, V.ref r ∈ zs ++ xs6 → H r = none := fun r hr => by
      rcases List.mem_append.mp hr with h | h
      · exact nr5 r h
      · exact Evl.fresh_back E5 (nr6 r h)
    generalize zs ++ xs6 = vs at *
    have lv : vs.length = 39 := lr7.len.trans (by decide +kernel)
    dsimp only [gName]
    refine ⟨_, rfl, _, rfl, q7, rfl, ⟨_, SqL.of hq7⟩, fun D hD => ?_⟩
    refine lc_filt (walk_list (xs := vs)) (vs.zip dimsL) (fun z => decide (prodL z.2 ≤ b)) (fun z => z.1) (by rw [List.length_zip, lv]; decide +kernel) (by omega) hD (fun Hx ex => SqL.of (ex _ _ hq7)) ?_ ?_
    · rintro i x ⟨z1, z2⟩ _ Hx R S hz ex ⟨rfl, hx⟩ kR kS
      obtain ⟨hz1, hz2⟩ := zip_at2 hz
      obtain ⟨o, r, hp, rfl, hr2, _⟩ := lr7.get hx
      obtain rfl : o = z2 := Option.some.inj (hp.symm.trans hz2)
      obtain rfl : V.ref r = z1 := Option.some.inj (hx.symm.trans hz1)
      obtain ⟨_, _, d3, d4⟩ := dims_ok o (List.mem_of_getElem? hp)
      refine ⟨rfl, _, rfl, r, o, rfl, ex _ _ hr2, d3, d4, _, rfl, _, _, rfl, rfl, _, rfl, ?_⟩
      by_cases c : prodL o ≤ b
      · exact itt (decide_eq_true c) ⟨_, rfl, kR _ _ exr (decide_eq_true c) rfl⟩
      · exact itf (decide_eq_false c) (kS _ exr (decide_eq_false c))
    intro H8 e8 hD8
    have lr8 : LRows H8 (((vs.zip dimsL).filter fun z => decide (prodL z.2 ≤ b)).map fun z => z.1) (dimsL.filter fun z => decide (prodL z ≤ b)) := LRows.filt (fun z => decide (prodL z ≤ b)) (lr7.mono e8)
    have sub8 : ∀ x ∈ ((vs.zip dimsL).filter fun z => decide (prodL z.2 ≤ b)).map fun z => z.1, x ∈ vs := fun x hx => by
      obtain ⟨z, hz, rfl⟩ := List.mem_map.mp hx
      exact (List.of_mem_zip (List.mem_filter.mp hz).1).1
    have l8 : (((vs.zip dimsL).filter fun z => decide (prodL z.2 ≤ b)).map fun z => z.1).length ≤ 39 := by
      rw [List.length_map]
      refine Nat.le_trans (List.length_filter_le _ _) ?_
      rw [List.length_zip, lv]
      exact Nat.min_le_left _ _
    have ne8 : (((vs.zip dimsL).filter fun z => decide (prodL z.2 ≤ b)).map fun z => z.1) ≠ [] := fun h => by
      rw [h] at lr8
      have : ([1] : List Int) ∈ dimsL.filter fun z => decide (prodL z ≤ b) := List.mem_filter.mpr ⟨by decide +kernel, decide_eq_true (by show (1 : Int) ≤ b; exact b1)⟩
      have h2 : (dimsL.filter fun z => decide (prodL z ≤ b)) = [] := List.eq_nil_of_length_eq_zero lr8.len.symm
      rw [h2] at this
      cases this
    generalize (((vs.zip dimsL).filter fun z => decide (prodL z.2 ≤ b)).map fun z => z.1) = us at *
    have E8 := ext E7 e8
    have nDs : D ≠ s := (hs.mono E7).ne hD
    refine ⟨s, D, us, rfl, hs.mono E8, hD8, nDs, ne8, by omega, fun v H9 hv xb src => ?_⟩
    obtain ⟨r, ks, rfl, hk, hr8⟩ := lr8.mem hv
    obtain ⟨hk1, hk2⟩ := List.mem_filter.mp hk
    obtain ⟨d1, d2, d3, d4⟩ := dims_ok ks hk1
    have nr := nr7 r (sub8 _ hv)
    exact k r ks H9 nr (xb _ _ (hs.ne nr) hr8) ⟨d1, d2, d3⟩ (of_decide_eq_true hk2) ((XB.of E8).trans xb) src
end

section
variable {P : Program} {w : World} {K : PySem.W.Frag} {mg : Str → Option Value} {base : Heap}
def sp_law_moved : Sp := fun vs H Q _ => ∃ (t s c : Addr) (f : Int) (ns ps cs : List Int), vs = [.ref t, .ref s, .ref c, .int f] ∧ H t = some (.lst (ns.map V.int)) ∧ SzOk ns ∧ H s = some (.tup (ps.map V.int)) ∧ H c = some (.tup (cs.map V.int)) ∧ ps.length = ns.length ∧ cs.length = ns.length ∧ (f = 1 ∨ f = -1) ∧
  ∀ H2 q, Ex H H2 → H q = none → H2 q = some (.tup ((shiftL ns ps cs f).map V.int)) → Q (.ref q) H2
theorem ok_law_moved (T : TX K mg) : FnOk P w K mg base CX0 1 T.f_law_moved T.fd_law_moved ["_law_dims_here", "_law_spot", "_law_hop", "_law_factor"] sp_law_moved := by
  refine T.F_law_moved.ok sc_law_moved (fun vs H Q E h => ?_) (fun cdv A outer s H vs Q E hr h => ?_)
  · obtain ⟨t, s, c, f, ns, ps, cs, rfl, _⟩ := h
    rfl
  · obtain ⟨t, s, c, f, ns, ps, cs, rfl, ht, ok, hs, hc, lp, lc, hf, k⟩ := h
    have l4 := ok.le
    refine ⟨_, (pss_one (ps_ret (pe_callTy call_tuple_of (by rfl) T.z_tuple (by decide +kernel) (pa_cons (pe_lc (own := [("_law_place", 4), ("_law_one", 5), ("_law_size", 6)]) (g := (gTup K 3 (gCons (gName 4) (gCons (gName 5) (gCons (gName 6) gNil))))) rfl sc_law_moved.nd (CZ.pi_z3 (fl := [true, true, false]) rfl (by rfl) T.z_zip (pa_cons (pv 1) (pa_cons (pv 2) (pa_cons (pv 0) pa_nil)))) (blkOk_by (N := N_law_moved) (sc := defScope s_law_moved) (by decide +kernel)) (fun _ _ _ _ _ => (pg_tup rfl (pgs_cons (pg_name (i := 4) sc_law_moved.nd rfl (Or.inl rfl)) (pgs_cons (pg_name (i := 5) sc_law_moved.nd rfl (Or.inl rfl)) (pgs_cons (pg_name (i := 6) sc_law_moved.nd rfl (Or.inl rfl)) pgs_nil))))) (fun _ _ _ _ _ => pts_nil) (fun _ _ _ _ _ => (pe_op op_mod (pe_op op_add (pv 4) (pe_op op_mulI (pv 3) (pv 5))) (pv 6)))) pa_nil)))), ?_⟩
    refine ⟨_, rfl, _, rfl, _, rfl, [s, c, t], rfl, rfl, all3 (sqT hs) (sqT hc) (sqL ht), fun D hD => ?_⟩
    have ls : (shiftL ns ps cs f).length = ns.length := shift_len lp lc
    refine lc_vals (CZ.walk_rows (xss := [ps.map V.int, cs.map V.int, ns.map V.int]) (n := ns.length) (lens3 (by rw [List.length_map, lp]) (by rw [List.length_map, lc]) (by rw [List.length_map]))) ((shiftL ns ps cs f).map V.int) (by rw [List.length_map, ls]) (by omega) hD (fun H3 e => .cons (SqT.of (e _ _ hs)) (.cons (SqT.of (e _ _ hc)) (.cons (SqL.of (e _ _ ht)) .nil))) ?_ (gmono_tup (gmono_cons gmono_name (gmono_cons gmono_name (gmono_cons gmono_name gmono_nil)))) ?_
    · intro i y H3 H4 R hi e yy kk
      obtain ⟨Ta, p, d, n, rfl, hT, rfl, hp, hd, hn⟩ := yints3 yy
      have n1 := ok.one n (List.mem_of_getElem? hn)
      refine ⟨Ta, _, rfl, SqT.of upd_same, rfl, _, _, rfl, _, _, rfl, _, _, rfl, rfl, rfl, ?_⟩
      refine ⟨_, rfl, _, rfl, _, rfl, _, _, rfl, rfl, mul_ok (.inl (by rcases hf with e | e <;> rw [e] <;> decide)), _, _, rfl, rfl, _, rfl, _, _, rfl, rfl, (by show (0 : Int) < n; omega), ?_⟩
      refine kk _ _ (exn hT) ?_
      rw [List.getElem?_map, shift_get hn hp hd]
      rfl
    · intro H3 e hD3
      exact ⟨D, _, rfl, .inl ⟨SqL.of hD3, fun q hq => k _ q (fun b o z => exn hq b o (e b o z)) (Evl.fresh_back e hq) upd_same⟩⟩
end

/-- a comprehension that makes rows: tuples of ints -/
theorem lc_tups {J : It} {n : Nat} {G : Hp → Prop} {Y : Nat → Hp → V → Hp → Prop} (w : Walk J n G Y) {g : TG} {te : TE} {vs : List Nat} {σ : L2.St} {H1 : Hp} {D : Addr} {Qd : Hp → Prop} (rows : List (List Int)) (hn : rows.length = n) (hl : n ≤ 10000000) (hD : H1 D = none)
    (hG : ∀ H, Ex H1 H → G H)
    (hs : ∀ i x H H2 (R : VK) (r : List Int), rows[i]? = some r → Ex H1 H → Y i H x H2 → (∀ q H5, Ex H H5 → H5 q = some (.tup (r.map V.int)) → R (.ref q) H5) → g x (wipe σ vs) H2 fun σ2 H3 => wipe σ2 vs = wipe σ vs ∧ te σ2 H3 R)
    (hg : ∀ x σ2 H2 (R R2 : L2.St → Hp → Prop), (∀ σ3 H3, R σ3 H3 → R2 σ3 H3) → g x σ2 H2 R → g x σ2 H2 R2)
    (hd : ∀ H, Ex H1 H → RowsAt H D rows → Qd H) :
    ∃ W : Nat → Nat → Hp → Prop, (∃ m, W 0 m (upd H1 D (.lst []))) ∧ ∀ i m H, W i m H →
      (J.stop i H ∧ Qd H) ∨ (J.go i H ∧ ∃ Nx : Hp → Prop, (∀ H2, Nx H2 → ∃ m2, m2 < m ∧ W (i + 1) m2 H2) ∧ ∀ x H2, J.yld i H x H2 → g x (wipe σ vs) H2 fun σ2 H3 => wipe σ2 vs = wipe σ vs ∧ tYes σ2 H3 fun b H4 =>
        if b = true then te σ2 H4 fun y H5 => ∃ acc, H5 D = some (.lst acc) ∧ acc.length < sizeLine ∧ Nx (upd H5 D (.lst (acc ++ [y]))) else Nx H4) := by
  refine lc_it w (fun i H => RowsAt H D (rows.take i) ∧ Ex H1 H) ⟨⟨[], upd_same, .nil⟩, exn hD⟩ (fun i H _ p => hG H p.2) (fun i x H H2 hi p y => ?_) (fun H p => hd H p.2 (by have := p.1; rwa [List.take_of_length_le (by omega)] at this))
  obtain ⟨r, hr⟩ : ∃ r, rows[i]? = some r := ⟨rows[i]'(by omega), List.getElem?_eq_getElem _⟩
  refine hg _ _ _ _ _ (fun σ3 H3 q => ⟨q.1, q.2⟩) (hs i x H H2 (fun y H5 => ∃ acc, H5 D = some (.lst acc) ∧ acc.length < sizeLine ∧ (RowsAt (upd H5 D (.lst (acc ++ [y]))) D (rows.take (i + 1)) ∧ Ex H1 (upd H5 D (.lst (acc ++ [y]))))) r hr p.2 y fun q H5 e hq => ?_)
  obtain ⟨acc, a1, a2, a3⟩ := rows_push (p.1.mono e) hq
  refine ⟨acc, a1, ?_, by rw [take_more hr]; exact a3, ex_upd (ext p.2 e) hD⟩
  rw [a2, List.length_take]
  exact Nat.lt_of_le_of_lt (Nat.le_trans (Nat.min_le_right _ _) (by rw [hn]; exact hl)) (by decide)

/-! ### comprehensions of new tuples -/
theorem paired_mono {α : Type} {P Q : V → α → Prop} (h : ∀ v a, P v a → Q v a) : ∀ {xs : List V} {as : List α}, Paired P xs as → Paired Q xs as
  | _, _, .nil => .nil
  | _, _, .cons q t => .cons (h _ _ q) (paired_mono h t)
theorem paired_snoc {α : Type} {P : V → α → Prop} {v : V} {a : α} (h : P v a) : ∀ {xs : List V} {as : List α}, Paired P xs as → Paired P (xs ++ [v]) (as ++ [a])
  | _, _, .nil => .cons h .nil
  | _, _, .cons q t => .cons q (paired_snoc h t)
theorem lc_new {α : Type} (Pd : Hp → V → α → Prop) (mono : ∀ (H H2 : Hp) (v : V) (a : α), (∀ c xs, H c = some (.tup xs) → H2 c = some (.tup xs)) → Pd H v a → Pd H2 v a)
    {J : It} {n : Nat} {G : Hp → Prop} {Y : Nat → Hp → V → Hp → Prop} (w : Walk J n G Y) {g : TG} {te : TE} {vs : List Nat} {σ : L2.St} {H1 : Hp} {D : Addr} {Qd : Hp → Prop} (as : List α) (hn : as.length = n) (hl : n ≤ 10000000) (hD : H1 D = none)
    (hG : ∀ H, Ex H1 H → G H)
    (hs : ∀ i x a H H2 (R : VK), as[i]? = some a → Ex H1 H → Y i H x H2 → (∀ v H5, Ex H H5 → Pd H5 v a → R v H5) → g x (wipe σ vs) H2 fun σ2 H3 => wipe σ2 vs = wipe σ vs ∧ te σ2 H3 R)
    (hg : ∀ x σ2 H2 (R R2 : L2.St → Hp → Prop), (∀ σ3 H3, R σ3 H3 → R2 σ3 H3) → g x σ2 H2 R → g x σ2 H2 R2)
    (hd : ∀ H xs, Ex H1 H → H D = some (.lst xs) → Paired (Pd H) xs as → Qd H) :
    ∃ W : Nat → Nat → Hp → Prop, (∃ m, W 0 m (upd H1 D (.lst []))) ∧ ∀ i m H, W i m H →
      (J.stop i H ∧ Qd H) ∨ (J.go i H ∧ ∃ Nx : Hp → Prop, (∀ H2, Nx H2 → ∃ m2, m2 < m ∧ W (i + 1) m2 H2) ∧ ∀ x H2, J.yld i H x H2 → g x (wipe σ vs) H2 fun σ2 H3 => wipe σ2 vs = wipe σ vs ∧ tYes σ2 H3 fun b H4 =>
        if b = true then te σ2 H4 fun y H5 => ∃ acc, H5 D = some (.lst acc) ∧ acc.length < sizeLine ∧ Nx (upd H5 D (.lst (acc ++ [y]))) else Nx H4) := by
  refine lc_it w (fun i H => Ex H1 H ∧ ∃ xs, H D = some (.lst xs) ∧ Paired (Pd H) xs (as.take i)) ⟨exn hD, [], upd_same, .nil⟩ (fun i H _ p => hG H p.1) (fun i x H H2 hi p y => ?_) (fun H p => ?_)
  · obtain ⟨a, ha⟩ : ∃ a, as[i]? = some a := ⟨_, List.getElem?_eq_getElem (by omega)⟩
    refine hg _ _ _ _ _ (fun σ3 H3 q => ⟨q.1, q.2⟩) (hs i x a H H2 (fun y H5 => ∃ acc, H5 D = some (.lst acc) ∧ acc.length < sizeLine ∧ Ex H1 (upd H5 D (.lst (acc ++ [y]))) ∧ ∃ xs, upd H5 D (.lst (acc ++ [y])) D = some (.lst xs) ∧ Paired (Pd (upd H5 D (.lst (acc ++ [y])))) xs (as.take (i + 1))) ha p.1 y fun v H5 e hv => ?_)
    obtain ⟨p1, xs, p2, p3⟩ := p
    have tp : ∀ c zs, H5 c = some (.tup zs) → upd H5 D (.lst (xs ++ [v])) c = some (.tup zs) := fun c zs z => by
      rw [upd_ne (ne_of z (e _ _ p2) (by intro q; cases q))]
      exact z
    refine ⟨xs, e _ _ p2, ?_, ex_upd (ext p1 e) hD, xs ++ [v], upd_same, ?_⟩
    · rw [Paired.length p3, List.length_take]
      exact Nat.lt_of_le_of_lt (Nat.le_trans (Nat.min_le_right _ _) (by rw [hn]; exact hl)) (by decide)
    · rw [take_more ha]
      refine paired_snoc (mono _ _ _ _ tp hv) (paired_mono (fun v a q => mono _ _ _ _ tp (mono _ _ _ _ (fun c zs z => e _ _ z) q)) p3)
  · obtain ⟨p1, xs, p2, p3⟩ := p
    rw [List.take_of_length_le (by omega)] at p3
    exact hd H xs p1 p2 p3
def PdRow (H : Hp) (x : V) (hs : List Int) : Prop := ∃ r, x = V.ref r ∧ H r = some (.tup (hs.map V.int))
theorem pdrow_mono (H H2 : Hp) (v : V) (a : List Int) (e : ∀ c xs, H c = some (.tup xs) → H2 c = some (.tup xs)) (h : PdRow H v a) : PdRow H2 v a := by
  obtain ⟨r, h1, h2⟩ := h
  exact ⟨r, h1, e _ _ h2⟩

/-- a comprehension of new objects with a test -/
theorem lc_newF {α : Type} (Pd : Hp → V → α → Prop) (mono : ∀ (H H2 : Hp) (v : V) (a : α), (∀ c xs, H c = some (.tup xs) → H2 c = some (.tup xs)) → Pd H v a → Pd H2 v a)
    {J : It} {n : Nat} {G : Hp → Prop} {Y : Nat → Hp → V → Hp → Prop} (w : Walk J n G Y) {g : TG} {tt : TT} {te : TE} {vs : List Nat} {σ : L2.St} {H1 : Hp} {D : Addr} {Qd : Hp → Prop} (as : List α) (c : α → Bool) (hn : as.length = n) (hl : n ≤ 10000000) (hD : H1 D = none)
    (hG : ∀ H, Ex H1 H → G H)
    (hs : ∀ i x a H H2 (R : VK) (S : Hp → Prop), as[i]? = some a → Ex H1 H → Y i H x H2 → (∀ v H5, Ex H H5 → c a = true → Pd H5 v a → R v H5) → (∀ H4, Ex H H4 → c a = false → S H4) → g x (wipe σ vs) H2 fun σ2 H3 => wipe σ2 vs = wipe σ vs ∧ tt σ2 H3 fun b H4 => if b = true then te σ2 H4 R else S H4)
    (hd : ∀ H xs, Ex H1 H → H D = some (.lst xs) → Paired (Pd H) xs (as.filter c) → Qd H) :
    ∃ W : Nat → Nat → Hp → Prop, (∃ m, W 0 m (upd H1 D (.lst []))) ∧ ∀ i m H, W i m H →
      (J.stop i H ∧ Qd H) ∨ (J.go i H ∧ ∃ Nx : Hp → Prop, (∀ H2, Nx H2 → ∃ m2, m2 < m ∧ W (i + 1) m2 H2) ∧ ∀ x H2, J.yld i H x H2 → g x (wipe σ vs) H2 fun σ2 H3 => wipe σ2 vs = wipe σ vs ∧ tt σ2 H3 fun b H4 =>
        if b = true then te σ2 H4 fun y H5 => ∃ acc, H5 D = some (.lst acc) ∧ acc.length < sizeLine ∧ Nx (upd H5 D (.lst (acc ++ [y]))) else Nx H4) := by
  refine lc_it w (fun i H => Ex H1 H ∧ ∃ xs, H D = some (.lst xs) ∧ Paired (Pd H) xs ((as.take i).filter c)) ⟨exn hD, [], upd_same, .nil⟩ (fun i H _ p => hG H p.1) (fun i x H H2 hi p y => ?_) (fun H p => ?_)
  · obtain ⟨a, ha⟩ : ∃ a, as[i]? = some a := ⟨as[i]'(by omega), List.getElem?_eq_getElem (by omega)⟩
    obtain ⟨p1, xs, p2, p3⟩ := p
    refine hs i x a H H2 _ (fun H3 => Ex H1 H3 ∧ ∃ xs, H3 D = some (.lst xs) ∧ Paired (Pd H3) xs ((as.take (i + 1)).filter c)) ha p1 y (fun v H5 e hc hv => ?_) (fun H4 e hc => ?_)
    · have tp : ∀ c zs, H5 c = some (.tup zs) → upd H5 D (.lst (xs ++ [v])) c = some (.tup zs) := fun c zs z => by
        rw [upd_ne (ne_of z (e _ _ p2) (by intro q; cases q))]
        exact z
      refine ⟨xs, e _ _ p2, ?_, ex_upd (ext p1 e) hD, xs ++ [v], upd_same, ?_⟩
      · rw [Paired.length p3]
        refine Nat.lt_of_le_of_lt (Nat.le_trans (List.length_filter_le _ _) ?_) (show 10000000 < sizeLine by decide)
        rw [List.length_take]
        omega
      · rw [take_more ha, List.filter_append, show [a].filter c = [a] by simp [hc]]
        exact paired_snoc (mono _ _ _ _ tp hv) (paired_mono (fun v a q => mono _ _ _ _ tp (mono _ _ _ _ (fun c zs z => e _ _ z) q)) p3)
    · refine ⟨ext p1 e, xs, e _ _ p2, ?_⟩
      rw [take_more ha, List.filter_append, show [a].filter c = [] by simp [hc], List.append_nil]
      exact paired_mono (fun v a q => mono _ _ _ _ (fun c zs z => e _ _ z) q) p3
  · obtain ⟨p1, xs, p2, p3⟩ := p
    rw [List.take_of_length_le (by omega)] at p3
    exact hd H xs p1 p2 p3
/-- .. of new objects of any kind, beside the list itself -/
theorem lc_newG {α : Type} {D : Addr} (Pd : Hp → V → α → Prop) (mono : ∀ (H H2 : Hp) (v : V) (a : α) (ys : List V), H D = some (.lst ys) → (∀ c o, c ≠ D → H c = some o → H2 c = some o) → Pd H v a → Pd H2 v a)
    {J : It} {n : Nat} {G : Hp → Prop} {Y : Nat → Hp → V → Hp → Prop} (w : Walk J n G Y) {g : TG} {tt : TT} {te : TE} {vs : List Nat} {σ : L2.St} {H1 : Hp} {Qd : Hp → Prop} (as : List α) (c : α → Bool) (hn : as.length = n) (hl : n ≤ 10000000) (hD : H1 D = none)
    (hG : ∀ H, Ex H1 H → G H)
    (hs : ∀ i x a H H2 (R : VK) (S : Hp → Prop), as[i]? = some a → Ex H1 H → (∃ ys, H D = some (.lst ys)) → Y i H x H2 → (∀ v H5, Ex H H5 → c a = true → Pd H5 v a → R v H5) → (∀ H4, Ex H H4 → c a = false → S H4) → g x (wipe σ vs) H2 fun σ2 H3 => wipe σ2 vs = wipe σ vs ∧ tt σ2 H3 fun b H4 => if b = true then te σ2 H4 R else S H4)
    (hd : ∀ H xs, Ex H1 H → H D = some (.lst xs) → Paired (Pd H) xs (as.filter c) → Qd H) :
    ∃ W : Nat → Nat → Hp → Prop, (∃ m, W 0 m (upd H1 D (.lst []))) ∧ ∀ i m H, W i m H →
      (J.stop i H ∧ Qd H) ∨ (J.go i H ∧ ∃ Nx : Hp → Prop, (∀ H2, Nx H2 → ∃ m2, m2 < m ∧ W (i + 1) m2 H2) ∧ ∀ x H2, J.yld i H x H2 → g x (wipe σ vs) H2 fun σ2 H3 => wipe σ2 vs = wipe σ vs ∧ tt σ2 H3 fun b H4 =>
        if b = true then te σ2 H4 fun y H5 => ∃ acc, H5 D = some (.lst acc) ∧ acc.length < sizeLine ∧ Nx (upd H5 D (.lst (acc ++ [y]))) else Nx H4) := by
  refine lc_it w (fun i H => Ex H1 H ∧ ∃ xs, H D = some (.lst xs) ∧ Paired (Pd H) xs ((as.take i).filter c)) ⟨exn hD, [], upd_same, .nil⟩ (fun i H _ p => hG H p.1) (fun i x H H2 hi p y => ?_) (fun H p => ?_)
  · obtain ⟨a, ha⟩ : ∃ a, as[i]? = some a := ⟨as[i]'(by omega), List.getElem?_eq_getElem (by omega)⟩
    obtain ⟨p1, xs, p2, p3⟩ := p
    refine hs i x a H H2 _ (fun H3 => Ex H1 H3 ∧ ∃ xs, H3 D = some (.lst xs) ∧ Paired (Pd H3) xs ((as.take (i + 1)).filter c)) ha p1 ⟨xs, p2⟩ y (fun v H5 e hc hv => ?_) (fun H4 e hc => ?_)
    · have tp : ∀ c o, c ≠ D → H5 c = some o → upd H5 D (.lst (xs ++ [v])) c = some o := fun c o n z => by
        rw [upd_ne n]
        exact z
      refine ⟨xs, e _ _ p2, ?_, ex_upd (ext p1 e) hD, xs ++ [v], upd_same, ?_⟩
      · rw [Paired.length p3]
        refine Nat.lt_of_le_of_lt (Nat.le_trans (List.length_filter_le _ _) ?_) (show 10000000 < sizeLine by decide)
        rw [List.length_take]
        omega
      · rw [take_more ha, List.filter_append, show [a].filter c = [a] by simp [hc]]
        exact paired_snoc (mono _ _ _ _ _ (e _ _ p2) tp hv) (paired_mono (fun v a q => mono _ _ _ _ _ (e _ _ p2) tp (mono _ _ _ _ _ p2 (fun c o _ z => e _ _ z) q)) p3)
    · refine ⟨ext p1 e, xs, e _ _ p2, ?_⟩
      rw [take_more ha, List.filter_append, show [a].filter c = [] by simp [hc], List.append_nil]
      exact paired_mono (fun v a q => mono _ _ _ _ _ p2 (fun c o _ z => e _ _ z) q) p3
  · obtain ⟨p1, xs, p2, p3⟩ := p
    rw [List.take_of_length_le (by omega)] at p3
    exact hd H xs p1 p2 p3
/-- a new list of tuples of ints -/
def PdRows (D : Addr) (H : Hp) (v : V) (row : List (List Int)) : Prop := ∃ a, v = V.ref a ∧ a ≠ D ∧ RowsAt H a row
theorem pdrows_mono {D : Addr} (H H2 : Hp) (v : V) (row : List (List Int)) (ys : List V) (hD : H D = some (.lst ys)) (e : ∀ c o, c ≠ D → H c = some o → H2 c = some o) (h : PdRows D H v row) : PdRows D H2 v row := by
  obtain ⟨a, h1, h2, xs, h3, h4⟩ := h
  exact ⟨a, h1, h2, xs, e _ _ h2 h3, paired_mono (fun v hs ⟨r, q1, q2⟩ => ⟨r, q1, e _ _ (ne_of q2 hD (by intro z; cases z)) q2⟩) h4⟩

theorem mir_shift : ∀ {ns ps cs : List Int}, ps.length = ns.length → cs.length = ns.length → mirL ns ps (shiftL ns ps cs 1) = shiftL ns ps cs (-1)
  | [], _, _, _, _ => by cases ‹List Int› <;> cases ‹List Int› <;> rfl
  | n :: ns, p :: ps, c :: cs, h1, h2 => by
    show ((2 * p - (p + 1 * c) % n) % n) :: mirL ns ps (shiftL ns ps cs 1) = ((p + -1 * c) % n) :: shiftL ns ps cs (-1)
    rw [mir_shift (by simpa using h1) (by simpa using h2)]
    congr 1
    rw [emod_eq_iff]
    have e := Int.mul_ediv_add_emod (p + 1 * c) n
    refine ⟨(p + 1 * c) / n, ?_⟩
    grind
theorem shift_to : ∀ {ns ps os : List Int}, SeatOk ns os → ps.length = ns.length → shiftL ns ps (toL ns ps os) 1 = os
  | [], _, [], _, _ => by cases ‹List Int› <;> rfl
  | n :: ns, p :: ps, o :: os, h, l => by
    obtain ⟨⟨o0, o1⟩, h2⟩ : (0 ≤ o ∧ o < n) ∧ SeatOk ns os := h
    show (p + 1 * ((o - p) % n)) % n :: shiftL ns ps (toL ns ps os) 1 = _
    rw [shift_to h2 (by simpa using l)]
    congr 1
    rw [Int.one_mul, Int.add_emod, Int.emod_emod, ← Int.add_emod, show p + (o - p) = o by omega, Int.emod_eq_of_lt o0 o1]

theorem toL_seat : ∀ {ns ps os : List Int}, SeatOk ns ps → os.length = ns.length → SeatOk ns (toL ns ps os)
  | [], [], [], _, _ => True.intro
  | n :: ns, p :: ps, o :: os, h, l => by
    obtain ⟨⟨h1, h2⟩, h3⟩ : (0 ≤ p ∧ p < n) ∧ SeatOk ns ps := h
    exact ⟨⟨Int.emod_nonneg _ (by omega), Int.emod_lt_of_pos _ (by omega)⟩, toL_seat h3 (by simpa using l)⟩
theorem dep_app (fs gs : List (List Int × Nat)) (p : List Int) : dep (fs ++ gs) p = match dep fs p with
    | some d => some d
    | none => dep gs p := by
  induction fs with
  | nil => rfl
  | cons f fs ih =>
    rw [List.cons_append, dep_cons, dep_cons]
    by_cases c : f.1 = p
    · rw [if_pos c, if_pos c]
    · rw [if_neg c, if_neg c, ih]

theorem hop_iff {ns p : List Int} {us : List (List Int)} (sp : SeatOk ns p) (su : ∀ o ∈ us, SeatOk ns o) : (∃ h ∈ allS ns, shiftL ns p h 1 ∈ us ∧ shiftL ns p h (-1) ∈ us) ↔ ∃ o ∈ us, mirL ns p o ∈ us := by
  constructor
  · rintro ⟨h, hh, h1, h2⟩
    exact ⟨_, h1, by rw [mir_shift sp.len (mem_allS.mp hh).len]; exact h2⟩
  · rintro ⟨o, ho, hm⟩
    have so := su o ho
    have e1 := shift_to so sp.len
    have lt := toL_len (ns := ns) sp.len so.len
    exact ⟨toL ns p o, mem_allS.mpr (toL_seat sp so.len), by rw [e1]; exact ho, by rw [← mir_shift sp.len lt, e1]; exact hm⟩
theorem notin_lst {K : PySem.W.Frag} {H : Hp} {r g : Addr} {ps : List Int} {tss : List (List Int)} {Q : VK} (hx : H r = some (.tup (ps.map V.int))) (hq : RowsAt H g tss) (k : Q (.bl (!decide (ps ∈ tss))) H) : rNotInD K (.ref r) (.ref g) H Q := by
  obtain ⟨xs, h1, h2⟩ := hq
  exact ⟨iT ps, tss.map iT, dp_ints hx, .lst (SqL.of h1) h2.dp, (sh_ints (n := 59) _).ok, (sh_rows (n := 58) _).ok, by rw [any_rows]; exact k⟩
theorem in_lst {K : PySem.W.Frag} {H : Hp} {r g : Addr} {ps : List Int} {tss : List (List Int)} {Q : VK} (hx : H r = some (.tup (ps.map V.int))) (hq : RowsAt H g tss) (k : Q (.bl (decide (ps ∈ tss))) H) : rInD K (.ref r) (.ref g) H Q := by
  obtain ⟨xs, h1, h2⟩ := hq
  exact ⟨iT ps, tss.map iT, dp_ints hx, .lst (SqL.of h1) h2.dp, (sh_ints (n := 59) _).ok, (sh_rows (n := 58) _).ok, by rw [any_rows]; exact k⟩
theorem ones_dp {K : PySem.W.Frag} {H : Hp} {α : Type} : ∀ l : List α, DpAll K H (l.map fun _ => V.int 1) (l.map fun _ => PyData.int 1)
  | [] => .nil
  | _ :: l => .cons (.int 1) (ones_dp l)
theorem yesI {σ : L2.St} {H : Hp} {A B : Hp → Prop} (h : A H) : tYes σ H fun b H4 => if b = true then A H4 else B H4 := (itt rfl h : if true = true then A H else B H)

section
variable {P : Program} {w : World} {K : PySem.W.Frag} {mg : Str → Option Value} {base : Heap}
def sp_law_forced : Sp := fun vs H Q _ => ∃ (l g A : Addr) (ns : List Int) (gs al : List (List Int)), vs = [.ref l, .ref g, .ref A] ∧ H l = some (.lst (ns.map V.int)) ∧ SzOk ns ∧ prodL ns ≤ 300 ∧ RowsAt H g gs ∧ RowsAt H A al ∧ gs.Nodup ∧ gs.length ≤ 300 ∧ al.Nodup ∧ al.length ≤ 300 ∧ (∀ o ∈ gs, SeatOk ns o) ∧ (∀ o ∈ al, SeatOk ns o) ∧
  ∀ D H2 tss, Ex H H2 → H D = none → RowsAt H2 D tss → (∀ x, x ∈ tss ↔ Fo ns (· ∈ gs) (· ∈ al) x) → tss.length ≤ 600 → Q (.ref D) H2
theorem ok_law_forced (T : TX K mg) : FnOk P w K mg base CX0 2 T.f_law_forced T.fd_law_forced ["_law_dims_here", "_law_goals", "_law_allowed"] sp_law_forced := by
  refine T.F_law_forced.ok sc_law_forced (fun vs H Q E h => ?_) (fun cdv A outer s H vs Q E hr h => ?_)
  · obtain ⟨l, g, B, ns, gs, al, rfl, _⟩ := h
    rfl
  · obtain ⟨l, g, B, ns, gs, al, rfl, hl, ok, pr, ⟨xs, hg, rg⟩, ⟨ys, hB, rl⟩, ngs, lg, nal, la, sg, sa, k⟩ := h
    refine ⟨_, (pss_cons (ps_set (i := 3) sc_law_forced.nd rfl (Or.inl rfl) (pe_call (ok_law_spots T) hr rfl T.m_law_spots T.F_law_spots.kp T.b_law_spots .nil pass0 (pa_cons (pv 0) pa_nil))) (pss_cons (ps_set (i := 4) sc_law_forced.nd rfl (Or.inr rfl) (pe_callTy call_list_of (by rfl) T.z_list (by decide +kernel) (pa_cons (pv 1) pa_nil))) (pss_cons (ps_set (i := 5) sc_law_forced.nd rfl (Or.inl rfl) pe_bl) (pss_cons (ps_while PassesOwn.never (pt_val (pv 5)) (pss_cons (ps_set (i := 5) sc_law_forced.nd rfl (Or.inl rfl) pe_bl) (pss_one (ps_for PassesOwn.never rfl (pi_list (pe_lc (own := [("_law_one", 8)]) (g := (gName 8)) rfl sc_law_forced.nd (pi_list (pv 2)) (blkOk_by (N := N_law_forced) (sc := defScope s_law_forced) (by decide +kernel)) (fun _ _ _ _ _ => (pg_name (i := 8) sc_law_forced.nd rfl (Or.inl rfl))) (fun _ _ _ _ _ => (pts_one (pt_cmpR (r := rNotInD K) (op_notInD (u65 hr)) (pv 8) (pv 4) rfl))) (fun _ _ _ _ _ => (pv 8)))) (pg_name (i := 6) sc_law_forced.nd rfl (Or.inr rfl)) (pss_cons (ps_setLc (own := [("_law_hop", 9)]) (g := (gName 9)) (i := 7) rfl sc_law_forced.nd rfl rfl (sw_true rfl rfl rfl (by decide +kernel)) (pi_list (pv 3)) (blkOk_by (N := N_law_forced) (sc := defScope s_law_forced) (by decide +kernel)) (fun _ _ _ _ _ => (pg_name (i := 9) sc_law_forced.nd rfl (Or.inr rfl))) (fun _ _ _ _ _ => pts_nil) (fun _ _ _ _ _ => (pe_lc (wi := iTup K _) (own := [("_law_factor", 10)]) (g := (gName 10)) rfl sc_law_forced.nd (pi_tup (pe_tup (pa_cons pe_int (pa_cons (pe_un un_neg pe_int) pa_nil)))) (blkOk_by (N := N_law_forced) rfl) (fun _ _ _ _ _ => (pg_name (i := 10) sc_law_forced.nd rfl (Or.inl rfl))) (fun _ _ _ _ _ => pts_nil) (fun _ _ _ _ _ => (pe_call (ok_law_moved T) hr rfl T.m_law_moved T.F_law_moved.kp T.b_law_moved .nil pass0 (pa_cons (pv 0) (pa_cons (pv 6) (pa_cons (pv 9) (pa_cons (pv 10) pa_nil))))))))) (pss_one (ps_if (pt_cmpR (r := rNeD K) (op_neD hr.units) (pe_lc (own := [("_law_one", 8), ("_law_other", 11)]) (g := (gLst K 2 (gCons (gName 8) (gCons (gName 11) gNil)))) rfl sc_law_forced.nd (pi_list (pv 7)) (blkOk_by (N := N_law_forced) (sc := defScope s_law_forced) (by decide +kernel)) (fun _ _ _ _ _ => (pg_lst rfl (pgs_cons (pg_name (i := 8) sc_law_forced.nd rfl (Or.inl rfl)) (pgs_cons (pg_name (i := 11) sc_law_forced.nd rfl (Or.inl rfl)) pgs_nil)))) (fun _ _ _ _ _ => (pts_one (PW.pt (pw_and (pt_cmpR (r := rInD K) (op_inD (u65 hr)) (pv 8) (pv 4) rfl) (pw_and1 (pt_cmpR (r := rInD K) (op_inD (u65 hr)) (pv 11) (pv 4) rfl)))))) (fun _ _ _ _ _ => pe_int)) (pe_lst pa_nil) (nomark _)) (pss_cons (ps_expr (pe_bm PySem.F.plainAttrs_list PySem.F.slot_list_append PySem.F.type_list_append mt_append (pv 4) (pa_cons (pv 6) pa_nil))) (pss_one (ps_set (i := 5) sc_law_forced.nd rfl (Or.inl rfl) pe_bl))) pss_nil))))))) (pss_one (ps_ret (pv 4))))))), ?_⟩
    have lx : xs.length = gs.length := Paired.length rg
    have ly : ys.length = al.length := Paired.length rl
    refine ⟨_, rfl, l, ns, rfl, hl, ok, pr, fun Ev H1 e1 nEv ⟨es, hE, re⟩ => ?_⟩
    have lE : es.length = (allS ns).length := Paired.length re
    have lA : (allS ns).length ≤ 300 := by have := allS_len ok.one; omega
    dsimp only [gName]
    refine ⟨_, rfl, g, xs, rfl, .inl (SqL.of (e1 _ _ hg)), fun D hD => ?_⟩
    generalize hG2 : upd H1 D _ = H2
    have e2 := exG hG2 hD
    have hD2 := atG hG2
    clear hG2
    have nD : H D = none := Evl.fresh_back e1 hD
    dsimp only [gName]
    have tl : ∀ {tss : List (List Int)}, tss.Nodup → (∀ x ∈ tss, Fo ns (· ∈ gs) (· ∈ al) x) → tss.length ≤ 600 := fun {tss} n f => by
      refine Nat.le_trans (n.length_le_of_subset (l₂ := gs ++ al) fun x hx => ?_) (by rw [List.length_append]; omega)
      rcases (f x hx).in with z | z
      · exact List.mem_append_left _ z
      · exact List.mem_append_right _ z
    have ts : ∀ {tss : List (List Int)}, (∀ x ∈ tss, Fo ns (· ∈ gs) (· ∈ al) x) → ∀ x ∈ tss, SeatOk ns x := fun f x hx => (f x hx).in.elim (sg x) (sa x)
    have rg1 : RowsR H2 xs gs := (rg.mono e1).mono e2
    refine ⟨fun m σ Hx => ∃ (tss : List (List Int)) (b : Bool) (y6 y7 : Option V), σ = [some (.ref l), some (.ref g), some (.ref B), some (.ref Ev), some (.ref D), some (.bl b), y6, y7, none, none, none, none] ∧ Ex H1 Hx ∧ RowsAt Hx D tss ∧ tss.Nodup ∧ (∀ x ∈ gs, x ∈ tss) ∧ (∀ x ∈ tss, Fo ns (· ∈ gs) (· ∈ al) x) ∧ (b = false → ∀ s ∈ al, s ∉ tss → ∀ o ∈ tss, mirL ns s o ∉ tss) ∧ 2 * lackN al tss + (if b = true then 1 else 0) < m,
      ⟨2 * lackN al gs + 2, gs, true, none, none, rfl, e2, ⟨_, hD2, rg1⟩, ngs, fun _ h => h, fun x hx => .goal hx, (fun z => nomatch z), by rw [if_pos rfl]; omega⟩, ?_⟩
    rintro m σ Hx ⟨tss, b, y6, y7, rfl, ex, hb, tnod, tgs, tfo, tcl, tm⟩
    cases b with
    | false =>
      refine ⟨_, rfl, _, rfl, itf rfl ⟨_, rfl, k D Hx tss (ext e1 ex) nD hb (fun x => ⟨tfo x, fun h => h.mem tgs (tcl rfl)⟩) (tl tnod tfo)⟩⟩
    | true =>
      refine ⟨_, rfl, _, rfl, itt rfl ⟨_, fun _ _ h => h, ?_⟩⟩
      dsimp only [gName]
      rw [if_pos rfl] at tm
      have hBx := ex _ _ (e1 _ _ hB)
      have rlx := (rl.mono e1).mono ex
      refine ⟨_, rfl, B, rfl, ⟨_, SqL.of hBx⟩, fun M hM => ?_⟩
      refine lc_filt (walk_list (xs := ys)) (ys.zip al) (fun z => decide (z.2 ∉ tss)) (fun z => z.1) (by rw [List.length_zip]; omega) (by omega) hM (fun Hy ey => SqL.of (ey _ _ hBx)) ?_ ?_
      · rintro i x ⟨z1, z2⟩ _ Hy R S hz ey ⟨rfl, hx⟩ kR kS
        obtain ⟨hz1, hz2⟩ := zip_at2 hz
        obtain ⟨p, r, hp, rfl, hr2⟩ := rlx.get hx
        obtain rfl : p = z2 := Option.some.inj (hp.symm.trans hz2)
        obtain rfl : V.ref r = z1 := Option.some.inj (hx.symm.trans hz1)
        refine ⟨rfl, _, rfl, _, rfl, notin_lst (ey _ _ hr2) (hb.mono ey) ⟨_, rfl, ?_⟩⟩
        by_cases c : p ∈ tss
        · exact itf (by rw [decide_eq_true c]; rfl) (kS _ exr (decide_eq_false (not_not_intro c)))
        · exact itt (by rw [decide_eq_false c]; rfl) ⟨_, rfl, kR _ _ exr (decide_eq_true c) rfl⟩
      intro H3 e3 hM3
      have rm : RowsR H3 (((ys.zip al).filter fun z => decide (z.2 ∉ tss)).map fun z => z.1) (al.filter fun q => decide (q ∉ tss)) := RowsR.filt (fun q => decide (q ∉ tss)) (rlx.mono e3)
      have mmi : ∀ q, q ∈ (al.filter fun q => decide (q ∉ tss)) ↔ q ∈ al ∧ q ∉ tss := fun q => by rw [List.mem_filter, decide_eq_true_eq]
      have nmi : (al.filter fun q => decide (q ∉ tss)).Nodup := nal.filter _
      generalize (((ys.zip al).filter fun z => decide (z.2 ∉ tss)).map fun z => z.1) = zs at hM3 rm
      generalize (al.filter fun q => decide (q ∉ tss)) = mi at rm mmi nmi
      have lz : zs.length = mi.length := Paired.length rm
      have nMD : M ≠ D := by
        obtain ⟨ws, h1, _⟩ := hb
        exact (ne_of_none h1 hM).symm
      refine ⟨M, rfl, ⟨_, SqL.of hM3⟩, ?_⟩
      refine for_it (walk_list (xs := zs)) (fun i σ Hy => ∃ (us : List (List Int)) (b : Bool) (y6 y7 : Option V), σ = [some (.ref l), some (.ref g), some (.ref B), some (.ref Ev), some (.ref D), some (.bl b), y6, y7, none, none, none, none] ∧ XB D H3 Hy ∧ RowsAt Hy D us ∧ us.Nodup ∧ (∀ x ∈ gs, x ∈ us) ∧ (∀ x ∈ us, Fo ns (· ∈ gs) (· ∈ al) x) ∧ (∀ x ∈ us, x ∈ tss ∨ x ∈ mi.take i) ∧ ((b = false ∧ us = tss ∧ ∀ s ∈ mi.take i, ∀ o ∈ tss, mirL ns s o ∉ tss) ∨ (b = true ∧ lackN al us < lackN al tss)))
        ⟨tss, false, y6, y7, rfl, XB.refl, hb.mono e3, tnod, tgs, tfo, fun x hx => .inl hx, .inl ⟨rfl, rfl, fun s hs => by simp at hs⟩⟩ (fun i σ Hy _ ⟨_, _, _, _, _, xb, _⟩ => SqL.of (xb _ _ nMD hM3)) ?_ ?_
      · rintro i x σ _ Hy hi ⟨us, b, y6, y7, rfl, xb, hu, unod, ugs, ufo, usb, ucl⟩ ⟨rfl, hx⟩
        obtain ⟨p, r, hp, rfl, hr2⟩ := rm.get hx
        have pm := (mmi p).mp (List.mem_of_getElem? hp)
        have skp := sa p pm.1
        have npu : p ∉ us := fun z => (usb p z).elim pm.2 (nodup_take nmi hp)
        dsimp only [gName]
        obtain ⟨wsD, hDy, rDy⟩ := id hu
        obtain ⟨ws3, hD3, _⟩ := hb.mono e3
        have xt : ∀ c ys, H3 c = some (.tup ys) → Hy c = some (.tup ys) := fun c ys z => xb c _ (ne_of z hD3 (by intro z; cases z)) z
        have hry := xt _ _ hr2
        have E3 := ext (ext e1 ex) e3
        have hly : Hy l = some (.lst (ns.map V.int)) := xb _ _ (ne_of_none hl nD) (E3 _ _ hl)
        have hEy : Hy Ev = some (.lst es) := xb _ _ (ne_of_none hE hD) (e3 _ _ (ex _ _ hE))
        have rey : RowsR Hy es (allS ns) := ((re.mono ex).mono e3).monoT xt
        -- both
        refine ⟨_, rfl, Ev, rfl, ⟨_, SqL.of hEy⟩, fun W hW => ?_⟩
        refine lc_newG (D := W) (PdRows W) pdrows_mono (walk_list (xs := es)) ((allS ns).map fun h => [shiftL ns p h 1, shiftL ns p h (-1)]) (fun _ => true) (by rw [List.length_map, lE]) (by omega) hW (fun Hz ez => SqL.of (ez _ _ hEy)) ?_ ?_
        · rintro j x row Hz _ R S hrow ez ⟨wz, hWz⟩ ⟨rfl, hx⟩ kR kS
          obtain ⟨h, rh, hh, rfl, hrh⟩ := (rey.mono ez).get hx
          have soh := mem_allS.mp (List.mem_of_getElem? hh)
          rw [List.getElem?_map, hh] at hrow
          obtain rfl := Option.some.inj hrow
          refine ⟨rfl, yesI ?_⟩
          refine ⟨_, rfl, slen rfl, ?_⟩
          (intro tp ntp; generalize hGtp : upd _ tp _ = Ha; have eHa := exG hGtp ntp; have htp := atG hGtp; clear hGtp)
          refine ⟨tp, rfl, ⟨_, SqT.of htp⟩, fun U hU => ?_⟩
          have Ea := ext ez eHa
          refine lc_new PdRow pdrow_mono (walk_tup (xs := [V.int 1, V.int (-1)])) [shiftL ns p h 1, shiftL ns p h (-1)] rfl (by decide) hU (fun Hw ew => SqT.of (ew _ _ htp)) ?_ gmono_name ?_
          · rintro q x a Hu Hw R2 ha ew ⟨rfl, hx⟩ kk
            obtain ⟨f, hf, rfl, rfl⟩ : ∃ f : Int, (f = 1 ∨ f = -1) ∧ x = .int f ∧ a = shiftL ns p h f := by
              match q, ha, hx with
              | 0, ha, hx => exact ⟨1, .inl rfl, (Option.some.inj hx).symm, (Option.some.inj ha).symm⟩
              | 1, ha, hx => exact ⟨-1, .inr rfl, (Option.some.inj hx).symm, (Option.some.inj ha).symm⟩
              | q + 2, ha, hx => cases hx
            exact ⟨rfl, _, rfl, _, rfl, _, rfl, _, rfl, l, r, rh, f, ns, p, h, rfl, ew _ _ (Ea _ _ hly), ok, ew _ _ (Ea _ _ hry), ew _ _ (eHa _ _ hrh), skp.len, soh.len, hf, fun H5 q e5 nq hq => kk _ _ e5 ⟨q, rfl, hq⟩⟩
          · intro Hw vs ew hUw pv
            have nUW : U ≠ W := (ne_of_none (eHa _ _ hWz) hU).symm
            exact kR _ _ (ext eHa ew) rfl ⟨U, rfl, nUW, vs, hUw, pv⟩
        intro H4 vs e4 hW4 pz
        rw [List.filter_eq_self.mpr (fun _ _ => rfl)] at pz
        have lvs : vs.length = (allS ns).length := by rw [Paired.length pz, List.length_map]
        dsimp only [gName]
        have hu4 : RowsAt H4 D us := hu.mono e4
        -- the test
        refine ⟨_, rfl, W, rfl, ⟨_, SqL.of hW4⟩, fun U hU => ?_⟩
        refine lc_filt (walk_list (xs := vs)) (allS ns) (fun h => decide (shiftL ns p h 1 ∈ us) && decide (shiftL ns p h (-1) ∈ us)) (fun _ => V.int 1) lvs.symm (by omega) hU (fun Hz ez => SqL.of (ez _ _ hW4)) ?_ ?_
        · rintro j x h _ Hz R S hh ez ⟨rfl, hx⟩ kR kS
          obtain ⟨row, hrow, ra, rfl, nra, zs2, hra, rrow⟩ := paired_get pz hx
          rw [List.getElem?_map, hh] at hrow
          obtain rfl := Option.some.inj hrow
          obtain ⟨r1, r2, rfl, hr1, hr22⟩ : ∃ r1 r2, zs2 = [.ref r1, .ref r2] ∧ H4 r1 = some (.tup ((shiftL ns p h 1).map V.int)) ∧ H4 r2 = some (.tup ((shiftL ns p h (-1)).map V.int)) := by
            cases rrow with
            | cons q t =>
              cases t with
              | cons q2 t2 =>
                cases t2
                obtain ⟨r1, rfl, g1⟩ := q
                obtain ⟨r2, rfl, g2⟩ := q2
                exact ⟨r1, r2, rfl, g1, g2⟩
          refine ⟨ra, _, rfl, SqL.of (ez _ _ hra), rfl, _, _, rfl, _, _, rfl, rfl, rfl, ?_⟩
          refine ⟨_, rfl, _, rfl, in_lst (ez _ _ hr1) (hu4.mono ez) ⟨_, rfl, ?_⟩⟩
          by_cases c1 : shiftL ns p h 1 ∈ us
          · refine itt (decide_eq_true c1) ⟨_, rfl, _, rfl, in_lst (ez _ _ hr22) (hu4.mono ez) ⟨_, rfl, ?_⟩⟩
            by_cases c2 : shiftL ns p h (-1) ∈ us
            · exact itt (decide_eq_true c2) (kR _ _ exr (by rw [decide_eq_true c1, decide_eq_true c2]; rfl) rfl)
            · exact itf (decide_eq_false c2) (kS _ exr (by rw [decide_eq_true c1, decide_eq_false c2]; rfl))
          · exact itf (decide_eq_false c1) (kS _ exr (by rw [decide_eq_false c1]; rfl))
        intro H5 e5 hU5
        refine ⟨slen rfl, ?_⟩
        (intro el nel; generalize hGel : upd _ el _ = H6; have eH6 := exG hGel nel; have hel := atG hGel; clear hGel)
        have mh : (allS ns).filter (fun h => decide (shiftL ns p h 1 ∈ us) && decide (shiftL ns p h (-1) ∈ us)) ≠ [] ↔ ∃ o ∈ us, mirL ns p o ∈ us := by
          rw [← hop_iff skp (ts ufo)]
          constructor
          · intro z
            obtain ⟨h, hh⟩ := List.exists_mem_of_ne_nil _ z
            obtain ⟨h1, h2⟩ := List.mem_filter.mp hh
            rw [Bool.and_eq_true, decide_eq_true_eq, decide_eq_true_eq] at h2
            exact ⟨h, h1, h2⟩
          · rintro ⟨h, h1, h2, h3⟩ z
            have : h ∈ (allS ns).filter (fun h => decide (shiftL ns p h 1 ∈ us) && decide (shiftL ns p h (-1) ∈ us)) := List.mem_filter.mpr ⟨h1, by rw [decide_eq_true h2, decide_eq_true h3]; rfl⟩
            rw [z] at this
            cases this
        generalize (allS ns).filter (fun h => decide (shiftL ns p h 1 ∈ us) && decide (shiftL ns p h (-1) ∈ us)) = fl at hU5 mh
        refine ⟨.list (fl.map fun _ => .int 1), .list [], .lst (SqL.of (eH6 _ _ hU5)) (ones_dp fl), .lst (SqL.of hel) .nil, (sh_list (n := 59) fun d hd => by
          obtain ⟨_, _, rfl⟩ := List.mem_map.mp hd
          exact sh_int 1).ok, (sh_list (n := 59) (ds := []) fun d hd => nomatch hd).ok, _, rfl, ?_⟩
        rw [DataIn.ne (ones_dp (K := K) (H := H6) fl)]
        have E36 := ext e4 (ext e5 eH6)
        have hu6 : RowsAt H6 D us := hu.mono E36
        have xb6 : XB D H3 H6 := xb.trans (XB.of E36)
        have tk1 : ∀ s ∈ mi.take (i + 1), s ∈ mi.take i ∨ s = p := fun s hs => by
          rw [take_more hp] at hs
          exact (List.mem_append.mp hs).imp id List.mem_singleton.mp
        have ptk : p ∈ mi.take (i + 1) := by
          rw [take_more hp]
          exact List.mem_append_right _ List.mem_cons_self
        have sub1 : ∀ s ∈ mi.take i, s ∈ mi.take (i + 1) := fun s hs => by
          rw [take_more hp]
          exact List.mem_append_left _ hs
        by_cases c : fl = []
        · subst c
          refine itf (by simp) ⟨us, b, _, _, rfl, xb6, hu6, unod, ugs, ufo, fun x hx => (usb x hx).imp id (sub1 x), ?_⟩
          have no : ∀ o ∈ us, mirL ns p o ∉ us := fun o ho z => mh.mpr ⟨o, ho, z⟩ rfl
          rcases ucl with ⟨u1, u2, u3⟩ | u
          · refine .inl ⟨u1, u2, fun s hs => ?_⟩
            rcases tk1 s hs with hs | rfl
            · exact u3 s hs
            · rw [u2] at no
              exact no
          · exact .inr u
        · refine itt (by simpa using c) ?_
          obtain ⟨o, ho, hm⟩ := mh.mp c
          obtain ⟨ws6, hD6, rD6⟩ := id hu6
          refine ⟨_, rfl, .inl ⟨rfl, _, SqL.of hD6⟩, _, rfl, D, ws6, _, rfl, rfl, hD6, ?_, ?_⟩
          · rw [Paired.length rD6]
            exact Nat.lt_of_le_of_lt (tl unod ufo) (by decide)
          have nu : (us ++ [p]).Nodup := List.nodup_append.mpr ⟨unod, by simp, fun x hx y hy => by rw [List.mem_singleton.mp hy]; rintro rfl; exact npu hx⟩
          refine ⟨us ++ [p], true, _, _, rfl, fun c u n z => ?_, ⟨_, upd_same, RowsR.snoc (tup_pshL hD6 (E36 _ _ hry)) (rD6.monoT fun c zs z => tup_pshL hD6 z)⟩, nu, fun x hx => List.mem_append_left _ (ugs x hx), fun x hx => ?_, fun x hx => ?_, .inr ⟨rfl, ?_⟩⟩
          · rw [upd_ne n]
            exact xb6 c u n z
          · rcases List.mem_append.mp hx with hx | hx
            · exact ufo x hx
            · rw [List.mem_singleton.mp hx]
              exact .step pm.1 (ufo o ho) (ufo _ hm)
          · rcases List.mem_append.mp hx with hx | hx
            · exact (usb x hx).imp id (sub1 x)
            · rw [List.mem_singleton.mp hx]
              exact .inr ptk
          · rcases ucl with ⟨_, rfl, _⟩ | ⟨_, u⟩
            · exact lack_snoc pm.1 npu
            · exact Nat.lt_trans (lack_snoc pm.1 npu) u
      · rintro σ Hy ⟨us, b, y6, y7, rfl, xb, hu, unod, ugs, ufo, usb, ucl⟩
        rw [List.take_of_length_le (by omega)] at ucl
        have ey : Ex H1 Hy := fun c u z => xb c u (ne_of_none z hD) (e3 _ _ (ex _ _ z))
        rcases ucl with ⟨rfl, rfl, u3⟩ | ⟨rfl, u⟩
        · exact ⟨2 * lackN al us + 1, by omega, us, false, y6, y7, rfl, ey, hu, unod, ugs, ufo, fun _ s hs ns1 => u3 s ((mmi s).mpr ⟨hs, ns1⟩), by simp⟩
        · exact ⟨2 * lackN al us + 2, by omega, us, true, y6, y7, rfl, ey, hu, unod, ugs, ufo, (fun z => nomatch z), by simp⟩
end

theorem put_any {v : Nat} {p : List Int} {fs : List (List Int × Nat)} (nod : (keysL fs).Nodup) : ∃ fs2, putK (fs.map entV) (entK p) (V.int (v : Int)) = fs2.map entV ∧ (keysL fs2).Nodup ∧ (∀ q ∈ keysL fs2, q = p ∨ q ∈ keysL fs) ∧ ∀ q, dep fs2 q = if q = p then some v else dep fs q := by
  by_cases c : p ∈ keysL fs
  · refine ⟨overD v [p] fs, put_over c, by rw [over_keys]; exact nod, fun q hq => .inr (by rw [over_keys] at hq; exact hq), fun q => ?_⟩
    rw [over_dep]
    by_cases e : q = p
    · subst e
      rw [if_pos rfl]
      have hs : (dep fs q).isSome = true := by rw [dep_isSome, decide_eq_true c]
      obtain ⟨d, hd⟩ := Option.isSome_iff_exists.mp hs
      rw [hd]
      simp
    · rw [if_neg e]
      cases dep fs q with
      | none => rfl
      | some d => simp [e]
  · refine ⟨fs ++ [(p, v)], ?_, ?_, fun q hq => ?_, fun q => ?_⟩
    · rw [putK_new _ (by rw [val_ent, dep_none c]; rfl), List.map_append]
      rfl
    · rw [keys_app]
      exact List.nodup_append.mpr ⟨nod, by simp [keysL], fun x hx y hy => by
        have : y = p := by simpa [keysL] using hy
        rw [this]
        rintro rfl
        exact c hx⟩
    · rw [keys_app] at hq
      rcases List.mem_append.mp hq with h | h
      · exact .inr h
      · exact .inl (by simpa [keysL] using h)
    · rw [dep_app]
      by_cases e : q = p
      · subst e
        rw [if_pos rfl, dep_none c]
        show dep [(q, v)] q = some v
        rw [dep_cons, if_pos rfl]
      · rw [if_neg e]
        cases hd : dep fs q with
        | some d => rfl
        | none =>
          show dep [(p, v)] q = none
          rw [dep_cons, if_neg (fun z => e z.symm)]
          rfl
theorem keys_len {fs : List (List Int × Nat)} {al : List (List Int)} (nod : (keysL fs).Nodup) (h : ∀ q v, dep fs q = some v → q ∈ al) : fs.length ≤ al.length := by
  have e : (keysL fs).length = fs.length := List.length_map _
  rw [← e]
  refine nod.length_le_of_subset fun q hq => ?_
  have hs : (dep fs q).isSome = true := by rw [dep_isSome, decide_eq_true hq]
  obtain ⟨d, hd⟩ := Option.isSome_iff_exists.mp hs
  exact h q d hd

/-- the outcomes of goals, beside them -/
def OutR (ns : List Int) (op : List (List Int)) (H : Hp) (zs : List V) (gs : List (List Int)) : Prop := Paired (fun x g => ∃ t r, x = V.ref t ∧ H t = some (.tup [.int (outF ns op g : Nat), .ref r]) ∧ H r = some (.tup (g.map V.int))) zs gs
theorem OutR.monoT {ns : List Int} {op : List (List Int)} {H H2 : Hp} {zs : List V} {gs : List (List Int)} (h : OutR ns op H zs gs) (e : ∀ c ys, H c = some (.tup ys) → H2 c = some (.tup ys)) : OutR ns op H2 zs gs := paired_mono (fun x g ⟨t, r, h1, h2, h3⟩ => ⟨t, r, h1, e _ _ h2, e _ _ h3⟩) h
section
variable {P : Program} {w : World} {K : PySem.W.Frag} {mg : Str → Option Value} {base : Heap}
/-- fewer than n unvisited seats -/
def sp_lfinN (P : Program) (w : World) (n : Nat) : Sp := fun vs H Q _ => ∃ (a o d : Addr) (ns : List Int) (op : List (List Int)) (xs : List NEnt), vs = [.ref a, .ref o, .ref d] ∧ H a = some (.lst (ns.map V.int)) ∧ SzOk ns ∧ prodL ns ≤ 300 ∧ KeyAt H o op ∧ op.Nodup ∧ (∀ g ∈ op, SeatOk ns g) ∧ (∃ p, SeatOk ns p ∧ p ∉ op) ∧ op.length < n ∧ op.length ≤ 100 ∧ ND P w H d xs ∧ KnOk H ns xs ∧ xs.length + bndN op.length ≤ 1000000 ∧
  ∀ r H2 xs2, XB d H H2 → ND P w H2 d xs2 → KnOk H2 ns xs2 → FinAt H2 r ns op → xs2.length ≤ xs.length + bndN op.length → (∀ x ∈ xs2, x ∈ xs ∨ (x.1.length ≤ op.length ∧ H x.2.2 = none)) → Q (.ref r) H2
theorem ok_lfinN (T : TX K mg) : ∀ n, FnOk P w K mg base CX0 (3 + n) T.f_law_final T.fd_law_final ["_law_dims_here", "_law_goals", "_law_known"] (sp_lfinN P w n)
  | 0 => fn_never fun vs H Q E h => by
    obtain ⟨_, _, _, _, _, _, _, _, _, _, _, _, _, _, h, _⟩ := h
    omega
  | n + 1 => by
    have IH := ok_lfinN T n
    refine T.F_law_final.ok sc_law_final (fun vs H Q E h => ?_) (fun cdv A outer s H vs Q E hr h => ?_)
    · obtain ⟨a, o, d, ns, op, xs, rfl, _⟩ := h
      rfl
    · obtain ⟨a, o, d, ns, op, xs, rfl, tab, ok, pr, hko, nod, sg, ⟨p0, sp0, np0⟩, ln, l100, nd, kno, lb, k⟩ := h
      refine ⟨_, (pss_cons (ps_if (pt_cmp (pc_nin (Nat.lt_of_le_of_lt (Nat.add_le_add_left (by decide : 9 ≤ 65) _) (u65 hr)) (pv 1) (pv 2))) (pss_one (ps_ret (pe_nget (Nat.lt_of_le_of_lt (Nat.add_le_add_left (by decide : 9 ≤ 65) _) (u65 hr)) (pv 2) (pv 1) (fun _ _ => rfl)))) pss_nil) (pss_cons (ps_setLc (own := [("_law_one", 11)]) (g := (gName 11)) (i := 3) rfl sc_law_final.nd rfl rfl (sw_true rfl rfl rfl (by decide +kernel)) (pi_list (pe_call (ok_law_spots T) (hr.mono (Nat.le_trans (by decide : 1 ≤ 3) (Nat.le_add_right _ n))) rfl T.m_law_spots T.F_law_spots.kp T.b_law_spots .nil pass0 (pa_cons (pv 0) pa_nil))) (blkOk_by (N := N_law_final) (sc := defScope s_law_final) (by decide +kernel)) (fun _ _ _ _ _ => (pg_name (i := 11) sc_law_final.nd rfl (Or.inl rfl))) (fun _ _ _ _ _ => (pts_one (pt_cmpR (r := rNotInQ K) (op_notInQ (u65 hr)) (pv 11) (pv 1) rfl))) (fun _ _ _ _ _ => (pv 11))) (pss_cons (ps_set (i := 4) sc_law_final.nd rfl (Or.inl rfl) (pe_lst pa_nil)) (pss_cons (ps_for PassesOwn.never rfl (pi_tup (pv 1)) (pg_name (i := 5) sc_law_final.nd rfl (Or.inr rfl)) (pss_cons (ps_set (i := 6) sc_law_final.nd rfl (Or.inl rfl) (pe_callTy call_tuple_of (by rfl) T.z_tuple (by decide +kernel) (pa_cons (pe_lc (own := [("_law_one", 11)]) (g := (gName 11)) rfl sc_law_final.nd (pi_tup (pv 1)) (blkOk_by (N := N_law_final) (sc := defScope s_law_final) (by decide +kernel)) (fun _ _ _ _ _ => (pg_name (i := 11) sc_law_final.nd rfl (Or.inl rfl))) (fun _ _ _ _ _ => (pts_one (pt_cmpR (r := rNeD K) (op_neD hr.units) (pv 11) (pv 5) (nomark _)))) (fun _ _ _ _ _ => (pv 11))) pa_nil))) (pss_one (ps_expr (pe_bm PySem.F.plainAttrs_list PySem.F.slot_list_append PySem.F.type_list_append mt_append (pv 4) (pa_cons (pe_tup (pa_cons (pe_dget (hu_of hr) (pe_call IH hr rfl T.m_law_final T.F_law_final.kp T.b_law_final .nil pass0 (pa_cons (pv 0) (pa_cons (pv 6) (pa_cons (pv 2) pa_nil)))) (pv 5) (fun _ _ => rfl)) (pa_cons (pv 5) pa_nil))) pa_nil)))))) (pss_cons (ps_set (i := 7) sc_law_final.nd rfl (Or.inl rfl) pe_dnewT) (pss_cons (ps_for PassesOwn.never rfl (pi_range1 rfl T.z_range (pa_cons (pe_callB call_len_seq (by rfl) T.z_len (by decide +kernel) (pa_cons (pv 1) pa_nil)) pa_nil)) (pg_name (i := 8) sc_law_final.nd rfl (Or.inr rfl)) (pss_cons (ps_setLc (own := [("_law_outcome", 12), ("_law_goal", 5)]) (g := (gTup K 2 (gCons (gName 12) (gCons (gName 5) gNil)))) (i := 9) rfl sc_law_final.nd rfl rfl (sw_true rfl rfl rfl (by decide +kernel)) (pi_list (pv 4)) (blkOk_by (N := N_law_final) (sc := defScope s_law_final) (by decide +kernel)) (fun _ _ _ _ _ => (pg_tup rfl (pgs_cons (pg_name (i := 12) sc_law_final.nd rfl (Or.inl rfl)) (pgs_cons (pg_name (i := 5) sc_law_final.nd rfl (Or.inl rfl)) pgs_nil)))) (fun _ _ _ _ _ => (pts_one (pt_cmpR op_le (pv 12) (pv 8) (nomark _)))) (fun _ _ _ _ _ => (pv 5))) (pss_one (ps_if (pt_cmpR (r := rNeD K) (op_neD hr.units) (pv 9) (pe_lst pa_nil) (nomark _)) (pss_one (ps_for PassesOwn.never rfl (pi_list (pe_call (ok_law_forced T) (hr.mono (Nat.le_trans (by decide : 2 ≤ 3) (Nat.le_add_right _ n))) rfl T.m_law_forced T.F_law_forced.kp T.b_law_forced .nil pass0 (pa_cons (pv 0) (pa_cons (pv 9) (pa_cons (pv 3) pa_nil))))) (pg_name (i := 10) sc_law_final.nd rfl (Or.inl rfl)) (pss_one (ps_if (PW.pt (pw_and (pt_cmpR (r := rNotInQ K) (op_notInQ (u65 hr)) (pv 10) (pv 1) rfl) (pw_and1 (pt_cmp (pc_dnotin (hu_of hr) (pv 10) (pv 7)))))) (pss_one (ps_dput (hu_of hr) (pv 7) (pv 10) (pv 8) (by rfl))) pss_nil)))) pss_nil)))) (pss_cons (ps_for PassesOwn.never rfl (pi_list (pv 3)) (pg_name (i := 10) sc_law_final.nd rfl (Or.inl rfl)) (pss_one (ps_dput (hu_of hr) (pv 7) (pv 10) (pe_dget2 (hu_of hr) (pv 7) (pv 10) (pe_callB call_len_seq (by rfl) T.z_len (by decide +kernel) (pa_cons (pv 1) pa_nil)) ⟨rfl, rfl, rfl, rfl⟩) (by rfl)))) (pss_cons (ps_nput (Nat.lt_of_le_of_lt (Nat.add_le_add_left (by decide : 9 ≤ 65) _) (u65 hr)) (pv 2) (pv 1) (pv 7) (by rfl)) (pss_one (ps_ret (pv 7))))))))))), ?_⟩
      refine ⟨_, rfl, _, rfl, d, o, xs, op, rfl, rfl, nd, hko, _, rfl, ?_⟩
      cases hlk : lkN xs op with
      | some r =>
        refine itt rfl ?_
        obtain ⟨b, hb⟩ := lkN_mem hlk
        exact ⟨_, rfl, _, rfl, d, o, xs, op, r, rfl, rfl, nd, hko, hlk, k r H xs XB.refl nd kno (kno _ hb) (Nat.le_add_right _ _) fun x hx => .inl hx⟩
      | none =>
        refine itf rfl ?_
        dsimp only [tNext]
        -- allowed
        refine ⟨_, rfl, a, ns, rfl, tab, ok, pr, fun sl H1 e1 nsl ⟨ys, hsl, rs⟩ => ⟨sl, rfl, ⟨_, SqL.of hsl⟩, fun L hL => ?_⟩⟩
        have ly : ys.length = (allS ns).length := Paired.length rs
        have lA : (allS ns).length ≤ 300 := by have := allS_len ok.one; omega
        refine lc_filt (walk_list (xs := ys)) (ys.zip (allS ns)) (fun z => decide (z.2 ∉ op)) (fun z => z.1) (by rw [List.length_zip]; omega) (by omega) hL (fun Hx ex => SqL.of (ex _ _ hsl)) ?_ ?_
        · rintro i x ⟨z1, z2⟩ _ Hx R S hz ex ⟨rfl, hx⟩ kR kS
          obtain ⟨hz1, hz2⟩ := zip_at2 hz
          obtain ⟨p, r, hp, rfl, hr2⟩ := rs.get hx
          obtain rfl : p = z2 := Option.some.inj (hp.symm.trans hz2)
          obtain rfl : V.ref r = z1 := Option.some.inj (hx.symm.trans hz1)
          refine ⟨rfl, _, rfl, _, rfl, notin_key (ex _ _ hr2) (hko.mono (ext e1 ex)) ⟨_, rfl, ?_⟩⟩
          by_cases c : p ∈ op
          · exact itf (by rw [decide_eq_true c]; rfl) (kS _ exr (decide_eq_false (not_not_intro c)))
          · exact itt (by rw [decide_eq_false c]; rfl) ⟨_, rfl, kR _ _ exr (decide_eq_true c) rfl⟩
        intro H2 e2 hL2
        have ra : RowsR H2 (((ys.zip (allS ns)).filter fun z => decide (z.2 ∉ op)).map fun z => z.1) ((allS ns).filter fun q => decide (q ∉ op)) := RowsR.filt (fun q => decide (q ∉ op)) (rs.mono e2)
        have mal : ∀ q, q ∈ (allS ns).filter (fun q => decide (q ∉ op)) ↔ SeatOk ns q ∧ q ∉ op := fun q => by rw [List.mem_filter, mem_allS, decide_eq_true_eq]
        have nal : ((allS ns).filter fun q => decide (q ∉ op)).Nodup := (allS_nodup ns).filter _
        have lal : ((allS ns).filter fun q => decide (q ∉ op)).length ≤ 300 := Nat.le_trans (List.length_filter_le _ _) lA
        generalize (((ys.zip (allS ns)).filter fun z => decide (z.2 ∉ op)).map fun z => z.1) = ls at hL2 ra
        generalize ((allS ns).filter fun q => decide (q ∉ op)) = al at ra mal nal lal
        have E2 := ext e1 e2
        have tab2 : H2 a = some (.lst (ns.map V.int)) := E2 _ _ tab
        have hko2 := hko.mono E2
        have nd2 := nd.ext E2
        have kno2 : KnOk H2 ns xs := kno.mono fun c ys z => E2 _ _ z
        clear hsl rs ly
        dsimp only [gName]
        -- outcomes
        refine ⟨slen rfl, ?_⟩
        (intro O nO; generalize hGO : upd _ O _ = H3; have eH3 := exG hGO nO; have hO := atG hGO; clear hGO)
        have nO2 : H2 O = none := nO
        have nd3 := nd2.ext eH3
        have kno3 : KnOk H3 ns xs := kno2.mono fun c ys z => eH3 _ _ z
        obtain ⟨rs, hrs, rr⟩ := hko2
        have lr : rs.length = op.length := Paired.length rr
        refine ⟨_, rfl, o, rfl, ⟨_, SqT.of (eH3 _ _ hrs)⟩, ?_⟩
        refine for_it (walk_tup (xs := rs)) (fun i σ Hx => ∃ (xs2 : List NEnt) (y5 y6 : Option V) (zs : List V), σ = [some (.ref a), some (.ref o), some (.ref d), some (.ref L), some (.ref O), y5, y6, none, none, none, none, none, none] ∧ XB d H2 Hx ∧ ND P w Hx d xs2 ∧ KnOk Hx ns xs2 ∧ Hx O = some (.lst zs) ∧ OutR ns op Hx zs (op.take i) ∧ xs2.length ≤ xs.length + i * bndN (op.length - 1) ∧ ∀ x ∈ xs2, x ∈ xs ∨ (x.1.length < op.length ∧ H x.2.2 = none))
          ⟨xs, _, _, [], rfl, XB.of eH3, nd3, kno3, hO, .nil, by omega, fun x hx => .inl hx⟩ (fun i σ Hx _ ⟨_, _, _, _, _, xb, _⟩ => SqT.of (nd_tup nd2.1 xb _ _ hrs)) ?_ ?_
        · rintro i x σ _ Hx hi ⟨xs2, y5, y6, os, rfl, xb, ndx, knx, hOx, ror, lnx, sbx⟩ ⟨rfl, hx⟩
          obtain ⟨g, r, hg, rfl, hr2⟩ := rr.get hx
          have gop : g ∈ op := List.mem_of_getElem? hg
          have hrx := nd_tup nd2.1 xb _ _ hrs
          have rrx := rr.monoT (nd_tup nd2.1 xb)
          have hgx := nd_tup nd2.1 xb _ _ hr2
          dsimp only [gName]
          refine ⟨_, rfl, o, rfl, ⟨_, SqT.of hrx⟩, fun M hM => ?_⟩
          refine lc_filt (walk_tup (xs := rs)) (rs.zip op) (fun z => decide (z.2 ≠ g)) (fun z => z.1) (by rw [List.length_zip]; omega) (by omega) hM (fun Hy ey => SqT.of (ey _ _ hrx)) ?_ ?_
          · rintro j x ⟨z1, z2⟩ _ Hy R S hz ey ⟨rfl, hx⟩ kR kS
            obtain ⟨hz1, hz2⟩ := zip_at2 hz
            obtain ⟨p, rp, hp, rfl, hrp⟩ := rrx.get hx
            obtain rfl : p = z2 := Option.some.inj (hp.symm.trans hz2)
            obtain rfl : V.ref rp = z1 := Option.some.inj (hx.symm.trans hz1)
            refine ⟨rfl, _, rfl, _, rfl, iT p, iT g, dp_ints (ey _ _ hrp), dp_ints (ey _ _ hgx), (sh_ints (n := 59) _).ok, (sh_ints (n := 59) _).ok, _, rfl, ?_⟩
            rw [eqv_ints]
            by_cases c : p = g
            · exact itf (by rw [decide_eq_true c]; rfl) (kS _ exr (decide_eq_false (not_not_intro c)))
            · exact itt (by rw [decide_eq_false c]; rfl) ⟨_, rfl, kR _ _ exr (decide_eq_true c) rfl⟩
          intro H4 e4 hM4
          have rm : RowsR H4 (((rs.zip op).filter fun z => decide (z.2 ≠ g)).map fun z => z.1) (lessG op g) := RowsR.filt (fun q => decide (q ≠ g)) (rrx.mono e4)
          generalize (((rs.zip op).filter fun z => decide (z.2 ≠ g)).map fun z => z.1) = ms at hM4 rm
          refine ⟨M, _, rfl, .inl ⟨SqL.of hM4, ?_⟩⟩
          (intro q nq; generalize hGq : upd _ q _ = H5; have eH5 := exG hGq nq; have hq := atG hGq; clear hGq)
          have E5 : Ex Hx H5 := ext e4 eH5
          have hq5 : KeyAt H5 q (lessG op g) := ⟨ms, hq, rm.mono eH5⟩
          dsimp only [gName]
          have ll := lessG_len nod gop
          have bl : bndN op.length = 1 + op.length * bndN (op.length - 1) := by
            have e : op.length = (op.length - 1) + 1 := by omega
            rw [e]
            rfl
          have eb : (lessG op g).length = op.length - 1 := by omega
          have b1 : (i + 1) * bndN (op.length - 1) ≤ op.length * bndN (op.length - 1) := Nat.mul_le_mul_right _ (by omega)
          rw [Nat.succ_mul] at b1
          have tab5 : H5 a = some (.lst (ns.map V.int)) := E5 _ _ (nd_lst nd2.1 xb tab2)
          refine ⟨_, rfl, .inl ⟨rfl, _, SqL.of (E5 _ _ hOx)⟩, _, rfl, _, rfl, _, rfl, a, q, d, ns, lessG op g, xs2, rfl, tab5, ok, pr, hq5, nod.filter _, fun z hz => sg z (mem_lessG.mp hz).1, ⟨p0, sp0, fun z => np0 (mem_lessG.mp z).1⟩, by omega, by omega, ndx.ext E5, knx.mono fun c ys z => E5 _ _ z, by rw [eb]; omega, fun fd H6 xs3 xb6 nd6 kn6 fin6 ln6 sb6 => ?_⟩
          have ndx5 := ndx.ext E5
          have xb26 : XB d H2 H6 := (xb.trans (XB.of E5)).trans xb6
          have hO6 : H6 O = some (.lst os) := nd_lst ndx5.1 xb6 (E5 _ _ hOx)
          have hr6 := nd_tup ndx5.1 xb6 _ _ (E5 _ _ hgx)
          have ro6 : OutR ns op H6 os (op.take i) := ror.monoT fun c ys z => nd_tup ndx5.1 xb6 _ _ (E5 _ _ z)
          obtain ⟨fs, hfs, hdep⟩ := fin6
          have hget : DGet H6 fd (.ref r) (some (V.int (outF ns op g : Nat))) := by
            have := cnt_get hfs hr6
            rw [hdep g (sg g gop) (fun z => (mem_lessG.mp z).2 rfl)] at this
            exact this
          refine ⟨_, rfl, fd, _, rfl, hget, _, rfl, slen rfl, ?_⟩
          (intro t nt; generalize hGt : upd _ t _ = H7; have eH7 := exG hGt nt; have ht := atG hGt; clear hGt)
          have hO7 := eH7 _ _ hO6
          refine ⟨O, os, _, rfl, rfl, hO7, ?_, ?_⟩
          · rw [Paired.length ror, List.length_take]
            exact Nat.lt_of_le_of_lt (show _ ≤ 100 by omega) (by decide)
          have tp8 : ∀ c zs, H7 c = some (.tup zs) → upd H7 O (.lst (os ++ [.ref t])) c = some (.tup zs) := fun c zs z => tup_pshL hO7 z
          have dt8 : ∀ c zs, H7 c = some (.dT zs) → upd H7 O (.lst (os ++ [.ref t])) c = some (.dT zs) := fun c zs z => by
            rw [upd_ne (ne_of z hO7 (by intro z; cases z))]
            exact z
          have nd7 := nd6.ext eH7
          refine ⟨xs3, _, _, os ++ [.ref t], rfl, fun c u n z => ?_, ⟨?_, fun z hz => (nd7.2 z hz).monoT tp8⟩, fun z hz => ((kn6 z hz).mono fun c ys z => eH7 _ _ z).mono dt8, upd_same, ?_, ?_, fun z hz => ?_⟩
          · rw [upd_ne (ne_of_none z nO2)]
            exact eH7 _ _ (xb26 c u n z)
          · rw [upd_ne (ne_of nd7.1 hO7 (by unfold NDo; intro z; cases z))]
            exact nd7.1
          · rw [take_more hg]
            exact paired_snoc ⟨t, r, rfl, tp8 _ _ ht, tp8 _ _ (eH7 _ _ hr6)⟩ (ro6.monoT fun c ys z => tp8 _ _ (eH7 _ _ z))
          · rw [eb] at ln6
            rw [Nat.succ_mul]
            omega
          · rcases sb6 z hz with hz | ⟨h1, h2⟩
            · exact sbx z hz
            · refine .inr ⟨by omega, ?_⟩
              have nzd : z.2.2 ≠ d := by
                intro e
                have := ndx5.1
                rw [← e, h2] at this
                cases this
              exact Evl.fresh_back E2 (xb.back nzd (Evl.fresh_back E5 h2))
        · rintro σ Hx ⟨xs2, y5, y6, os, rfl, xb, ndx, knx, hOx, ror, lnx, sbx⟩
          rw [show rs.length = op.length from lr, List.take_of_length_le (Nat.le_refl op.length)] at ror
          rw [show rs.length = op.length from lr] at lnx
          have hLx := nd_lst nd2.1 xb hL2
          have rax := ra.monoT (nd_tup nd2.1 xb)
          have hrx := nd_tup nd2.1 xb _ _ hrs
          have rrx := rr.monoT (nd_tup nd2.1 xb)
          have tabx := nd_lst nd2.1 xb tab2
          have lls : ls.length = al.length := Paired.length ra
          have los : os.length = op.length := Paired.length ror
          have kox : KeyAt Hx o op := ⟨rs, hrx, rrx⟩
          -- final
          (intro F nF; generalize hGF : upd _ F _ = Hf; have eHf := exG hGF nF; have hF := atG hGF; clear hGF)
          have nF : Hx F = none := nF
          have lop : ((rs.length : Nat) : Int) = (op.length : Int) := by rw [lr]
          refine ⟨_, rfl, o, rs, rfl, .inr (SqT.of (eHf _ _ hrx)), (rs.length : Int), rfl, by omega, by omega, ?_⟩
          refine for_it walk_range (fun b σ Hy => ∃ (fs : List (List Int × Nat)) (y8 y9 y10 : Option V), σ = [some (.ref a), some (.ref o), some (.ref d), some (.ref L), some (.ref O), y5, y6, some (.ref F), y8, y9, y10, none, none] ∧ Ex Hx Hy ∧ CntAt Hy F fs ∧ (keysL fs).Nodup ∧ (∀ q v, dep fs q = some v → q ∈ al ∧ v < b ∧ Fo ns (goodG ns op v) (allowA ns op) q ∧ ∀ b2, b2 < v → ¬ Fo ns (goodG ns op b2) (allowA ns op) q) ∧ (∀ q ∈ al, dep fs q = none → ∀ b2, b2 < b → ¬ Fo ns (goodG ns op b2) (allowA ns op) q))
            ⟨[], _, _, _, rfl, eHf, hF, List.nodup_nil, (fun q v z => nomatch z), fun q _ _ b2 z => by omega⟩ (fun b σ Hy _ _ => True.intro) ?_ ?_
          · rintro b x σ _ Hy hb ⟨fs, y8, y9, y10, rfl, ey, hFy, fnod, fa, fb⟩ ⟨rfl, hx⟩
            obtain rfl : x = .int (b : Int) := hx.trans (congrArg V.int (Int.zero_add _))
            dsimp only [gName]
            refine ⟨_, rfl, O, rfl, ⟨_, SqL.of (ey _ _ hOx)⟩, fun G hG => ?_⟩
            refine lc_newF PdRow pdrow_mono (walk_list (xs := os)) op (fun g => decide (outF ns op g ≤ b)) los.symm (by omega) hG (fun Hz ez => SqL.of (ez _ _ (ey _ _ hOx))) ?_ ?_
            · rintro j x g Hz _ R S hg ez ⟨rfl, hx⟩ kR kS
              obtain ⟨g2, hg2, t, r, rfl, ht, hrg⟩ := paired_get ror hx
              obtain rfl : g = g2 := Option.some.inj (hg.symm.trans hg2)
              refine ⟨t, _, rfl, SqT.of (ez _ _ (ey _ _ ht)), rfl, _, _, rfl, _, _, rfl, rfl, rfl, ?_⟩
              refine ⟨_, rfl, _, rfl, _, _, rfl, rfl, _, rfl, ?_⟩
              by_cases c : outF ns op g ≤ b
              · exact itt (decide_eq_true (by omega)) ⟨_, rfl, kR _ _ exr (decide_eq_true c) ⟨r, rfl, ez _ _ (ey _ _ hrg)⟩⟩
              · exact itf (decide_eq_false (by omega)) (kS _ exr (decide_eq_false c))
            intro H9 us e9 hG9 rg
            have rg : RowsR H9 us (op.filter fun g => decide (outF ns op g ≤ b)) := rg
            have mg2 : ∀ g, g ∈ (op.filter fun g => decide (outF ns op g ≤ b)) ↔ goodG ns op b g := fun g => by rw [List.mem_filter, decide_eq_true_eq]; rfl
            have ngs : (op.filter fun g => decide (outF ns op g ≤ b)).Nodup := nod.filter _
            have lgs : (op.filter fun g => decide (outF ns op g ≤ b)).length ≤ 100 := Nat.le_trans (List.length_filter_le _ _) l100
            generalize (op.filter fun g => decide (outF ns op g ≤ b)) = gs at rg mg2 ngs lgs
            dsimp only [gName]
            have E9 := ext ey e9
            have hF9 := hFy.mono e9
            have foB : ∀ (q : List Int), Fo ns (· ∈ gs) (· ∈ al) q ↔ Fo ns (goodG ns op b) (allowA ns op) q := fun q => ⟨fun z => z.congr (fun g hg => (mg2 g).mp hg) fun q hq => (mal q).mp hq, fun z => z.congr (fun g hg => (mg2 g).mpr hg) fun q hq => (mal q).mpr hq⟩
            have sucB : ∀ {q : List Int} {b2 : Nat}, (∀ b2, b2 < b → ¬ Fo ns (goodG ns op b2) (allowA ns op) q) → ¬ Fo ns (goodG ns op b) (allowA ns op) q → b2 < b + 1 → ¬ Fo ns (goodG ns op b2) (allowA ns op) q := fun {q b2} h1 h2 lt => by
              rcases Nat.lt_succ_iff_lt_or_eq.mp lt with h | h
              · exact h1 b2 h
              · rw [h]
                exact h2
            refine ⟨_, rfl, slen rfl, ?_⟩
            (intro el nel; generalize hGel : upd _ el _ = Ha; have eHa := exG hGel nel; have hel := atG hGel; clear hGel)
            refine ⟨.list (gs.map iT), .list [], .lst (SqL.of (eHa _ _ hG9)) (rg.mono eHa).dp, .lst (SqL.of hel) .nil, (sh_rows (n := 58) gs).ok, (sh_rows (n := 58) []).ok, _, rfl, ?_⟩
            have Ea := ext E9 eHa
            have hFa := hF9.mono eHa
            by_cases c : gs = []
            · refine itf (by rw [c]; rfl) ⟨fs, _, _, _, rfl, Ea, hFa, fnod, fun q v hv => ?_, fun q hq hn b2 lt => sucB (fb q hq hn) (fun z => ?_) lt⟩
              · obtain ⟨h1, h2, h3⟩ := fa q v hv
                exact ⟨h1, by omega, h3⟩
              · obtain ⟨g, hg⟩ := ((foB q).mpr z).some
                rw [c] at hg
                cases hg
            refine itt (eqv_ne' c) ?_
            refine ⟨_, rfl, _, rfl, _, rfl, a, G, L, ns, gs, al, rfl, Ea _ _ tabx, ok, pr, ⟨us, eHa _ _ hG9, rg.mono eHa⟩, ⟨ls, Ea _ _ hLx, rax.mono Ea⟩, ngs, by omega, nal, lal, fun g hg => sg g ((mg2 g).mp hg).1, fun q hq => ((mal q).mp hq).1, fun R Hb tss eb nR ⟨ts, hR, rt⟩ mem lts => ⟨R, rfl, ⟨_, SqL.of hR⟩, ?_⟩⟩
            have Eb := ext Ea eb
            have hFb := hFa.mono eb
            have nRF : R ≠ F := (ne_of_none hFa nR).symm
            have lt2 : ts.length = tss.length := Paired.length rt
            refine for_it (walk_list (xs := ts)) (fun j σ Hz => ∃ (fs : List (List Int × Nat)) (y10 : Option V), σ = [some (.ref a), some (.ref o), some (.ref d), some (.ref L), some (.ref O), y5, y6, some (.ref F), some (.int (b : Int)), some (.ref G), y10, none, none] ∧ XB F Hb Hz ∧ CntAt Hz F fs ∧ (keysL fs).Nodup ∧ (∀ q v, dep fs q = some v → q ∈ al ∧ v < b + 1 ∧ Fo ns (goodG ns op v) (allowA ns op) q ∧ ∀ b2, b2 < v → ¬ Fo ns (goodG ns op b2) (allowA ns op) q) ∧ (∀ q ∈ al, dep fs q = none → (∀ b2, b2 < b → ¬ Fo ns (goodG ns op b2) (allowA ns op) q) ∧ q ∉ tss.take j))
              ⟨fs, _, rfl, XB.refl, hFb, fnod, fun q v hv => (by obtain ⟨h1, h2, h3⟩ := fa q v hv; exact ⟨h1, by omega, h3⟩), fun q hq hn => ⟨fb q hq hn, by simp⟩⟩ (fun j σ Hz _ ⟨_, _, _, xb, _⟩ => SqL.of (xb _ _ nRF hR)) ?_ ?_
            · rintro j x σ _ Hz hj ⟨fs, y10, rfl, xbF, hFz, fnod, fa, fb⟩ ⟨rfl, hx⟩
              obtain ⟨p, r, hp, rfl, hr2⟩ := rt.get hx
              have xt : ∀ c ys, Hb c = some (.tup ys) → Hz c = some (.tup ys) := fun c ys z => xbF c _ (ne_of z hFb (by intro z; cases z)) z
              have hrz := xt _ _ hr2
              have koz : KeyAt Hz o op := (kox.mono Eb).monoT xt
              have stay : (p ∈ al → ∃ v, dep fs p = some v) → ∀ q ∈ al, dep fs q = none → (∀ b2, b2 < b → ¬ Fo ns (goodG ns op b2) (allowA ns op) q) ∧ q ∉ tss.take (j + 1) := fun h q hq hn => ⟨(fb q hq hn).1, fun z => by
                rw [take_more hp] at z
                rcases List.mem_append.mp z with z | z
                · exact (fb q hq hn).2 z
                · obtain ⟨v, hv⟩ := h (List.mem_singleton.mp z ▸ hq)
                  rw [List.mem_singleton.mp z, hv] at hn
                  cases hn⟩
              refine ⟨_, rfl, _, rfl, notin_key hrz koz ⟨_, rfl, ?_⟩⟩
              by_cases c1 : p ∈ op
              · exact itf (by rw [decide_eq_true c1]; rfl) ⟨fs, _, rfl, xbF, hFz, fnod, fa, stay fun z => absurd c1 ((mal p).mp z).2⟩
              refine itt (by rw [decide_eq_false c1]; rfl) ⟨_, rfl, _, rfl, F, _, rfl, cnt_get hFz hrz, _, rfl, ?_⟩
              rw [Option.isSome_map]
              cases hd : dep fs p with
              | some v =>
                exact itf rfl ⟨fs, _, rfl, xbF, hFz, fnod, fa, stay fun z => ⟨v, hd⟩⟩
              | none =>
                refine itt rfl ?_
                have fp := (mem p).mp (List.mem_of_getElem? hp)
                have pal : p ∈ al := (fp.in).elim (fun z => absurd ((mg2 p).mp z).1 c1) id
                obtain ⟨fs2, ef, nod2, _, dp2⟩ := put_any (v := b) (p := p) fnod
                refine ⟨_, rfl, _, rfl, _, rfl, F, _, rfl, DPut.t (k := entK p) hFz (by rw [entK_kV]; exact hrz) ?_, ?_⟩
                · rw [List.length_map]
                  have := keys_len fnod fun q v hv => (fa q v hv).1
                  exact Nat.lt_of_le_of_lt (show _ ≤ 300 by omega) (by decide)
                rw [ef]
                refine ⟨fs2, _, rfl, fun c u n z => ?_, upd_same, nod2, fun q v hv => ?_, fun q hq hn => ?_⟩
                · rw [upd_ne n]
                  exact xbF c u n z
                · rw [dp2] at hv
                  by_cases e : q = p
                  · rw [if_pos e] at hv
                    obtain rfl := Option.some.inj hv
                    subst e
                    exact ⟨pal, by omega, (foB q).mp fp, (fb q pal hd).1⟩
                  · rw [if_neg e] at hv
                    exact fa q v hv
                · rw [dp2] at hn
                  by_cases e : q = p
                  · rw [if_pos e] at hn
                    cases hn
                  · rw [if_neg e] at hn
                    refine ⟨(fb q hq hn).1, fun z => ?_⟩
                    rw [take_more hp] at z
                    rcases List.mem_append.mp z with z | z
                    · exact (fb q hq hn).2 z
                    · exact e (List.mem_singleton.mp z)
            · rintro σ Hz ⟨fs, y10, rfl, xbF, hFz, fnod, fa, fb⟩
              rw [show ts.length = tss.length from lt2, List.take_of_length_le (Nat.le_refl _)] at fb
              refine ⟨fs, _, _, _, rfl, fun c u z => xbF c u (ne_of_none z nF) (Eb _ _ z), hFz, fnod, fa, fun q hq hn b2 lt => sucB (fb q hq hn).1 (fun z => (fb q hq hn).2 ((mem q).mpr ((foB q).mpr z))) lt⟩
          · rintro σ Hy ⟨fs, y8, y9, y10, rfl, ey, hFy, fnod, fa, fb⟩
            rw [show ((rs.length : Nat) : Int).toNat = op.length by omega] at fa fb
            have val0 : ∀ q ∈ al, (dep fs q).getD op.length = finF ns op q := fun q hq => by
              rw [finF_eq nod]
              cases hd : dep fs q with
              | some v =>
                obtain ⟨_, h2, h3, h4⟩ := fa q v hd
                exact (leastB_is h2 h3 h4).symm
              | none => exact (leastB_no (fb q hq hd)).symm
            have ka : ∀ q ∈ keysL fs, q ∈ al := fun q hq => by
              have hs : (dep fs q).isSome = true := by rw [dep_isSome, decide_eq_true hq]
              obtain ⟨v, hv⟩ := Option.isSome_iff_exists.mp hs
              exact (fa q v hv).1
            refine ⟨_, rfl, L, rfl, ⟨_, SqL.of (ey _ _ hLx)⟩, ?_⟩
            refine for_it (walk_list (xs := ls)) (fun i σ Hz => ∃ (fs : List (List Int × Nat)) (y10 : Option V), σ = [some (.ref a), some (.ref o), some (.ref d), some (.ref L), some (.ref O), y5, y6, some (.ref F), y8, y9, y10, none, none] ∧ Ex Hx Hz ∧ CntAt Hz F fs ∧ (keysL fs).Nodup ∧ (∀ q ∈ keysL fs, q ∈ al) ∧ (∀ q ∈ al.take i, dep fs q = some (finF ns op q)) ∧ ∀ q ∈ al, (dep fs q).getD op.length = finF ns op q)
              ⟨fs, _, rfl, ey, hFy, fnod, ka, fun q hq => by simp at hq, val0⟩ (fun i σ Hz _ ⟨_, _, _, e, _⟩ => SqL.of (e _ _ hLx)) ?_ ?_
            · rintro i x σ _ Hz hi ⟨fs, y10, rfl, ez, hFz, fnod, ka, fa, fb⟩ ⟨rfl, hx⟩
              obtain ⟨p, r, hp, rfl, hr2⟩ := rax.get hx
              have hrz := ez _ _ hr2
              have pal : p ∈ al := List.mem_of_getElem? hp
              dsimp only [gName]
              refine ⟨_, rfl, F, rfl, .inr ⟨_, .inl hFz⟩, _, rfl, _, rfl, o, rs, rfl, .inr (SqT.of (ez _ _ hrx)), _, cnt_get hFz hrz, ?_⟩
              rw [getD_int, show rs.length = op.length from lr, fb p pal]
              obtain ⟨fs2, ef, nod2, k2, dp2⟩ := put_any (v := finF ns op p) (p := p) fnod
              refine ⟨_, rfl, _, rfl, F, _, rfl, DPut.t (k := entK p) hFz (by rw [entK_kV]; exact hrz) ?_, ?_⟩
              · rw [List.length_map]
                have e : (keysL fs).length = fs.length := List.length_map _
                have := fnod.length_le_of_subset (l₂ := al) ka
                exact Nat.lt_of_le_of_lt (show _ ≤ 300 by omega) (by decide)
              rw [ef]
              refine ⟨fs2, _, rfl, fun c u z => ?_, upd_same, nod2, fun q hq => ?_, fun q hq => ?_, fun q hq => ?_⟩
              · rw [upd_ne (ne_of_none z nF)]
                exact ez c u z
              · rcases k2 q hq with rfl | h
                · exact pal
                · exact ka q h
              · rw [dp2]
                by_cases e : q = p
                · rw [if_pos e, e]
                · rw [if_neg e]
                  rw [take_more hp] at hq
                  rcases List.mem_append.mp hq with hq | hq
                  · exact fa q hq
                  · exact absurd (List.mem_singleton.mp hq) e
              · rw [dp2]
                by_cases e : q = p
                · rw [if_pos e, e]
                  rfl
                · rw [if_neg e]
                  exact fb q hq
            · rintro σ Hz ⟨fs, y10, rfl, ez, hFz, fnod, ka, fa, fb⟩
              rw [show ls.length = al.length from lls, List.take_of_length_le (Nat.le_refl _)] at fa
              have ndz := ndx.ext ez
              have koz := kox.mono ez
              have lkn : lkN xs2 op = none := lkN_none.mpr fun z => by
                obtain ⟨x, hx, ex⟩ := List.mem_map.mp z
                rcases sbx x hx with hx | hx
                · exact lkN_none.mp hlk (List.mem_map.mpr ⟨x, hx, ex⟩)
                · rw [ex] at hx
                  exact absurd hx.1 (Nat.lt_irrefl _)
              have fin : FinAt Hz F ns op := ⟨fs, hFz, fun q sq nq => fa q ((mal q).mpr ⟨sq, nq⟩)⟩
              have bl : xs2.length + 1 ≤ xs.length + bndN op.length := by
                cases ho : op.length with
                | zero =>
                  rw [ho] at lnx
                  show _ ≤ _ + 1
                  omega
                | succ m =>
                  rw [ho] at lnx
                  show _ ≤ _ + (1 + (m + 1) * bndN m)
                  simp only [Nat.add_sub_cancel] at lnx
                  omega
              refine ⟨_, rfl, _, rfl, _, rfl, d, o, F, xs2, op, rfl, rfl, rfl, ndz, koz, lkn, Nat.lt_of_le_of_lt (show _ ≤ 1000000 by omega) (by decide), ?_⟩
              generalize hGv : upd Hz d _ = Hv
              have hdv : Hv d = some (NDo P w d (xs2 ++ [(op, o, F)])) := by rw [← hGv]; exact upd_same
              have xv : ∀ c u, c ≠ d → Hz c = some u → Hv c = some u := fun c u n z => by
                rw [← hGv, upd_ne n]
                exact z
              have dtv : ∀ c ys, Hz c = some (.dT ys) → Hv c = some (.dT ys) := fun c ys z => xv c _ (ne_of z ndz.1 (by unfold NDo; intro z; cases z)) z
              have tpv : ∀ c ys, Hz c = some (.tup ys) → Hv c = some (.tup ys) := fun c ys z => xv c _ (ne_of z ndz.1 NDo_tup) z
              have nFd : d ≠ F := ne_of ndz.1 hFz (by unfold NDo; intro z; cases z)
              refine ⟨_, rfl, k F Hv (xs2 ++ [(op, o, F)]) (fun c u n z => xv c u n (ez _ _ (xb c u n (E2 _ _ z)))) ⟨hdv, fun z hz => ?_⟩ (fun z hz => ?_) (fin.mono dtv) (by rw [List.length_append]; exact bl) fun z hz => ?_⟩
              · rcases List.mem_append.mp hz with hz | hz
                · exact (ndz.2 z hz).monoT tpv
                · rw [List.mem_singleton.mp hz]
                  exact koz.monoT tpv
              · rcases List.mem_append.mp hz with hz | hz
                · exact (knx z hz).mono fun c ys h => dtv _ _ (ez _ _ h)
                · rw [List.mem_singleton.mp hz]
                  exact fin.mono dtv
              · rcases List.mem_append.mp hz with hz | hz
                · rcases sbx z hz with hz | hz
                  · exact .inl hz
                  · exact .inr ⟨Nat.le_of_lt hz.1, hz.2⟩
                · rw [List.mem_singleton.mp hz]
                  refine .inr ⟨Nat.le_refl _, Evl.fresh_back E2 (xb.back nFd.symm nF)⟩
end
section
variable {P : Program} {w : World} {K : PySem.W.Frag} {mg : Str → Option Value} {base : Heap}
def sp_law_final (P : Program) (w : World) : Sp := sp_lfinN P w 10
theorem ok_law_final (T : TX K mg) : FnOk P w K mg base CX0 13 T.f_law_final T.fd_law_final ["_law_dims_here", "_law_goals", "_law_known"] (sp_law_final P w) := ok_lfinN T 10
end

/-- all seats stand in order -/
theorem lt_app {a b : List Int} (x y : List Int) (l : a.length = b.length) (h : a < b) : a ++ x < b ++ y := by
  induction a generalizing b with
  | nil =>
    cases b with
    | nil => exact absurd h (List.lt_irrefl _)
    | cons => cases l
  | cons c a ih =>
    cases b with
    | nil => cases l
    | cons d b =>
      rw [List.cons_append, List.cons_append, List.cons_lt_cons_iff]
      rcases List.cons_lt_cons_iff.mp h with h | ⟨h1, h2⟩
      · exact .inl h
      · exact .inr ⟨h1, ih (by simpa using l) h2⟩
theorem app_lt {x y : List Int} (h : x < y) : ∀ a : List Int, a ++ x < a ++ y
  | [] => h
  | c :: a => by
    rw [List.cons_append, List.cons_append, List.cons_lt_cons_iff]
    exact .inr ⟨rfl, app_lt h a⟩
theorem crossS_lt {hss : List (List Int)} {k : Nat} (n : Int) (len : ∀ h ∈ hss, h.length = k) (h : hss.Pairwise (· < ·)) : (crossS hss n).Pairwise (· < ·) := by
  unfold crossS
  rw [List.pairwise_flatMap]
  constructor
  · intro hs _
    rw [List.pairwise_map]
    refine List.Pairwise.imp (fun {a b} z => app_lt ?_ hs) List.pairwise_lt_range
    rw [List.cons_lt_cons_iff]
    exact .inl (by omega)
  · refine List.Pairwise.imp_of_mem (fun {a b} ha hb z x hx y hy => ?_) h
    obtain ⟨i, _, rfl⟩ := List.mem_map.mp hx
    obtain ⟨j, _, rfl⟩ := List.mem_map.mp hy
    exact lt_app _ _ ((len a ha).trans (len b hb).symm) z
theorem foldS_lt : ∀ (ns : List Int) (hss : List (List Int)) (k : Nat), (∀ h ∈ hss, h.length = k) → hss.Pairwise (· < ·) → (ns.foldl crossS hss).Pairwise (· < ·)
  | [], _, _, _, h => h
  | n :: ns, hss, k, len, h => by
    rw [List.foldl_cons]
    refine foldS_lt ns _ (k + 1) (fun x hx => ?_) (crossS_lt n len h)
    unfold crossS at hx
    obtain ⟨a, ha, hx⟩ := List.mem_flatMap.mp hx
    obtain ⟨i, _, rfl⟩ := List.mem_map.mp hx
    rw [List.length_append, len a ha]
    rfl
theorem allS_lt (ns : List Int) : (allS ns).Pairwise (· < ·) := foldS_lt ns [[]] 0 (fun h hh => by rw [List.mem_singleton.mp hh]; rfl) (List.pairwise_singleton _ _)

theorem mul_le_of_mem {ns : List Int} (h : ∀ n ∈ ns, 1 ≤ n) {n : Int} (hn : n ∈ ns) : n ≤ prodL ns := by
  obtain ⟨i, hi⟩ := List.mem_iff_getElem?.mp hn
  exact mul_le_prod h hi
theorem paired_perm {α β : Type} {R : α → β → Prop} {xs ys : List α} (p : ys.Perm xs) : ∀ {as : List β}, Paired R xs as → ∃ bs, Paired R ys bs ∧ bs.Perm as := by
  induction p with
  | nil => exact fun h => ⟨_, h, .refl _⟩
  | cons x _ ih =>
    intro as h
    cases h with
    | cons q t =>
      obtain ⟨bs, h1, h2⟩ := ih t
      exact ⟨_ :: bs, .cons q h1, h2.cons _⟩
  | swap x y l =>
    intro as h
    cases h with
    | cons q t =>
      cases t with
      | cons q2 t2 => exact ⟨_, .cons q2 (.cons q t2), List.Perm.swap _ _ _⟩
  | trans _ _ ih1 ih2 =>
    intro as h
    obtain ⟨bs, h1, h2⟩ := ih2 h
    obtain ⟨cs, h3, h4⟩ := ih1 h1
    exact ⟨cs, h3, h4.trans h2⟩
theorem paired_take {α β : Type} {R : α → β → Prop} : ∀ {xs : List α} {as : List β} (n : Nat), Paired R xs as → Paired R (xs.take n) (as.take n)
  | _, _, 0, _ => by simp only [List.take_zero]; exact .nil
  | _, _, _ + 1, .nil => .nil
  | _, _, n + 1, .cons q t => .cons q (paired_take n t)
theorem paired_drop {α β : Type} {R : α → β → Prop} : ∀ {xs : List α} {as : List β} (n : Nat), Paired R xs as → Paired R (xs.drop n) (as.drop n)
  | _, _, 0, h => h
  | _, _, _ + 1, .nil => .nil
  | _, _, n + 1, .cons _ t => paired_drop n t

theorem ltT_is (a b : List Int) : PySem.W.dataLt (iT a) (iT b) = decide (a < b) := by
  show PySem.W.dataLt (.tuple (a.map .int)) (.tuple (b.map .int)) = _
  rw [PySem.W.dataLt_tuple]
  exact PySem.W.dataLt_ints a b
theorem leT_is (a b : List Int) : leT a b = decide (a ≤ b) := by
  show (!PySem.W.dataLt (iT b) (iT a)) = _
  rw [ltT_is]
  by_cases h : b < a
  · have h' : ¬ a ≤ b := fun r => List.not_lt.mpr r h
    simp [h, h']
  · have h' : a ≤ b := List.not_lt.mp h
    simp [h, h']
theorem leT_trans (a b c : List Int) (h1 : leT a b = true) (h2 : leT b c = true) : leT a c = true := by
  rw [leT_is] at *
  exact decide_eq_true (List.le_trans (of_decide_eq_true h1) (of_decide_eq_true h2))
theorem leT_total (a b : List Int) : (leT a b || leT b a) = true := by
  rw [leT_is, leT_is, Bool.or_eq_true, decide_eq_true_iff, decide_eq_true_iff]
  exact List.le_total a b
theorem leT_anti {a b : List Int} (h1 : leT a b = true) (h2 : leT b a = true) : a = b := by
  rw [leT_is] at *
  exact List.le_antisymm (of_decide_eq_true h1) (of_decide_eq_true h2)
theorem sortT_same {l m : List (List Int)} (h : l.Perm m) : l.mergeSort leT = m.mergeSort leT :=
  List.Perm.eq_of_pairwise (le := fun a b => leT a b = true) (fun a b _ _ h1 h2 => leT_anti h1 h2) (List.pairwise_mergeSort leT_trans leT_total l) (List.pairwise_mergeSort leT_trans leT_total m) (((List.mergeSort_perm l leT).trans h).trans (List.mergeSort_perm m leT).symm)
theorem sortT_id {l : List (List Int)} (h : l.Pairwise fun a b => leT a b = true) : l.mergeSort leT = l :=
  List.Perm.eq_of_pairwise (le := fun a b => leT a b = true) (fun a b _ _ h1 h2 => leT_anti h1 h2) (List.pairwise_mergeSort leT_trans leT_total l) h (List.mergeSort_perm l leT)
theorem rows_xb {s q : Addr} {H H2 : Hp} {tss : List (List Int)} (src : Src H s) (n : q ≠ s) (xb : XB s H H2) (h : RowsAt H q tss) : RowsAt H2 q tss := by
  obtain ⟨xs, h1, h2⟩ := h
  exact ⟨xs, xb _ _ n h1, h2.monoT fun _ _ z => tup_xb src z xb⟩
theorem allS_leT (ns : List Int) : (allS ns).Pairwise fun a b => leT a b = true := (allS_lt ns).imp fun {a b} h => by
  rw [leT_is]
  exact decide_eq_true (List.le_of_lt h)
theorem sort_all {ns : List Int} {tss : List (List Int)} (nod : tss.Nodup) (sks : ∀ t ∈ tss, SeatOk ns t) : tss.mergeSort leT = (allS ns).filter fun o => decide (o ∈ tss) := by
  have pm : tss.Perm ((allS ns).filter fun o => decide (o ∈ tss)) := (List.perm_ext_iff_of_nodup nod ((allS_nodup ns).filter _)).mpr fun o => by
    rw [List.mem_filter, mem_allS, decide_eq_true_iff]
    exact ⟨fun h => ⟨sks o h, h⟩, fun h => h.2⟩
  rw [sortT_same pm]
  exact sortT_id ((allS_leT ns).filter _)
/-- what is open, by the seats that are -/
theorem open_eq {ns spot : List Int} {been gs : List (List Int)} (h : ∀ o, SeatOk ns o → ((o ∉ been ∧ o ≠ spot) ↔ o ∈ gs)) : openL ns been spot = (allS ns).filter fun o => decide (o ∈ gs) := by
  unfold openL
  refine List.filter_congr fun o ho => ?_
  have := h o (mem_allS.mp ho)
  by_cases c : o ∈ gs
  · obtain ⟨h1, h2⟩ := this.mpr c
    rw [decide_eq_true h1, decide_eq_true h2, decide_eq_true c]
    rfl
  · rw [decide_eq_false c]
    by_cases c1 : o ∈ been
    · rw [decide_eq_false (not_not_intro c1)]
      rfl
    · by_cases c2 : o = spot
      · rw [decide_eq_false (not_not_intro c2), Bool.and_false]
      · exact absurd (this.mp ⟨c1, c2⟩) c
theorem filter_self {ns : List Int} {tss : List (List Int)} : (allS ns).filter (fun o => decide (o ∈ (allS ns).filter fun o => decide (o ∈ tss))) = (allS ns).filter fun o => decide (o ∈ tss) := by
  refine List.filter_congr fun o ho => ?_
  by_cases c : o ∈ tss
  · rw [decide_eq_true c]
    exact decide_eq_true (List.mem_filter.mpr ⟨ho, decide_eq_true c⟩)
  · rw [decide_eq_false c]
    exact decide_eq_false fun z => c (of_decide_eq_true (List.mem_filter.mp z).2)

theorem cut_map (ns : List Int) (lo hi : Option Int) : ∃ ms : List Int, cutV (ns.map V.int) lo hi = ms.map V.int := by
  refine ⟨(ns.drop (HT.sIx (ns.map V.int).length 0 lo)).take (HT.sIx (ns.map V.int).length (ns.map V.int).length hi - HT.sIx (ns.map V.int).length 0 lo), ?_⟩
  unfold cutV
  rw [List.map_take, List.map_drop]
theorem cut_len (xs : List V) (lo hi : Option Int) : (cutV xs lo hi).length ≤ xs.length := by
  unfold cutV
  rw [List.length_take, List.length_drop]
  omega
theorem last_int : ∀ (ns : List Int), ns ≠ [] → ∃ c : Int, atI (ns.map V.int) (-1) = some (.int c) := fun ns ne => by
  refine ⟨ns.getLast ne, ?_⟩
  have pos := List.length_pos_iff.mpr ne
  unfold atI ixN
  rw [if_neg (by decide), if_pos (by rw [List.length_map]; omega), List.length_map]
  have : ((-1 : Int) + ((ns.length : Nat) : Int)).toNat = ns.length - 1 := by omega
  show (ns.map V.int)[((-1 : Int) + ((ns.length : Nat) : Int)).toNat]? = _
  rw [this, List.getElem?_map, ← List.getLast?_eq_getElem?, List.getLast?_eq_some_getLast ne]
  rfl
theorem take_cut (xs : List V) {r : Int} (r0 : 0 ≤ r) : cutV xs none (some (1 + r)) = xs.take (1 + r).toNat := by
  have e : (1 + r) = (((1 + r).toNat : Nat) : Int) := by omega
  rw [e, cut_to]
  rfl
theorem two_kinds {r : Int} {a b : Addr} {xs : List V} {H : Hp} (r0 : 0 ≤ r) (r1 : r < 2) (ha : H a = some (.lst xs)) (hb : H b = some (.tup xs)) : ∃ q : Bool × Addr, atI [V.ref a, V.ref b] r = some (.ref q.2) ∧ SqH H q xs := by
  have : r = 0 ∨ r = 1 := by omega
  rcases this with rfl | rfl
  · exact ⟨(false, a), rfl, ha⟩
  · exact ⟨(true, b), rfl, hb⟩
theorem take_cutN (xs : List V) {m : Int} (r0 : 0 ≤ m) : cutV xs none (some m) = xs.take m.toNat := by
  have e : m = ((m.toNat : Nat) : Int) := by omega
  rw [e, cut_to]
  rfl

-- sorts
def dims4 : List (List Int) := [[8], [9], [3, 3], [2, 4]]
theorem dims4_ok : ∀ ns ∈ dims4, (ns ≠ [] ∧ ns.length ≤ 4 ∧ (∀ n ∈ ns, 1 ≤ n) ∧ prodL ns ≤ 9 ∧ 8 ≤ prodL ns) := by decide +kernel
section
variable {P : Program} {w : World} {K : PySem.W.Frag} {mg : Str → Option Value} {base : Heap}
def sp_law (K : PySem.W.Frag) : Sp := fun vs H Q _ => ∃ (a : Addr) (ns : List Int), vs = [.ref a] ∧ SqL K H a (ns.map V.int) ∧ ns.length ≤ 63 ∧ ∀ H2, Q (.bl true) H2
theorem ok_law (T : TX K mg) : FnOk P w K mg base CX0 16 T.f_law T.fd_law ["_law_script"] (sp_law K) := by
  refine T.F_law.ok sc_law (fun vs H Q E h => ?_) (fun cdv A outer s H vs Q E hr h => ?_)
  · obtain ⟨a, ns, rfl, _⟩ := h
    rfl
  · obtain ⟨a, ns, rfl, hS, hlen, k⟩ := h
    refine ⟨_, (pss_cons (ps_set (i := 1) sc_law.nd rfl (Or.inl rfl) (pe_call (ok_law_source T) (hr.mono (by decide)) rfl T.m_law_source T.F_law_source.kp T.b_law_source .nil pass0 (pa_cons (pe_ix ix_list (pe_op (r := rCatR K) op_catR (pe_lst (pa_cons pe_int pa_nil)) (pv 0)) (pe_un un_neg pe_int) (fun _ _ => rfl)) pa_nil))) (pss_cons (ps_set (i := 2) sc_law.nd rfl (Or.inl rfl) (pe_call (ok_law_choice T) (hr.mono (by decide)) rfl T.m_law_choice T.F_law_choice.kp T.b_law_choice .nil pass0 (pa_cons (pv 1) (pa_cons (pe_lst (pa_cons (pe_lst (pa_cons pe_int pa_nil)) (pa_cons (pe_lst (pa_cons pe_int pa_nil)) (pa_cons (pe_lst (pa_cons pe_int (pa_cons pe_int pa_nil))) (pa_cons (pe_lst (pa_cons pe_int (pa_cons pe_int pa_nil))) pa_nil))))) pa_nil)))) (pss_cons (ps_set (i := 3) sc_law.nd rfl (Or.inr rfl) (pe_callB (r := rSortQ K) (cr_sortQ (u65 hr)) (by rfl) T.z_sorted (by decide +kernel) (pa_cons (pe_slice sl_list (pe_call (ok_law_shuffle T) (hr.mono (by decide)) rfl T.m_law_shuffle T.F_law_shuffle.kp T.b_law_shuffle .nil pass0 (pa_cons (pv 1) (pa_cons (pe_call (ok_law_spots T) (hr.mono (by decide)) rfl T.m_law_spots T.F_law_spots.kp T.b_law_spots .nil pass0 (pa_cons (pv 2) pa_nil)) pa_nil))) po_none (po_some (pe_op op_add pe_int (pe_call (ok_law_draw T) (hr.mono (by decide)) rfl T.m_law_draw T.F_law_draw.kp T.b_law_draw .nil pass0 (pa_cons (pv 1) (pa_cons pe_int pa_nil)))))) pa_nil))) (pss_cons (ps_setLc (own := [("_law_one", 11)]) (g := (gName 11)) (i := 4) rfl sc_law.nd rfl rfl (sw_true rfl rfl rfl (by decide +kernel)) (pi_list (pe_call (ok_law_spots T) (hr.mono (by decide)) rfl T.m_law_spots T.F_law_spots.kp T.b_law_spots .nil pass0 (pa_cons (pv 2) pa_nil))) (blkOk_by (N := N_law) (sc := defScope s_law) (by decide +kernel)) (fun _ _ _ _ _ => (pg_name (i := 11) sc_law.nd rfl (Or.inl rfl))) (fun _ _ _ _ _ => (pts_one (pt_cmpR (r := rNotInD K) (op_notInD (u65 hr)) (pv 11) (pv 3) rfl))) (fun _ _ _ _ _ => (pv 11))) (pss_cons (ps_if (pt_cmpR op_ne (pe_call (ok_max_more T) hr rfl T.m_max_more T.F_max_more.kp T.b_max_more .nil pass0 (pa_cons (pe_make T.M_Table (ok_Table_init T) (hr.mono (by decide)) rfl T.m_Table T.b_Table_init .nil pass0 (pa_cons (pv 2) pa_nil)) (pa_cons (pv 4) (pa_cons (pe_ix ix_list (pv 4) pe_int (fun _ _ => rfl)) pa_nil)))) (pe_op op_sub (pe_callB call_len_seq (by rfl) T.z_len (by decide +kernel) (pa_cons (pv 3) pa_nil)) (pe_dget (hu_of hr) (pe_call (ok_law_final T) (hr.mono (by decide)) rfl T.m_law_final T.F_law_final.kp T.b_law_final .nil pass0 (pa_cons (pv 2) (pa_cons (pe_callTy call_tuple_of (by rfl) T.z_tuple (by decide +kernel) (pa_cons (pv 3) pa_nil)) (pa_cons pe_nnew pa_nil)))) (pe_ix ix_list (pv 4) pe_int (fun _ _ => rfl)) (fun _ _ => rfl))) (nomark _)) (pss_one (ps_ret pe_bl)) pss_nil) (pss_cons (ps_for PassesOwn.never rfl (pi_list (pe_op (r := rCatR K) op_catR (pe_slice sl_list (pv 0) po_none (po_some pe_int)) (pe_lst (pa_cons pe_int pa_nil)))) (pg_name (i := 5) sc_law.nd rfl (Or.inl rfl)) (pss_cons (ps_set (i := 1) sc_law.nd rfl (Or.inl rfl) (pe_call (ok_law_source T) (hr.mono (by decide)) rfl T.m_law_source T.F_law_source.kp T.b_law_source .nil pass0 (pa_cons (pv 5) pa_nil))) (pss_cons (ps_set (i := 2) sc_law.nd rfl (Or.inl rfl) (pe_call (ok_law_dims T) (hr.mono (by decide)) rfl T.m_law_dims T.F_law_dims.kp T.b_law_dims .nil pass0 (pa_cons (pv 1) (pa_cons pe_int pa_nil)))) (pss_cons (ps_set (i := 6) sc_law.nd rfl (Or.inl rfl) (pe_call (ok_law_spots T) (hr.mono (by decide)) rfl T.m_law_spots T.F_law_spots.kp T.b_law_spots .nil pass0 (pa_cons (pv 2) pa_nil))) (pss_cons (ps_set (i := 3) sc_law.nd rfl (Or.inr rfl) (pe_callB (r := rSortQ K) (cr_sortQ (u65 hr)) (by rfl) T.z_sorted (by decide +kernel) (pa_cons (pe_slice sl_list (pe_call (ok_law_shuffle T) (hr.mono (by decide)) rfl T.m_law_shuffle T.F_law_shuffle.kp T.b_law_shuffle .nil pass0 (pa_cons (pv 1) (pa_cons (pv 6) pa_nil))) po_none (po_some (pe_call (ok_law_draw T) (hr.mono (by decide)) rfl T.m_law_draw T.F_law_draw.kp T.b_law_draw .nil pass0 (pa_cons (pv 1) (pa_cons (pe_callB (call_min2 rfl) (by rfl) T.z_min (by decide +kernel) (pa_cons pe_int (pa_cons (pe_callB call_len_seq (by rfl) T.z_len (by decide +kernel) (pa_cons (pv 6) pa_nil)) pa_nil))) pa_nil))))) pa_nil))) (pss_cons (ps_set (i := 7) sc_law.nd rfl (Or.inr rfl) (pe_call (ok_law_choice T) (hr.mono (by decide)) rfl T.m_law_choice T.F_law_choice.kp T.b_law_choice .nil pass0 (pa_cons (pv 1) (pa_cons (pe_lc (own := [("_law_one", 11)]) (g := (gName 11)) rfl sc_law.nd (pi_list (pv 6)) (blkOk_by (N := N_law) (sc := defScope s_law) (by decide +kernel)) (fun _ _ _ _ _ => (pg_name (i := 11) sc_law.nd rfl (Or.inl rfl))) (fun _ _ _ _ _ => (pts_one (pt_cmpR (r := rNotInD K) (op_notInD (u65 hr)) (pv 11) (pv 3) rfl))) (fun _ _ _ _ _ => (pv 11))) pa_nil)))) (pss_cons (ps_setLc (own := [("_law_one", 11)]) (g := (gName 11)) (i := 4) rfl sc_law.nd rfl rfl (sw_true rfl rfl rfl (by decide +kernel)) (pi_list (pe_call (ok_law_shuffle T) (hr.mono (by decide)) rfl T.m_law_shuffle T.F_law_shuffle.kp T.b_law_shuffle .nil pass0 (pa_cons (pv 1) (pa_cons (pv 6) pa_nil)))) (blkOk_by (N := N_law) (sc := defScope s_law) (by decide +kernel)) (fun _ _ _ _ _ => (pg_name (i := 11) sc_law.nd rfl (Or.inl rfl))) (fun _ _ _ _ _ => (pts_one (pt_cmpR (r := rNotInD K) (op_notInD (u65 hr)) (pv 11) (pv 3) rfl))) (fun _ _ _ _ _ => (pv 11))) (pss_cons (ps_if (pt_cmpR op_eq (pe_call (ok_law_draw T) (hr.mono (by decide)) rfl T.m_law_draw T.F_law_draw.kp T.b_law_draw .nil pass0 (pa_cons (pv 1) (pa_cons pe_int pa_nil))) pe_int (nomark _)) (pss_one (ps_setLc (own := [("_law_one", 11)]) (g := (gName 11)) (i := 4) rfl sc_law.nd rfl rfl (sw_true rfl rfl rfl (by decide +kernel)) (pi_list (pv 4)) (blkOk_by (N := N_law) (sc := defScope s_law) (by decide +kernel)) (fun _ _ _ _ _ => (pg_name (i := 11) sc_law.nd rfl (Or.inl rfl))) (fun _ _ _ _ _ => (pts_one (pt_cmpR (r := rNeD K) (op_neD hr.units) (pv 11) (pv 7) (nomark _)))) (fun _ _ _ _ _ => (pv 11)))) pss_nil) (pss_cons (ps_set (i := 8) sc_law.nd rfl (Or.inl rfl) (pe_ix ix_list (pe_lst (pa_cons (pe_callTy call_list_of (by rfl) T.z_list (by decide +kernel) (pa_cons (pv 4) pa_nil)) (pa_cons (pe_callTy call_tuple_of (by rfl) T.z_tuple (by decide +kernel) (pa_cons (pv 4) pa_nil)) pa_nil))) (pe_call (ok_law_draw T) (hr.mono (by decide)) rfl T.m_law_draw T.F_law_draw.kp T.b_law_draw .nil pass0 (pa_cons (pv 1) (pa_cons pe_int pa_nil))) (fun _ _ => rfl))) (pss_cons (ps_set (i := 9) sc_law.nd rfl (Or.inl rfl) (pe_op op_sub (pe_callB call_len_seq (by rfl) T.z_len (by decide +kernel) (pa_cons (pv 3) pa_nil)) (pe_dget (hu_of hr) (pe_call (ok_law_final T) (hr.mono (by decide)) rfl T.m_law_final T.F_law_final.kp T.b_law_final .nil pass0 (pa_cons (pv 2) (pa_cons (pe_callTy call_tuple_of (by rfl) T.z_tuple (by decide +kernel) (pa_cons (pv 3) pa_nil)) (pa_cons pe_nnew pa_nil)))) (pv 7) (fun _ _ => rfl)))) (pss_cons (ps_set (i := 10) sc_law.nd rfl (Or.inl rfl) (pe_call (ok_max_more T) hr rfl T.m_max_more T.F_max_more.kp T.b_max_more .nil pass0 (pa_cons (pe_make T.M_Table (ok_Table_init T) (hr.mono (by decide)) rfl T.m_Table T.b_Table_init .nil pass0 (pa_cons (pv 2) pa_nil)) (pa_cons (pv 8) (pa_cons (pv 7) pa_nil))))) (pss_one (ps_if (PW.pt (pw_or (pt_cmpR op_ne (pv 10) (pv 9) (nomark _)) (pw_or (pt_val (pe_callB call_isi (by rfl) T.z_isinstance (by decide +kernel) (pa_cons (pv 10) (pa_cons (pe_bltn (v := .ty "bool") rfl T.z_bool (by decide +kernel) rfl) pa_nil)))) (pw_or1 (pt_cmpR (r := rNeD K) (op_neD hr.units) (pe_callTy call_list_of (by rfl) T.z_list (by decide +kernel) (pa_cons (pv 8) pa_nil)) (pv 4) (nomark _)))))) (pss_one (ps_ret pe_bl)) pss_nil))))))))))))) (pss_one (ps_ret pe_bl)))))))), ?_⟩
    refine ⟨slen rfl, ?_⟩
    (intro z0 nz0; generalize hGz0 : upd _ z0 _ = H1; have eH1 := exG hGz0 nz0; have hz0 := atG hGz0; clear hGz0)
    have hz0 : H1 z0 = some (.lst (([0] : List Int).map V.int)) := hz0
    refine ⟨_, rfl, z0, a, _, _, rfl, rfl, SqL.of hz0, Evl.ex_l eH1 hS, ?_, ?_⟩
    · rw [List.length_map, List.length_map]
      exact Nat.le_trans (show 1 + ns.length ≤ 64 by omega) (by decide)
    (intro z1 nz1; generalize hGz1 : upd _ z1 _ = H2; have eH2 := exG hGz1 nz1; have hz1 := atG hGz1; clear hGz1)
    obtain ⟨c0, hc0⟩ := last_int (0 :: ns) (by simp)
    refine ⟨_, rfl, z1, _, _, _, rfl, rfl, SqL.of hz1, hc0, ?_⟩
    refine ⟨c0, rfl, fun H3 s e3 ns0 src0 => ?_⟩
    have E3 : Ex H H3 := ext eH1 (ext eH2 e3)
    have ns00 : H s = none := Evl.fresh_back (ext eH1 eH2) ns0
    clear hz0 hz1 eH1 eH2 hc0 nz0 nz1 e3 ns0
    dsimp only [gName]
    show tSeq _ _ _ [_, _, _, _, _, _, _, _, _, _, _, _] _
    refine seq_asg ?_
    refine ⟨_, rfl, ?_⟩
    show tLst _ _ _ _
    refine rows_lst (rows := dims4) ?_ (by decide) fun q1 xs1 H4 e4 nq1 hq1 lr1 nr1 => ?_
    · unfold dims4
      repeat (first | exact RowsD.nil | refine RowsD.cons (fun _ _ _ h => h) (by decide) (by simp) ?_)
    refine ⟨s, q1, xs1, rfl, src0.mono e4, hq1, src0.ne nq1, (fun z => by have := lr1.len; rw [z] at this; cases this), by rw [lr1.len]; decide, fun v H5 hv xb5 src5 => ?_⟩
    obtain ⟨l, ds, rfl, hds, hl1⟩ := lr1.mem hv
    have nls : l ≠ s := src0.ne (nr1 l hv)
    have hl5 := xb5 _ _ nls hl1
    obtain ⟨n1, n2, n3, p9, p8⟩ := dims4_ok ds hds
    have ok : SzOk ds := ⟨n1, n2, n3⟩
    have pr : prodL ds ≤ 300 := Int.le_trans p9 (by decide)
    have X5 : XB s H H5 := ((XB.of E3).trans (XB.of e4)).trans xb5
    clear hv lr1 nr1 hq1 hl1 nq1 hds xb5 e4 src0 E3
    dsimp only [gName]
    show tSeq _ _ _ [_, _, _, _, _, _, _, _, _, _, _, _] _
    have lA := allS_len ok.one
    have ds0 : ∀ t : List Int, SeatOk ds t → t ≠ [] := fun t st z => by
      have := st.len
      rw [z] at this
      exact n1 (List.length_eq_zero_iff.mp this.symm)
    refine ⟨_, rfl, _, rfl, l, ds, rfl, hl5, ok, pr, fun ev H6 e6 nev ⟨xs, hev, rx⟩ => ?_⟩
    have lx := rx.len
    have src6 := src5.mono e6
    refine ⟨s, ev, xs, rfl, src6, hev, src5.ne nev, by omega, DataIn.rows src6 rx, fun q ys H7 nq hq pm xb7 src7 => ?_⟩
    obtain ⟨hss, ry, ph⟩ := paired_perm pm (show Paired _ xs (allS ds) from rx)
    have ry7 : RowsR H7 ys hss := RowsR.monoT (fun _ _ z => tup_xb src6 z xb7) ry
    have nqs : q ≠ s := src6.ne nq
    refine ⟨_, rfl, s, 2, rfl, src7, by decide, by decide +kernel, fun r3 H8 r30 r31 xb8 src8 => ?_⟩
    have hq8 := xb8 _ _ nqs hq
    have ry8 : RowsR H8 ys hss := ry7.monoT fun _ _ z => tup_xb src7 z xb8
    refine ⟨_, _, rfl, rfl, _, rfl, q, _, rfl, SqL.of hq8, ?_⟩
    rw [take_cutN _ (by omega)]
    (intro cu ncu; generalize hGcu : upd _ cu _ = H9; have eH9 := exG hGcu ncu; have hcu := atG hGcu; clear hGcu)
    have rcu : RowsR H9 (ys.take (6 + r3).toNat) (hss.take (6 + r3).toNat) := paired_take _ (ry8.mono eH9)
    have hnod : hss.Nodup := ph.nodup_iff.mpr (allS_nodup ds)
    have tnod : (hss.take (6 + r3).toNat).Nodup := hnod.sublist (List.take_sublist _ _)
    have tsk : ∀ t ∈ hss.take (6 + r3).toNat, SeatOk ds t := fun t ht => mem_allS.mp (ph.mem_iff.mp (List.mem_of_mem_take ht))
    have tlen : (hss.take (6 + r3).toNat).length ≤ 7 ∧ 6 ≤ (hss.take (6 + r3).toNat).length := by
      rw [List.length_take]
      have := ph.length_eq
      omega
    have X9 : XB s H H9 := (((X5.trans (XB.of e6)).trans xb7).trans xb8).trans (XB.of eH9)
    have X59 : XB s H5 H9 := (((XB.of e6).trans xb7).trans xb8).trans (XB.of eH9)
    have src9 := src8.mono eH9
    generalize hss.take (6 + r3).toNat = tss at rcu tnod tsk tlen
    generalize ys.take (6 + r3).toNat = zs at rcu hcu
    dsimp only [tNil]
    refine ⟨(false, cu), zs, tss, rfl, SqL.of hcu, rcu, fun t ht => ds0 t (tsk t ht), fun us g ru hg => ?_⟩
    rw [sort_all tnod tsk] at ru
    have gsf := filter_self (ns := ds) (tss := tss)
    have glen : ((allS ds).filter fun o => decide (o ∈ tss)).length ≤ 7 := by
      rw [← sort_all tnod tsk, List.length_mergeSort]
      exact tlen.1
    have gnod : ((allS ds).filter fun o => decide (o ∈ tss)).Nodup := (allS_nodup ds).filter _
    have gsk : ∀ t ∈ (allS ds).filter (fun o => decide (o ∈ tss)), SeatOk ds t := fun t ht => mem_allS.mp (List.mem_filter.mp ht).1
    generalize (allS ds).filter (fun o => decide (o ∈ tss)) = gs at ru gsf glen gnod gsk
    generalize hGg : upd H9 g _ = H10
    have e10 := exG hGg hg
    have hg10 := atG hGg
    clear hGg
    have rg10 : RowsAt H10 g gs := ⟨us, hg10, ru.mono e10⟩
    have X10 : XB s H H10 := X9.trans (XB.of e10)
    have src10 := src9.mono e10
    have hl10 := e10 _ _ (X59 _ _ nls hl5)
    have nds := src9.ne hg
    clear tnod tsk tlen rcu hcu ru X9 X59 src9 e10 hg10
    dsimp only [gName]
    show tSeq _ _ _ [_, _, _, _, _, _, _, _, _, _, _, _] _
    refine ⟨_, rfl, l, ds, rfl, hl10, ok, pr, fun ev2 H11 e11 nev2 ⟨es, hev2, re⟩ => ⟨ev2, rfl, ⟨_, SqL.of hev2⟩, fun B hB => ?_⟩⟩
    have le := re.len
    refine lc_filt (walk_list (xs := es)) (es.zip (allS ds)) (fun z => decide (z.2 ∉ gs)) (fun z => z.1) (by rw [List.length_zip]; omega) (by omega) hB (fun Hx ex => SqL.of (ex _ _ hev2)) ?_ ?_
    · rintro i x ⟨z1, z2⟩ _ Hx R S hz ex ⟨rfl, hx⟩ kR kS
      obtain ⟨hz1, hz2⟩ := zip_at2 hz
      obtain ⟨o, r, hp, rfl, hr2⟩ := re.get hx
      obtain rfl : o = z2 := Option.some.inj (hp.symm.trans hz2)
      obtain rfl : V.ref r = z1 := Option.some.inj (hx.symm.trans hz1)
      refine ⟨rfl, _, rfl, _, rfl, notin_lst (ex _ _ hr2) (rg10.mono (ext e11 ex)) ⟨_, rfl, ?_⟩⟩
      by_cases c : o ∈ gs
      · exact itf (by rw [decide_eq_true c]; rfl) (kS _ exr (decide_eq_false (not_not_intro c)))
      · exact itt (by rw [decide_eq_false c]; rfl) ⟨_, rfl, kR _ _ exr (decide_eq_true c) rfl⟩
    intro H12 e12 hB12
    have rb : RowsR H12 (((es.zip (allS ds)).filter fun z => decide (z.2 ∉ gs)).map fun z => z.1) ((allS ds).filter fun o => decide (o ∉ gs)) := RowsR.filt (fun o => decide (o ∉ gs)) (re.mono e12)
    have bnod : ((allS ds).filter fun o => decide (o ∉ gs)).Nodup := (allS_nodup ds).filter _
    have bmem : ∀ o, o ∈ (allS ds).filter (fun o => decide (o ∉ gs)) ↔ SeatOk ds o ∧ o ∉ gs := fun o => by rw [List.mem_filter, mem_allS, decide_eq_true_iff]
    obtain ⟨b0, bs, hbs⟩ : ∃ b0 bs, (allS ds).filter (fun o => decide (o ∉ gs)) = b0 :: bs := by
      cases hc : (allS ds).filter (fun o => decide (o ∉ gs)) with
      | cons b0 bs => exact ⟨b0, bs, rfl⟩
      | nil =>
        have h1 : allS ds ⊆ gs := fun o ho => Classical.byContradiction fun c => by
          have := (bmem o).mpr ⟨mem_allS.mp ho, c⟩
          rw [hc] at this
          cases this
        have := (allS_nodup ds).length_le_of_subset h1
        omega
    rw [hbs] at rb bnod bmem
    generalize (((es.zip (allS ds)).filter fun z => decide (z.2 ∉ gs)).map fun z => z.1) = bx at hB12 rb
    obtain ⟨r0, bx', rfl, hr0⟩ : ∃ r0 bx', bx = .ref r0 :: bx' ∧ H12 r0 = some (.tup (b0.map V.int)) := by
      cases rb with
      | cons q t =>
        obtain ⟨r, rfl, h⟩ := q
        exact ⟨r, _, rfl, h⟩
    have sk0 := ((bmem b0).mp List.mem_cons_self)
    have E12 := ext e11 e12
    have hl12 := E12 _ _ hl10
    have rg12 := rg10.mono E12
    have X12 : XB s H H12 := X10.trans (XB.of E12)
    have src12 := src10.mono E12
    have opn : openL ds (b0 :: bs) b0 = gs := by
      rw [open_eq (gs := gs) (fun o so => ⟨fun h => Classical.byContradiction fun c => h.1 ((bmem o).mpr ⟨so, c⟩), fun h => ⟨fun z => ((bmem o).mp z).2 h, fun z => sk0.2 (by rw [← z]; exact h)⟩⟩), gsf]
    clear hev2 re le rg10 hl10 X10 src10
    dsimp only [gName]
    show tSeq _ _ _ [_, _, _, _, _, _, _, _, _, _, _, _] _
    refine ⟨_, rfl, ?_⟩
    refine mk_tab (b := false) (ns := ds) (show SqH H12 (false, l) _ from hl12) ok fun tb H13 e13 ntb tab => ?_
    refine ⟨_, rfl, _, rfl, B, _, 0, _, rfl, rfl, SqL.of (e13 _ _ hB12), L2.atI_nat (j := 0) rfl, tb, r0, (false, B), ds, b0, b0 :: bs, rfl, tab, ok, p9, ⟨_, e13 _ _ hB12, rb.mono e13⟩, fun t ht => ((bmem t).mp ht).1, bnod, e13 _ _ hr0, sk0.1, fun H14 e14 => ?_⟩
    rw [opn]
    have E14 := ext e13 e14
    obtain ⟨gx, hg14, rgx⟩ := rg12.mono E14
    have lgx : gx.length = gs.length := Paired.length rgx
    refine ⟨_, rfl, g, gx, rfl, .inl (SqL.of hg14), ?_⟩
    refine ⟨_, rfl, _, rfl, g, gx, rfl, .inl ⟨SqL.of hg14, ?_⟩⟩
    (intro gt ngt; generalize hGgt : upd _ gt _ = H15; have eH15 := exG hGgt ngt; have hgt := atG hGgt; clear hGgt)
    have kgt : KeyAt H15 gt gs := ⟨gx, hgt, rgx.mono eH15⟩
    (intro kd nkd; generalize hGkd : upd _ kd _ = H16; have eH16 := exG hGkd nkd; have hkd := atG hGkd; clear hGkd)
    have E16 := ext E14 (ext eH15 eH16)
    have nd16 : ND P w H16 kd [] := ⟨hkd, fun x hx => nomatch hx⟩
    have bb : bndN gs.length ≤ 200000 := by
      have : ∀ n, n ≤ 8 → bndN n ≤ 200000 := by decide
      exact this _ (by omega)
    refine ⟨l, gt, kd, ds, gs, [], rfl, E16 _ _ hl12, ok, pr, kgt.mono eH16, gnod, gsk, ⟨b0, sk0⟩, by omega, by omega, nd16, (fun x hx => nomatch hx), by show 0 + _ ≤ _; omega, fun fr H17 xs2 xb nd17 _ ⟨fs, hfs, hdep⟩ _ _ => ?_⟩
    have E17 : Ex H12 H17 := fun c u z => by
      have z3 := (ext E14 eH15) c u z
      exact xb c u (ne_of_none z3 nkd) (eH16 _ _ z3)
    have hget : DGet H17 fr (.ref r0) (some (V.int (finF ds gs b0 : Nat))) := by
      have := cnt_get hfs (E17 _ _ hr0)
      rw [hdep b0 sk0.1 sk0.2] at this
      exact this
    refine ⟨_, rfl, B, _, 0, _, rfl, rfl, SqL.of (E17 _ _ hB12), L2.atI_nat (j := 0) rfl, fr, _, rfl, hget, ?_⟩
    refine ⟨_, _, rfl, rfl, ?_⟩
    rw [lgx]
    refine ⟨rfl, _, rfl, itf (by simp) ?_⟩
    dsimp only [tNext]
    have E : Ex H H17 := fun c o z => (X12.trans (XB.of E17)) c o (ne_of_none z ns00) z
    clear hget hfs hdep nd17 xb nd16 bb kgt hkd hgt hg14 rgx lgx E14 E16 e13 e14 eH15 eH16 E17 tab hB12 hr0 hbs rb bnod bmem opn src12 X12 rg12 hl12 sk0 E12 e11 e12 nds gsf glen gnod gsk src5 src6 src7 src8 xb7 xb8 e6 X5 hl5
    clear rx ry ry7 ry8 ph pm hq hq8 hev hnod lA ds0 n1 n2 n3 p9 p8 ok pr
    refine ⟨_, rfl, 2, rfl, a, _, rfl, Evl.ex_l E hS, fun c hc => ⟨slen rfl, ?_⟩⟩
    obtain ⟨ms, em⟩ := cut_map ns none (some 2)
    have ml : (ms.map V.int).length ≤ 63 := by
      rw [← em]
      exact Nat.le_trans (cut_len _ _ _) (by rw [List.length_map]; exact hlen)
    rw [em]
    generalize hG5 : upd H17 c _ = H18
    have hc5 := atG hG5
    clear hG5
    (intro zz nzz; generalize hGzz : upd _ zz _ = H19; have eH19 := exG hGzz nzz; have hzz := atG hGzz; clear hGzz)
    refine ⟨c, zz, _, _, rfl, rfl, SqL.of (eH19 _ _ hc5), SqL.of hzz, ?_, ?_⟩
    · exact Nat.le_trans (show _ + 1 ≤ 64 by omega) (by decide)
    (intro d nd; generalize hGd : upd _ d _ = H20; have eH20 := exG hGd nd; have hd := atG hGd; clear hGd)
    have hd7 : H20 d = some (.lst ((ms ++ [0]).map V.int)) := by
      rw [hd, List.map_append]
      rfl
    refine ⟨d, rfl, ⟨_, SqL.of hd7⟩, ?_⟩
    have hd := hd7
    clear hc5 hzz hd7 eH19 eH20 E
    refine for_it (walk_list (xs := (ms ++ [0]).map V.int)) (fun i σ H => (∃ y1 y2 y3 y4 y5 y6 y7 y8 y9 y10 y11, σ = [some (.ref a), y1, y2, y3, y4, y5, y6, y7, y8, y9, y10, y11]) ∧ H d = some (.lst ((ms ++ [0]).map V.int))) ⟨⟨_, _, _, _, _, _, _, _, _, _, _, rfl⟩, hd⟩ (fun i σ H _ p => SqL.of p.2) ?_ (fun σ H ⟨⟨y1, y2, y3, y4, y5, y6, y7, y8, y9, y10, y11, e⟩, _⟩ => k _)
    clear hd
    rintro i x σ _ H1 hi ⟨⟨y1, y2, y3, y4, y5, y6, y7, y8, y9, y10, y11, rfl⟩, hd1⟩ ⟨rfl, hx⟩
    obtain ⟨n, _, rfl⟩ := map_get hx
    dsimp only [gName]
    show tSeq _ _ _ [_, _, _, _, _, _, _, _, _, _, _, _] _
    refine ⟨_, rfl, n, rfl, fun H2 s e2 ns0 src => ?_⟩
    have nd : d ≠ s := ne_of_none hd1 ns0
    have hd2 := e2 _ _ hd1
    dsimp only [gName]
    show tSeq _ _ _ [_, _, _, _, _, _, _, _, _, _, _, _] _
    refine ⟨_, rfl, s, 9, rfl, src, by decide, fun l ds H3 nl hl ok p9 xb3 src3 => ?_⟩
    have pr : prodL ds ≤ 300 := Int.le_trans p9 (by decide)
    have nls : l ≠ s := src.ne nl
    have lA := allS_len ok.one
    have pos := prodL_pos ok.one
    have ds0 : ∀ t : List Int, SeatOk ds t → t ≠ [] := fun t st z => by
      have := st.len
      rw [z] at this
      exact ok.pos (List.length_eq_zero_iff.mp this.symm)
    dsimp only [gName]
    show tSeq _ _ _ [_, _, _, _, _, _, _, _, _, _, _, _] _
    refine ⟨_, rfl, l, ds, rfl, hl, ok, pr, fun ev H4 e4 nev ⟨xs, hev, rx⟩ => ?_⟩
    have lx := rx.len
    have src4 := src3.mono e4
    have nevs : ev ≠ s := src3.ne nev
    dsimp only [gName]
    show tSeq _ _ _ [_, _, _, _, _, _, _, _, _, _, _, _] _
    refine ⟨_, rfl, _, rfl, s, ev, xs, rfl, src4, hev, nevs, by omega, DataIn.rows src4 rx, fun q ys H5 nq hq pm xb5 src5 => ?_⟩
    obtain ⟨hss, ry, ph⟩ := paired_perm pm (show Paired _ xs (allS ds) from rx)
    have ry5 : RowsR H5 ys hss := RowsR.monoT (fun _ _ z => tup_xb src4 z xb5) ry
    have nqs : q ≠ s := src4.ne nq
    have hev5 := xb5 _ _ nevs hev
    refine ⟨_, rfl, ?_⟩
    refine ⟨_, rfl, ev, xs, rfl, .inl (SqL.of hev5), 6, (xs.length : Int), rfl, s, _, rfl, src5, ?_, ?_, fun r6 H6 r60 r61 xb6 src6 => ?_⟩
    · split <;> omega
    · refine Nat.lt_of_le_of_lt (m := 300) ?_ (by decide +kernel)
      split <;> omega
    have r6a : r6 < 6 ∧ r6 < xs.length := by
      split at r61 <;> omega
    have hq6 := xb6 _ _ nqs hq
    have ry6 : RowsR H6 ys hss := ry5.monoT fun _ _ z => tup_xb src5 z xb6
    refine ⟨r6, rfl, q, _, rfl, SqL.of hq6, ?_⟩
    rw [take_cutN _ r60]
    (intro cu ncu; generalize hGcu : upd _ cu _ = H7; have eH7 := exG hGcu ncu; have hcu := atG hGcu; clear hGcu)
    have rcu : RowsR H7 (ys.take r6.toNat) (hss.take r6.toNat) := paired_take _ (ry6.mono eH7)
    have hnod : hss.Nodup := ph.nodup_iff.mpr (allS_nodup ds)
    have tnod : (hss.take r6.toNat).Nodup := hnod.sublist (List.take_sublist _ _)
    have tsk : ∀ t ∈ hss.take r6.toNat, SeatOk ds t := fun t ht => mem_allS.mp (ph.mem_iff.mp (List.mem_of_mem_take ht))
    have tlen : (hss.take r6.toNat).length < 6 ∧ (hss.take r6.toNat).length < (allS ds).length := by
      rw [List.length_take]
      omega
    have X47 : XB s H4 H7 := (xb5.trans xb6).trans (XB.of eH7)
    have src7 := src6.mono eH7
    generalize hss.take r6.toNat = tss at rcu tnod tsk tlen
    generalize ys.take r6.toNat = zs at rcu hcu
    dsimp only [tNil]
    refine ⟨(false, cu), zs, tss, rfl, SqL.of hcu, rcu, fun t ht => ds0 t (tsk t ht), fun us g ru hg => ?_⟩
    rw [sort_all tnod tsk] at ru
    have gsf := filter_self (ns := ds) (tss := tss)
    have glen : ((allS ds).filter fun o => decide (o ∈ tss)).length < 6 ∧ ((allS ds).filter fun o => decide (o ∈ tss)).length < (allS ds).length := by
      rw [← sort_all tnod tsk, List.length_mergeSort]
      exact tlen
    have gnod : ((allS ds).filter fun o => decide (o ∈ tss)).Nodup := (allS_nodup ds).filter _
    have gsk : ∀ t ∈ (allS ds).filter (fun o => decide (o ∈ tss)), SeatOk ds t := fun t ht => mem_allS.mp (List.mem_filter.mp ht).1
    generalize (allS ds).filter (fun o => decide (o ∈ tss)) = gs at ru gsf glen gnod gsk
    generalize hGg : upd H7 g _ = H8
    have e8 := exG hGg hg
    have hg8 := atG hGg
    clear hGg
    have rg8 : RowsAt H8 g gs := ⟨us, hg8, ru.mono e8⟩
    have X48 : XB s H4 H8 := X47.trans (XB.of e8)
    have src8 := src7.mono e8
    have hl8 := X48 _ _ nls (e4 _ _ hl)
    have hev8 := X48 _ _ nevs hev
    have rx8 : RowsR H8 xs (allS ds) := rx.monoT fun _ _ z => tup_xb src4 z X48
    have ngs : g ≠ s := src7.ne hg
    have X28 : XB s H2 H8 := (xb3.trans (XB.of e4)).trans X48
    clear tnod tsk tlen rcu hcu ru X47 src7 e8 hg8 ry ry5 ry6 ph pm hq hq6 hev5 hnod xb5 xb6 X48 src5 src6 r61 r60 r6a rx hev xb3 e4 src4 src3 hl
    dsimp only [gName]
    show tSeq _ _ _ [_, _, _, _, _, _, _, _, _, _, _, _] _
    -- spot
    refine ⟨_, rfl, _, rfl, ev, rfl, ⟨_, SqL.of hev8⟩, fun B hB => ?_⟩
    refine lc_filt (walk_list (xs := xs)) (xs.zip (allS ds)) (fun z => decide (z.2 ∉ gs)) (fun z => z.1) (by rw [List.length_zip]; omega) (by omega) hB (fun Hx ex => SqL.of (ex _ _ hev8)) ?_ ?_
    · rintro i x ⟨z1, z2⟩ _ Hx R S hz ex ⟨rfl, hx⟩ kR kS
      obtain ⟨hz1, hz2⟩ := zip_at2 hz
      obtain ⟨o, r, hp, rfl, hr2⟩ := rx8.get hx
      obtain rfl : o = z2 := Option.some.inj (hp.symm.trans hz2)
      obtain rfl : V.ref r = z1 := Option.some.inj (hx.symm.trans hz1)
      refine ⟨rfl, _, rfl, _, rfl, notin_lst (ex _ _ hr2) (rg8.mono ex) ⟨_, rfl, ?_⟩⟩
      by_cases c : o ∈ gs
      · exact itf (by rw [decide_eq_true c]; rfl) (kS _ exr (decide_eq_false (not_not_intro c)))
      · exact itt (by rw [decide_eq_false c]; rfl) ⟨_, rfl, kR _ _ exr (decide_eq_true c) rfl⟩
    intro H9 e9 hB9
    have rb : RowsR H9 (((xs.zip (allS ds)).filter fun z => decide (z.2 ∉ gs)).map fun z => z.1) ((allS ds).filter fun o => decide (o ∉ gs)) := RowsR.filt (fun o => decide (o ∉ gs)) (rx8.mono e9)
    have bmem : ∀ o, o ∈ (allS ds).filter (fun o => decide (o ∉ gs)) ↔ SeatOk ds o ∧ o ∉ gs := fun o => by rw [List.mem_filter, mem_allS, decide_eq_true_iff]
    have bne : (allS ds).filter (fun o => decide (o ∉ gs)) ≠ [] := fun hc => by
      have h1 : allS ds ⊆ gs := fun o ho => Classical.byContradiction fun c => by
        have := (bmem o).mpr ⟨mem_allS.mp ho, c⟩
        rw [hc] at this
        cases this
      have := (allS_nodup ds).length_le_of_subset h1
      omega
    have blen : ((allS ds).filter fun o => decide (o ∉ gs)).length ≤ 9 := Nat.le_trans (List.length_filter_le _ _) (by omega)
    generalize (allS ds).filter (fun o => decide (o ∉ gs)) = bs0 at rb bmem bne blen
    generalize (((xs.zip (allS ds)).filter fun z => decide (z.2 ∉ gs)).map fun z => z.1) = bx at hB9 rb
    have src9 := src8.mono e9
    have lbx := rb.len
    refine ⟨s, B, bx, rfl, src9, hB9, src8.ne hB, (fun z => bne (by rw [z] at lbx; exact List.length_eq_zero_iff.mp lbx.symm)), by omega, fun v H10 hv xb10 src10 => ?_⟩
    obtain ⟨sp, p, rfl, hp, hsp9⟩ := mem_rows rb hv
    obtain ⟨sk, npg⟩ := (bmem p).mp hp
    have X810 : XB s H8 H10 := (XB.of e9).trans xb10
    have hsp10 := tup_xb src9 hsp9 xb10
    have hl10 := X810 _ _ nls hl8
    have hev10 := X810 _ _ nevs hev8
    have rx10 : RowsR H10 xs (allS ds) := rx8.monoT fun _ _ z => tup_xb src8 z X810
    have rg10 := rows_xb src8 ngs X810 rg8
    have X210 := X28.trans X810
    clear hB9 rb bmem bne blen hp hsp9 xb10 X810 hl8 hev8 rx8 rg8 X28 src8 src9 e9 hv lbx
    dsimp only [gName]
    show tSeq _ _ _ [_, _, _, _, _, _, _, _, _, _, _, _] _
    -- been
    refine ⟨_, rfl, _, rfl, s, ev, xs, rfl, src10, hev10, nevs, by omega, DataIn.rows src10 rx10, fun q2 ys2 H11 nq2 hq2 pm2 xb11 src11 => ⟨q2, rfl, ⟨_, SqL.of hq2⟩, fun B2 hB2 => ?_⟩⟩
    obtain ⟨hs2, ry2, ph2⟩ := paired_perm pm2 (show Paired _ xs (allS ds) from rx10)
    have ry11 : RowsR H11 ys2 hs2 := RowsR.monoT (fun _ _ z => tup_xb src10 z xb11) ry2
    have ly2 := ry11.len
    have lh2 := ph2.length_eq
    have rg11 := rows_xb src10 ngs xb11 rg10
    refine lc_filt (walk_list (xs := ys2)) (ys2.zip hs2) (fun z => decide (z.2 ∉ gs)) (fun z => z.1) (by rw [List.length_zip]; omega) (by omega) hB2 (fun Hx ex => SqL.of (ex _ _ hq2)) ?_ ?_
    · rintro i x ⟨z1, z2⟩ _ Hx R S hz ex ⟨rfl, hx⟩ kR kS
      obtain ⟨hz1, hz2⟩ := zip_at2 hz
      obtain ⟨o, r, hp, rfl, hr2⟩ := ry11.get hx
      obtain rfl : o = z2 := Option.some.inj (hp.symm.trans hz2)
      obtain rfl : V.ref r = z1 := Option.some.inj (hx.symm.trans hz1)
      refine ⟨rfl, _, rfl, _, rfl, notin_lst (ex _ _ hr2) (rg11.mono ex) ⟨_, rfl, ?_⟩⟩
      by_cases c : o ∈ gs
      · exact itf (by rw [decide_eq_true c]; rfl) (kS _ exr (decide_eq_false (not_not_intro c)))
      · exact itt (by rw [decide_eq_false c]; rfl) ⟨_, rfl, kR _ _ exr (decide_eq_true c) rfl⟩
    intro H12 e12 hB12
    have rb : RowsR H12 (((ys2.zip hs2).filter fun z => decide (z.2 ∉ gs)).map fun z => z.1) (hs2.filter fun o => decide (o ∉ gs)) := RowsR.filt (fun o => decide (o ∉ gs)) (ry11.mono e12)
    have bmem : ∀ o, o ∈ hs2.filter (fun o => decide (o ∉ gs)) ↔ SeatOk ds o ∧ o ∉ gs := fun o => by rw [List.mem_filter, ph2.mem_iff, mem_allS, decide_eq_true_iff]
    have bnod : (hs2.filter fun o => decide (o ∉ gs)).Nodup := (ph2.nodup_iff.mpr (allS_nodup ds)).filter _
    have blen : (hs2.filter fun o => decide (o ∉ gs)).length ≤ 9 := Nat.le_trans (List.length_filter_le _ _) (by omega)
    generalize (hs2.filter fun o => decide (o ∉ gs)) = bs at rb bmem bnod blen
    generalize (((ys2.zip hs2).filter fun z => decide (z.2 ∉ gs)).map fun z => z.1) = bx2 at hB12 rb
    have src12 := src11.mono e12
    have nBs : B2 ≠ s := src11.ne hB2
    have X1012 : XB s H10 H12 := xb11.trans (XB.of e12)
    have hsp12 := tup_xb src10 hsp10 X1012
    have hl12 := X1012 _ _ nls hl10
    have rg12 := rows_xb src10 ngs X1012 rg10
    have X212 := X210.trans X1012
    clear ry2 ry11 ly2 lh2 ph2 pm2 hq2 rg11 xb11 src11 e12 X1012 hsp10 hl10 rg10 X210 rx10 hev10 src10
    dsimp only [gName]
    show tSeq _ _ _ [_, _, _, _, _, _, _, _, _, _, _, _] _
    refine sif_cut (fun σ2 H => ∃ (b : Addr) (bx : List V) (bs : List (List Int)), σ2 = [some (.ref a), some (.ref s), some (.ref l), some (.ref g), some (.ref b), some (.int n), some (.ref ev), some (.ref sp), y8, y9, y10, y11] ∧ XB s H12 H ∧ Src H s ∧ H b = some (.lst bx) ∧ RowsR H bx bs ∧ b ≠ s ∧ (∀ t ∈ bs, SeatOk ds t) ∧ bs.Nodup ∧ bs.length ≤ 9 ∧ openL ds bs p = gs) (fun N hN => ?_) ?_
    · refine ⟨_, rfl, s, 2, rfl, src12, by decide, by decide +kernel, fun r H13 r0 r1 xb13 src13 => ⟨rfl, _, rfl, ?_⟩⟩
      have hB13 := xb13 _ _ nBs hB12
      have rb13 : RowsR H13 bx2 bs := rb.monoT fun _ _ z => tup_xb src12 z xb13
      have hsp13 := tup_xb src12 hsp12 xb13
      have lb := rb.len
      refine ite2 (fun _ => ?_) (fun _ => ?_)
      · refine ⟨_, rfl, B2, rfl, ⟨_, SqL.of hB13⟩, fun M hM => ?_⟩
        refine lc_filt (walk_list (xs := bx2)) (bx2.zip bs) (fun z => decide (z.2 ≠ p)) (fun z => z.1) (by rw [List.length_zip]; omega) (by omega) hM (fun Hy ey => SqL.of (ey _ _ hB13)) ?_ ?_
        · rintro j x ⟨z1, z2⟩ _ Hy R S hz ey ⟨rfl, hx⟩ kR kS
          obtain ⟨hz1, hz2⟩ := zip_at2 hz
          obtain ⟨o, ro, hp, rfl, hro⟩ := rb13.get hx
          obtain rfl : o = z2 := Option.some.inj (hp.symm.trans hz2)
          obtain rfl : V.ref ro = z1 := Option.some.inj (hx.symm.trans hz1)
          refine ⟨rfl, _, rfl, _, rfl, iT o, iT p, dp_ints (ey _ _ hro), dp_ints (ey _ _ hsp13), (sh_ints (n := 59) _).ok, (sh_ints (n := 59) _).ok, _, rfl, ?_⟩
          rw [eqv_ints]
          by_cases c : o = p
          · exact itf (by rw [decide_eq_true c]; rfl) (kS _ exr (decide_eq_false (not_not_intro c)))
          · exact itt (by rw [decide_eq_false c]; rfl) ⟨_, rfl, kR _ _ exr (decide_eq_true c) rfl⟩
        intro H14 e14 hM14
        have rm : RowsR H14 (((bx2.zip bs).filter fun z => decide (z.2 ≠ p)).map fun z => z.1) (bs.filter fun o => decide (o ≠ p)) := RowsR.filt (fun q => decide (q ≠ p)) (rb13.mono e14)
        have fm : ∀ o, o ∈ bs.filter (fun o => decide (o ≠ p)) ↔ (SeatOk ds o ∧ o ∉ gs) ∧ o ≠ p := fun o => by rw [List.mem_filter, bmem, decide_eq_true_iff]
        refine hN _ _ ⟨M, _, _, rfl, xb13.trans (XB.of e14), src13.mono e14, hM14, rm, src13.ne hM, fun t ht => ((fm t).mp ht).1.1, bnod.filter _, Nat.le_trans (List.length_filter_le _ _) blen, ?_⟩
        rw [open_eq (gs := gs) (fun o so => ⟨fun h => Classical.byContradiction fun c => h.1 ((fm o).mpr ⟨⟨so, c⟩, h.2⟩), fun h => ⟨fun z => ((fm o).mp z).1.2 h, fun z => npg (by rw [← z]; exact h)⟩⟩), gsf]
      · refine hN _ _ ⟨B2, bx2, bs, rfl, xb13, src13, hB13, rb13, nBs, fun t ht => ((bmem t).mp ht).1, bnod, blen, ?_⟩
        rw [open_eq (gs := gs) (fun o so => ⟨fun h => Classical.byContradiction fun c => h.1 ((bmem o).mpr ⟨so, c⟩), fun h => ⟨fun z => ((bmem o).mp z).2 h, fun z => npg (by rw [← z]; exact h)⟩⟩), gsf]
    clear rb bmem bnod blen hB12 nBs
    rintro σ2 H13 ⟨b, bx3, bs3, rfl, X1213, src13, hb13, rb13, nbs, bsk, bnod, blen, opn⟩
    have hsp13 := tup_xb src12 hsp12 X1213
    have hl13 := X1213 _ _ nls hl12
    have rg13 := rows_xb src12 ngs X1213 rg12
    have X213 := X212.trans X1213
    clear X1213 hsp12 hl12 rg12 X212 src12
    show tSeq _ _ _ [_, _, _, _, _, _, _, _, _, _, _, _] _
    -- handed
    refine ⟨_, rfl, b, bx3, rfl, .inl (SqL.of hb13), ?_⟩
    (intro b1 nb1; generalize hGb1 : upd _ b1 _ = H14; have eH14 := exG hGb1 nb1; have hb1 := atG hGb1; clear hGb1)
    refine ⟨_, rfl, b, bx3, rfl, .inl ⟨SqL.of (eH14 _ _ hb13), ?_⟩⟩
    (intro b2 nb2; generalize hGb2 : upd _ b2 _ = H15; have eH15 := exG hGb2 nb2; have hb2 := atG hGb2; clear hGb2)
    refine ⟨slen rfl, ?_⟩
    (intro el nel; generalize hGel : upd _ el _ = H16; have eH16 := exG hGel nel; have hel := atG hGel; clear hGel)
    have src16 := (src13.mono eH14).mono (ext eH15 eH16)
    have nel := ((src13.mono eH14).mono eH15).ne nel
    refine ⟨_, rfl, s, 2, rfl, src16, by decide, by decide +kernel, fun r2 H17 r20 r21 xb17 src17 => ?_⟩
    have nb1 : b1 ≠ s := src13.ne nb1
    have hb1 := xb17 _ _ nb1 (ext eH15 eH16 _ _ hb1)
    have hb2 := tup_xb src16 (eH16 _ _ hb2) xb17
    obtain ⟨q3, gq, hq3⟩ := two_kinds r20 r21 hb1 hb2
    refine ⟨el, _, _, _, rfl, rfl, SqL.of (xb17 _ _ nel hel), gq, ?_⟩
    have X1317 : XB s H13 H17 := ((XB.of (ext eH14 (ext eH15 eH16))).trans xb17)
    have hl17 := X1317 _ _ nls hl13
    have hsp17 := tup_xb src13 hsp13 X1317
    have rg17 := rows_xb src13 ngs X1317 rg13
    have hb17 := X1317 _ _ nbs hb13
    have rb17 : RowsR H17 bx3 bs3 := rb13.monoT fun _ _ z => tup_xb src13 z X1317
    have rq17 : RowsQ H17 q3 bs3 := ⟨bx3, hq3, rb17⟩
    have X217 := X213.trans X1317
    clear hb1 hb2 hel gq eH14 eH15 eH16 src16 xb17 X1317 X213 hsp13 rg13 hb13 rb13 hl13 src13
    dsimp only [gName]
    show tSeq _ _ _ [_, _, _, _, _, _, _, _, _, _, _, _] _
    -- due
    obtain ⟨gx, hg17, rgx⟩ := id rg17
    have lgx : gx.length = gs.length := Paired.length rgx
    refine ⟨_, rfl, g, gx, rfl, .inl (SqL.of hg17), ?_⟩
    refine ⟨_, rfl, _, rfl, g, gx, rfl, .inl ⟨SqL.of hg17, ?_⟩⟩
    (intro gt ngt; generalize hGgt : upd _ gt _ = H18; have eH18 := exG hGgt ngt; have hgt := atG hGgt; clear hGgt)
    have kgt : KeyAt H18 gt gs := ⟨gx, hgt, rgx.mono eH18⟩
    (intro kd nkd; generalize hGkd : upd _ kd _ = H19; have eH19 := exG hGkd nkd; have hkd := atG hGkd; clear hGkd)
    have E19 := ext eH18 eH19
    have nd19 : ND P w H19 kd [] := ⟨hkd, fun x hx => nomatch hx⟩
    have bb : bndN gs.length ≤ 200000 := by
      have : ∀ n, n ≤ 8 → bndN n ≤ 200000 := by decide
      exact this _ (by omega)
    refine ⟨l, gt, kd, ds, gs, [], rfl, E19 _ _ hl17, ok, pr, kgt.mono eH19, gnod, gsk, ⟨p, sk, npg⟩, by omega, by omega, nd19, (fun x hx => nomatch hx), by show 0 + _ ≤ _; omega, fun fr H20 xs2 xb nd20 _ ⟨fs, hfs, hdep⟩ _ _ => ?_⟩
    have E20 : Ex H17 H20 := fun c u z => by
      have z3 := eH18 c u z
      exact xb c u (ne_of_none z3 nkd) (eH19 _ _ z3)
    have hget : DGet H20 fr (.ref sp) (some (V.int (finF ds gs p : Nat))) := by
      have := cnt_get hfs (E20 _ _ hsp17)
      rw [hdep p sk npg] at this
      exact this
    refine ⟨_, rfl, fr, _, rfl, hget, _, _, rfl, rfl, ?_⟩
    rw [lgx]
    have hl20 := E20 _ _ hl17
    have hsp20 := E20 _ _ hsp17
    have hq20 := hq3.mono E20
    have rq20 := rq17.mono E20
    have hb20 := E20 _ _ hb17
    have rb20 := rb17.mono E20
    have X220 := X217.trans (XB.of E20)
    clear hget hfs hdep nd20 xb bb nd19 E19 kgt hgt hkd rgx lgx hg17 X217 rq17 rb17 hb17 rg17 hsp17 hl17 E20 eH18 eH19
    dsimp only [gName]
    show tSeq _ _ _ [_, _, _, _, _, _, _, _, _, _, _, _] _
    -- found
    refine ⟨_, rfl, ?_⟩
    refine mk_tab (b := false) (ns := ds) (show SqH H20 (false, l) _ from hl20) ok fun tb H21 e21 ntb tab => ?_
    refine ⟨_, rfl, _, rfl, tb, sp, q3, ds, p, bs3, rfl, tab, ok, p9, rq20.mono e21, bsk, bnod, e21 _ _ hsp20, sk, fun H22 e22 => ?_⟩
    rw [opn]
    have E22 := ext e21 e22
    dsimp only [gName]
    refine ⟨_, rfl, _, rfl, rfl, _, rfl, itf (by simp) ?_⟩
    refine ⟨_, rfl, _, _, _, _, false, rfl, .ty _, .base (.int _), kit_ty (by decide +kernel), _, rfl, itf rfl ?_⟩
    refine ⟨_, rfl, q3.2, bx3, rfl, (hq20.mono E22).either, ?_⟩
    (intro nl2 nnl2; generalize hGnl2 : upd _ nl2 _ = H23; have eH23 := exG hGnl2 nnl2; have hnl2 := atG hGnl2; clear hGnl2)
    have E23 := ext E22 eH23
    refine ⟨_, rfl, _, _, .lst (SqL.of hnl2) (rb20.mono E23).dp, .lst (SqL.of (E23 _ _ hb20)) (rb20.mono E23).dp, (sh_rows (n := 58) _).ok, (sh_rows (n := 58) _).ok, _, rfl, itf ?_ ⟨⟨_, _, _, _, _, _, _, _, _, _, _, rfl⟩, (X220.trans (XB.of E23)) _ _ nd hd2⟩⟩
    rw [eqv_refl _ (sh_rows (n := 58) bs3).1]
    rfl
end

/-! ### the head by facts -/
def dd0 : He.DefD := ⟨("_wall", none), "_wall", "_wall", defArgs s_wall, defBody s_wall, defScope s_wall, [], []⟩
def dd1 : He.DefD := ⟨("is_integer", none), "is_integer", "is_integer", defArgs s_is_integer, defBody s_is_integer, defScope s_is_integer, [], []⟩
def dd2 : He.DefD := ⟨("is_at_least", none), "is_at_least", "is_at_least", defArgs s_is_at_least, defBody s_is_at_least, defScope s_is_at_least, [], []⟩
def dd3 : He.DefD := ⟨("is_between", none), "is_between", "is_between", defArgs s_is_between, defBody s_is_between, defScope s_is_between, [], []⟩
def dd4 : He.DefD := ⟨("greatest_common_divisor", none), "greatest_common_divisor", "greatest_common_divisor", defArgs s_greatest_common_divisor, defBody s_greatest_common_divisor, defScope s_greatest_common_divisor, [], []⟩
def dd5 : He.DefD := ⟨("Table", some "__init__"), "__init__", "Table.__init__", defArgs s_Table_init, defBody s_Table_init, defScope s_Table_init, [], []⟩
def dd6 : He.DefD := ⟨("Table", some "sizes"), "sizes", "Table.sizes", defArgs s_Table_sizes, defBody s_Table_sizes, defScope s_Table_sizes, [], []⟩
def dd7 : He.DefD := ⟨("Table", some "count"), "count", "Table.count", defArgs s_Table_count, defBody s_Table_count, defScope s_Table_count, [], []⟩
def dd8 : He.DefD := ⟨("Table", some "is_seat"), "is_seat", "Table.is_seat", defArgs s_Table_is_seat, defBody s_Table_is_seat, defScope s_Table_is_seat, [], []⟩
def dd9 : He.DefD := ⟨("Table", some "is_call"), "is_call", "Table.is_call", defArgs s_Table_is_call, defBody s_Table_is_call, defScope s_Table_is_call, [], []⟩
def dd10 : He.DefD := ⟨("Table", some "shifted"), "shifted", "Table.shifted", defArgs s_Table_shifted, defBody s_Table_shifted, defScope s_Table_shifted, [], []⟩
def dd11 : He.DefD := ⟨("Table", some "moves"), "moves", "Table.moves", defArgs s_Table_moves, defBody s_Table_moves, defScope s_Table_moves, [], []⟩
def dd12 : He.DefD := ⟨("Table", some "step"), "step", "Table.step", defArgs s_Table_step, defBody s_Table_step, defScope s_Table_step, [], []⟩
def dd13 : He.DefD := ⟨("Table", some "order"), "order", "Table.order", defArgs s_Table_order, defBody s_Table_order, defScope s_Table_order, [], []⟩
def dd14 : He.DefD := ⟨("Table", some "halves"), "halves", "Table.halves", defArgs s_Table_halves, defBody s_Table_halves, defScope s_Table_halves, [], []⟩
def dd15 : He.DefD := ⟨("require_table", none), "require_table", "require_table", defArgs s_require_table, defBody s_require_table, defScope s_require_table, [], []⟩
def dd16 : He.DefD := ⟨("require_seat", none), "require_seat", "require_seat", defArgs s_require_seat, defBody s_require_seat, defScope s_require_seat, [], []⟩
def dd17 : He.DefD := ⟨("all_seats", none), "all_seats", "all_seats", defArgs s_all_seats, defBody s_all_seats, defScope s_all_seats, [], []⟩
def dd18 : He.DefD := ⟨("mirror_seat", none), "mirror_seat", "mirror_seat", defArgs s_mirror_seat, defBody s_mirror_seat, defScope s_mirror_seat, [], []⟩
def dd19 : He.DefD := ⟨("require_visited", none), "require_visited", "require_visited", defArgs s_require_visited, defBody s_require_visited, defScope s_require_visited, [], []⟩
def dd20 : He.DefD := ⟨("require_state", none), "require_state", "require_state", defArgs s_require_state, defBody s_require_state, defScope s_require_state, [], []⟩
def dd21 : He.DefD := ⟨("unvisited_seats", none), "unvisited_seats", "unvisited_seats", defArgs s_unvisited_seats, defBody s_unvisited_seats, defScope s_unvisited_seats, [], []⟩
def dd22 : He.DefD := ⟨("forced_seats", none), "forced_seats", "forced_seats", defArgs s_forced_seats, defBody s_forced_seats, defScope s_forced_seats, [], []⟩
def dd23 : He.DefD := ⟨("final_counts", none), "final_counts", "final_counts", defArgs s_final_counts, defBody s_final_counts, defScope s_final_counts, [], []⟩
def dd24 : He.DefD := ⟨("max_more", none), "max_more", "max_more", defArgs s_max_more, defBody s_max_more, defScope s_max_more, [], []⟩
def dd25 : He.DefD := ⟨("_law_mix", none), "_law_mix", "_law_mix", defArgs s_law_mix, defBody s_law_mix, defScope s_law_mix, [], []⟩
def dd26 : He.DefD := ⟨("_law_source", none), "_law_source", "_law_source", defArgs s_law_source, defBody s_law_source, defScope s_law_source, [], []⟩
def dd27 : He.DefD := ⟨("_law_draw", none), "_law_draw", "_law_draw", defArgs s_law_draw, defBody s_law_draw, defScope s_law_draw, [], []⟩
def dd28 : He.DefD := ⟨("_law_choice", none), "_law_choice", "_law_choice", defArgs s_law_choice, defBody s_law_choice, defScope s_law_choice, [], []⟩
def dd29 : He.DefD := ⟨("_law_shuffle", none), "_law_shuffle", "_law_shuffle", defArgs s_law_shuffle, defBody s_law_shuffle, defScope s_law_shuffle, [], []⟩
def dd30 : He.DefD := ⟨("_law_dims", none), "_law_dims", "_law_dims", defArgs s_law_dims, defBody s_law_dims, defScope s_law_dims, [], []⟩
def dd31 : He.DefD := ⟨("_law_total", none), "_law_total", "_law_total", defArgs s_law_total, defBody s_law_total, defScope s_law_total, [], []⟩
def dd32 : He.DefD := ⟨("_law_spots", none), "_law_spots", "_law_spots", defArgs s_law_spots, defBody s_law_spots, defScope s_law_spots, [], []⟩
def dd33 : He.DefD := ⟨("_law_moved", none), "_law_moved", "_law_moved", defArgs s_law_moved, defBody s_law_moved, defScope s_law_moved, [], []⟩
def dd34 : He.DefD := ⟨("_law_forced", none), "_law_forced", "_law_forced", defArgs s_law_forced, defBody s_law_forced, defScope s_law_forced, [], []⟩
def dd35 : He.DefD := ⟨("_law_final", none), "_law_final", "_law_final", defArgs s_law_final, defBody s_law_final, defScope s_law_final, [], []⟩
def dd36 : He.DefD := ⟨("law", none), "law", "law", defArgs s_law, defBody s_law, defScope s_law, [], []⟩
def fnL0 : List He.DefD := [dd0, dd1, dd2, dd3, dd4, dd5, dd6, dd7, dd8, dd9, dd10, dd11, dd12, dd13, dd14, dd15, dd16, dd17, dd18, dd19, dd20, dd21, dd22, dd23, dd24, dd25, dd26, dd27, dd28, dd29]
def fnL1 : List He.DefD := [dd30, dd31, dd32, dd33, dd34, dd35, dd36]
def fnL : List He.DefD := fnL0 ++ fnL1
def faL0 : List He.Fa := [.glo "_wall", .glo "is_integer", .glo "is_at_least", .glo "is_between", .glo "greatest_common_divisor", .glo "require_table", .glo "require_seat", .glo "all_seats", .glo "mirror_seat", .glo "require_visited", .glo "require_state", .glo "unvisited_seats", .glo "forced_seats", .glo "final_counts", .glo "max_more", .glo "_law_mix", .glo "_law_source", .glo "_law_draw", .glo "_law_choice", .glo "_law_shuffle", .glo "_law_dims", .glo "_law_total", .glo "_law_spots", .glo "_law_moved", .glo "_law_forced", .glo "_law_final", .glo "law", .glo "Table", .cls "Table", .mkr "Table"]
def faL1 : List He.Fa := [.meth "Table" "sizes", .meth "Table" "count", .meth "Table" "is_seat", .meth "Table" "is_call", .meth "Table" "shifted", .meth "Table" "moves", .meth "Table" "step", .meth "Table" "order", .meth "Table" "halves", .noat "Table" "rings", .int "MAX_RINGS" 4, .int "MAX_SEARCHED" 9, .free "abs", .free "all", .free "any", .free "bool", .free "enumerate", .free "int", .free "isinstance", .free "len", .free "list", .free "min", .free "range", .free "sorted", .free "tuple", .free "zip"]
def faL : List He.Fa := faL0 ++ faL1
def exB (K : PySem.W.Frag) : Bool := (He.eqO (PySem.W.findIn K (.ref (He.ga K "Table")) "__class__") (some (some (.builtin "object.__class__")))) && ((decide (PySem.W.mroIn K (He.ga K "Table") (.type "object") = some true)) && ((He.eqO (PySem.W.specialIn K (.builtin "object.__class__") "__get__") (some (some (.builtin "getset_descriptor.__get__")))) && ((decide (PySem.W.takesIn K (.builtin "object.__class__") = some true)) && (true))))
abbrev AlK : Type := He.AlD × Bool
def obsK2 (K : PySem.W.Frag) : AlK := (He.obsD faL fnL K, exB K)
def SaysK (K : PySem.W.Frag) : Prop := obsK2 K = (He.valD fnL, true)
def obsK (g : Addr → Option Obj) : AlK := obsK2 (He.frG g (He.asD g 4))
def hk : PySem.W.Hook where
  α := AlK
  obs := fun s => obsK s.heap.get?
  val := fun _ => (He.valD fnL, true)
  says := fun _ h => ∃ K : PySem.W.Frag, K.In h ∧ SaysK K
  of := fun _ _ e => ⟨_, He.frG_in, e⟩
  keeps := fun _ _ _ ⟨K, hK, c⟩ k => ⟨K, PySem.W.Frag.In.keeps hK k, c⟩
def ob (s : PySem.W.SharedT) : AlK := obsK (HandSHeadRun.getT s)
theorem ob_eq (s : PySem.W.SharedT) : ob s = hk.obs s.abs := by
  have e : HandSHeadRun.getT s = s.abs.heap.get? := funext (HandSHeadRun.getT_eq s)
  show obsK (HandSHeadRun.getT s) = obsK s.abs.heap.get?
  rw [e]
def loose0 : List PySem.Str := ["_wall", "SeatError", "InvalidTable", "InvalidTargets", "InvalidSeat", "TooLarge", "is_integer", "is_at_least", "is_between", "greatest_common_divisor", "MAX_RINGS", "Table", "require_table", "require_seat", "all_seats", "mirror_seat", "MAX_SEARCHED", "require_visited", "require_state", "unvisited_seats", "forced_seats", "final_counts", "max_more", "_law_mix", "_law_source", "_law_draw", "_law_choice", "_law_shuffle", "_law_dims", "_law_total"]
def loose1 : List PySem.Str := ["_law_spots", "_law_moved", "_law_forced", "_law_final"]
def loose : List PySem.Str := loose0 ++ loose1
abbrev RR : PySem.W.OpenRow := PySem.W.OpenLaw.row PySem.Challenge.rw_calledseats_k66_max_more_by_search
abbrev QQ : Program := PySem.W.view RR.prog [40]
def kOf (s : PySem.W.SharedT) : PySem.W.Frag := He.frG (HandSHeadRun.getT s) (He.asD (HandSHeadRun.getT s) 4)
theorem runA (w : World) : HandSHeadRun.RunEq RR QQ PySem.W.Hook.none (fun _ => ()) 30000 loose w := by
  intro os
  kernel_rfl
def obB (s : PySem.W.SharedT) : Bool × List He.FnW := (fnL.all fun d => d.ok (kOf s), fnL.map fun d => He.fnW (kOf s) d.at_)
def obC (s : PySem.W.SharedT) : Bool × Bool := (faL.all fun f => f.ok (kOf s), exB (kOf s))
theorem runB (w : World) (os : OsState) : (HandSHeadRun.endF (HandSHeadRun.stepQ (HandSHeadRun.denQ HandSHeadRun.tabQ) RR.prog w) 30000 RR.prog w os).map obB = some (true, fnL.map He.DefD.val) := by
  kernel_rfl
theorem runC (w : World) (os : OsState) : (HandSHeadRun.endF (HandSHeadRun.stepQ (HandSHeadRun.denQ HandSHeadRun.tabQ) RR.prog w) 30000 RR.prog w os).map obC = some (true, true) := by
  kernel_rfl
theorem runTop (w : World) : HandSHeadRun.RunEq RR QQ hk ob 30000 loose w := by
  intro os
  have hA := runA w os
  have hB := runB w os
  have hC := runC w os
  cases e : HandSHeadRun.endF (HandSHeadRun.stepQ (HandSHeadRun.denQ HandSHeadRun.tabQ) RR.prog w) 30000 RR.prog w os with
  | none =>
    rw [e] at hB
    cases hB
  | some s =>
    rw [e] at hA hB hC
    have hA2 := Option.some.inj hA
    have hB2 : obB s = (true, fnL.map He.DefD.val) := Option.some.inj hB
    have hC2 : obC s = (true, true) := Option.some.inj hC
    have hA3 := Prod.mk.inj hA2
    have hA4 := Prod.mk.inj hA3.2
    obtain ⟨b1, b2⟩ := Prod.mk.inj hB2
    obtain ⟨c1, c2⟩ := Prod.mk.inj hC2
    have ho : ob s = (He.valD fnL, true) := by
      show (((faL.all fun f => f.ok (kOf s)) && (fnL.all fun d => d.ok (kOf s)), fnL.map fun d => He.fnW (kOf s) d.at_), exB (kOf s)) = ((true, fnL.map He.DefD.val), true)
      rw [c1, b1, b2, c2]
      rfl
    exact congrArg some (Prod.ext hA3.1 (Prod.ext hA4.1 ho))
theorem fun_of {K : PySem.W.Frag} {d : He.DefD} {st : Stmt} {x q : Str} {fd : FuncData} (e1 : d.name = x) (e2 : d.qual = q) (e3 : d.params = defArgs st) (e4 : d.body = defBody st) (e5 : d.scope = defScope st) (e6 : d.dfl = []) (F : L2.FunD K d.name d.qual d.params d.body d.scope (d.dvs K) (d.kws K) (He.fAd K d.at_) fd) : Fun K x q st (He.fAd K d.at_) fd := by
  obtain ⟨oc, od, dV, kV, doc, pm, an, cdv, ct, osl, h1, h2, h3, h4, h5⟩ := F.ex
  have h6 : dV = .none := by
    rcases h4 with ⟨_, h⟩ | ⟨h, _⟩
    · exact h
    · exact absurd (by show d.dfl.map _ = []; rw [e6]; rfl) h
  subst e1 e2
  rw [e3, e4, e5, h6] at h1
  exact ⟨⟨oc, od, kV, doc, pm, an, cdv, ct, osl, h1, h2, h3⟩, F.kp⟩
set_option maxHeartbeats 0 in
theorem tx_of {K : PySem.W.Frag} {h : Heap} {mg : Str → Option Value} (X : K.In h) (G : h.Ns mainGlobals mg) (c2 : SaysK K) :
    ∃ T : TX K mg, mg "law" = some (.ref T.f_law) ∧ ∀ (s : Shared) (v : Value), BindsTo s T.fd_law ⟨[v], []⟩ [("_law_script", v)] := by
  have c : He.SaysD faL fnL K := congrArg (fun z : AlK => z.1) c2
  have cx : exB K = true := congrArg (fun z : AlK => z.2) c2
  obtain ⟨ic_Table, cx⟩ := He.ba cx
  obtain ⟨im_Table, cx⟩ := He.ba cx
  obtain ⟨ig_, cx⟩ := He.ba cx
  obtain ⟨it_, cx⟩ := He.ba cx
  obtain ⟨fd0, D0⟩ := c.def_ 0 (d := dd0) rfl
  have F0 : Fun K "_wall" "_wall" s_wall (He.fAd K dd0.at_) fd0 := fun_of rfl rfl rfl rfl rfl rfl D0
  have b0 := F0.binds (ps := ["k"]) fun _ _ _ _ _ _ us hl => match us, hl with | [_], _ => rfl
  obtain ⟨fd1, D1⟩ := c.def_ 1 (d := dd1) rfl
  have F1 : Fun K "is_integer" "is_integer" s_is_integer (He.fAd K dd1.at_) fd1 := fun_of rfl rfl rfl rfl rfl rfl D1
  have b1 := F1.binds (ps := ["value"]) fun _ _ _ _ _ _ us hl => match us, hl with | [_], _ => rfl
  obtain ⟨fd2, D2⟩ := c.def_ 2 (d := dd2) rfl
  have F2 : Fun K "is_at_least" "is_at_least" s_is_at_least (He.fAd K dd2.at_) fd2 := fun_of rfl rfl rfl rfl rfl rfl D2
  have b2 := F2.binds (ps := ["value", "low"]) fun _ _ _ _ _ _ us hl => match us, hl with | [_, _], _ => rfl
  obtain ⟨fd3, D3⟩ := c.def_ 3 (d := dd3) rfl
  have F3 : Fun K "is_between" "is_between" s_is_between (He.fAd K dd3.at_) fd3 := fun_of rfl rfl rfl rfl rfl rfl D3
  have b3 := F3.binds (ps := ["value", "low", "high"]) fun _ _ _ _ _ _ us hl => match us, hl with | [_, _, _], _ => rfl
  obtain ⟨fd4, D4⟩ := c.def_ 4 (d := dd4) rfl
  have F4 : Fun K "greatest_common_divisor" "greatest_common_divisor" s_greatest_common_divisor (He.fAd K dd4.at_) fd4 := fun_of rfl rfl rfl rfl rfl rfl D4
  have b4 := F4.binds (ps := ["first", "second"]) fun _ _ _ _ _ _ us hl => match us, hl with | [_, _], _ => rfl
  obtain ⟨fd5, D5⟩ := c.def_ 5 (d := dd5) rfl
  have F5 : Fun K "__init__" "Table.__init__" s_Table_init (He.fAd K dd5.at_) fd5 := fun_of rfl rfl rfl rfl rfl rfl D5
  have b5 := F5.binds (ps := ["self", "rings"]) fun _ _ _ _ _ _ us hl => match us, hl with | [_, _], _ => rfl
  obtain ⟨fd6, D6⟩ := c.def_ 6 (d := dd6) rfl
  have F6 : Fun K "sizes" "Table.sizes" s_Table_sizes (He.fAd K dd6.at_) fd6 := fun_of rfl rfl rfl rfl rfl rfl D6
  have b6 := F6.binds (ps := ["self"]) fun _ _ _ _ _ _ us hl => match us, hl with | [_], _ => rfl
  obtain ⟨fd7, D7⟩ := c.def_ 7 (d := dd7) rfl
  have F7 : Fun K "count" "Table.count" s_Table_count (He.fAd K dd7.at_) fd7 := fun_of rfl rfl rfl rfl rfl rfl D7
  have b7 := F7.binds (ps := ["self"]) fun _ _ _ _ _ _ us hl => match us, hl with | [_], _ => rfl
  obtain ⟨fd8, D8⟩ := c.def_ 8 (d := dd8) rfl
  have F8 : Fun K "is_seat" "Table.is_seat" s_Table_is_seat (He.fAd K dd8.at_) fd8 := fun_of rfl rfl rfl rfl rfl rfl D8
  have b8 := F8.binds (ps := ["self", "value"]) fun _ _ _ _ _ _ us hl => match us, hl with | [_, _], _ => rfl
  obtain ⟨fd9, D9⟩ := c.def_ 9 (d := dd9) rfl
  have F9 : Fun K "is_call" "Table.is_call" s_Table_is_call (He.fAd K dd9.at_) fd9 := fun_of rfl rfl rfl rfl rfl rfl D9
  have b9 := F9.binds (ps := ["self", "value"]) fun _ _ _ _ _ _ us hl => match us, hl with | [_, _], _ => rfl
  obtain ⟨fd10, D10⟩ := c.def_ 10 (d := dd10) rfl
  have F10 : Fun K "shifted" "Table.shifted" s_Table_shifted (He.fAd K dd10.at_) fd10 := fun_of rfl rfl rfl rfl rfl rfl D10
  have b10 := F10.binds (ps := ["self", "seat", "call", "factor"]) fun _ _ _ _ _ _ us hl => match us, hl with | [_, _, _, _], _ => rfl
  obtain ⟨fd11, D11⟩ := c.def_ 11 (d := dd11) rfl
  have F11 : Fun K "moves" "Table.moves" s_Table_moves (He.fAd K dd11.at_) fd11 := fun_of rfl rfl rfl rfl rfl rfl D11
  have b11 := F11.binds (ps := ["self", "seat", "call"]) fun _ _ _ _ _ _ us hl => match us, hl with | [_, _, _], _ => rfl
  obtain ⟨fd12, D12⟩ := c.def_ 12 (d := dd12) rfl
  have F12 : Fun K "step" "Table.step" s_Table_step (He.fAd K dd12.at_) fd12 := fun_of rfl rfl rfl rfl rfl rfl D12
  have b12 := F12.binds (ps := ["self", "seat", "call", "direction"]) fun _ _ _ _ _ _ us hl => match us, hl with | [_, _, _, _], _ => rfl
  obtain ⟨fd13, D13⟩ := c.def_ 13 (d := dd13) rfl
  have F13 : Fun K "order" "Table.order" s_Table_order (He.fAd K dd13.at_) fd13 := fun_of rfl rfl rfl rfl rfl rfl D13
  have b13 := F13.binds (ps := ["self", "seat"]) fun _ _ _ _ _ _ us hl => match us, hl with | [_, _], _ => rfl
  obtain ⟨fd14, D14⟩ := c.def_ 14 (d := dd14) rfl
  have F14 : Fun K "halves" "Table.halves" s_Table_halves (He.fAd K dd14.at_) fd14 := fun_of rfl rfl rfl rfl rfl rfl D14
  have b14 := F14.binds (ps := ["self", "seat"]) fun _ _ _ _ _ _ us hl => match us, hl with | [_, _], _ => rfl
  obtain ⟨fd15, D15⟩ := c.def_ 15 (d := dd15) rfl
  have F15 : Fun K "require_table" "require_table" s_require_table (He.fAd K dd15.at_) fd15 := fun_of rfl rfl rfl rfl rfl rfl D15
  have b15 := F15.binds (ps := ["table"]) fun _ _ _ _ _ _ us hl => match us, hl with | [_], _ => rfl
  obtain ⟨fd16, D16⟩ := c.def_ 16 (d := dd16) rfl
  have F16 : Fun K "require_seat" "require_seat" s_require_seat (He.fAd K dd16.at_) fd16 := fun_of rfl rfl rfl rfl rfl rfl D16
  have b16 := F16.binds (ps := ["table", "seat"]) fun _ _ _ _ _ _ us hl => match us, hl with | [_, _], _ => rfl
  obtain ⟨fd17, D17⟩ := c.def_ 17 (d := dd17) rfl
  have F17 : Fun K "all_seats" "all_seats" s_all_seats (He.fAd K dd17.at_) fd17 := fun_of rfl rfl rfl rfl rfl rfl D17
  have b17 := F17.binds (ps := ["table"]) fun _ _ _ _ _ _ us hl => match us, hl with | [_], _ => rfl
  obtain ⟨fd18, D18⟩ := c.def_ 18 (d := dd18) rfl
  have F18 : Fun K "mirror_seat" "mirror_seat" s_mirror_seat (He.fAd K dd18.at_) fd18 := fun_of rfl rfl rfl rfl rfl rfl D18
  have b18 := F18.binds (ps := ["table", "seat", "other"]) fun _ _ _ _ _ _ us hl => match us, hl with | [_, _, _], _ => rfl
  obtain ⟨fd19, D19⟩ := c.def_ 19 (d := dd19) rfl
  have F19 : Fun K "require_visited" "require_visited" s_require_visited (He.fAd K dd19.at_) fd19 := fun_of rfl rfl rfl rfl rfl rfl D19
  have b19 := F19.binds (ps := ["table", "visited"]) fun _ _ _ _ _ _ us hl => match us, hl with | [_, _], _ => rfl
  obtain ⟨fd20, D20⟩ := c.def_ 20 (d := dd20) rfl
  have F20 : Fun K "require_state" "require_state" s_require_state (He.fAd K dd20.at_) fd20 := fun_of rfl rfl rfl rfl rfl rfl D20
  have b20 := F20.binds (ps := ["table", "visited", "seat"]) fun _ _ _ _ _ _ us hl => match us, hl with | [_, _, _], _ => rfl
  obtain ⟨fd21, D21⟩ := c.def_ 21 (d := dd21) rfl
  have F21 : Fun K "unvisited_seats" "unvisited_seats" s_unvisited_seats (He.fAd K dd21.at_) fd21 := fun_of rfl rfl rfl rfl rfl rfl D21
  have b21 := F21.binds (ps := ["table", "visited", "seat"]) fun _ _ _ _ _ _ us hl => match us, hl with | [_, _, _], _ => rfl
  obtain ⟨fd22, D22⟩ := c.def_ 22 (d := dd22) rfl
  have F22 : Fun K "forced_seats" "forced_seats" s_forced_seats (He.fAd K dd22.at_) fd22 := fun_of rfl rfl rfl rfl rfl rfl D22
  have b22 := F22.binds (ps := ["table", "goals", "allowed"]) fun _ _ _ _ _ _ us hl => match us, hl with | [_, _, _], _ => rfl
  obtain ⟨fd23, D23⟩ := c.def_ 23 (d := dd23) rfl
  have F23 : Fun K "final_counts" "final_counts" s_final_counts (He.fAd K dd23.at_) fd23 := fun_of rfl rfl rfl rfl rfl rfl D23
  have b23 := F23.binds (ps := ["table", "open_seats", "known"]) fun _ _ _ _ _ _ us hl => match us, hl with | [_, _, _], _ => rfl
  obtain ⟨fd24, D24⟩ := c.def_ 24 (d := dd24) rfl
  have F24 : Fun K "max_more" "max_more" s_max_more (He.fAd K dd24.at_) fd24 := fun_of rfl rfl rfl rfl rfl rfl D24
  have b24 := F24.binds (ps := ["table", "visited", "seat"]) fun _ _ _ _ _ _ us hl => match us, hl with | [_, _, _], _ => rfl
  obtain ⟨fd25, D25⟩ := c.def_ 25 (d := dd25) rfl
  have F25 : Fun K "_law_mix" "_law_mix" s_law_mix (He.fAd K dd25.at_) fd25 := fun_of rfl rfl rfl rfl rfl rfl D25
  have b25 := F25.binds (ps := ["_law_cell", "_law_step"]) fun _ _ _ _ _ _ us hl => match us, hl with | [_, _], _ => rfl
  obtain ⟨fd26, D26⟩ := c.def_ 26 (d := dd26) rfl
  have F26 : Fun K "_law_source" "_law_source" s_law_source (He.fAd K dd26.at_) fd26 := fun_of rfl rfl rfl rfl rfl rfl D26
  have b26 := F26.binds (ps := ["_law_cell"]) fun _ _ _ _ _ _ us hl => match us, hl with | [_], _ => rfl
  obtain ⟨fd27, D27⟩ := c.def_ 27 (d := dd27) rfl
  have F27 : Fun K "_law_draw" "_law_draw" s_law_draw (He.fAd K dd27.at_) fd27 := fun_of rfl rfl rfl rfl rfl rfl D27
  have b27 := F27.binds (ps := ["_law_source_here", "_law_bound"]) fun _ _ _ _ _ _ us hl => match us, hl with | [_, _], _ => rfl
  obtain ⟨fd28, D28⟩ := c.def_ 28 (d := dd28) rfl
  have F28 : Fun K "_law_choice" "_law_choice" s_law_choice (He.fAd K dd28.at_) fd28 := fun_of rfl rfl rfl rfl rfl rfl D28
  have b28 := F28.binds (ps := ["_law_source_here", "_law_options"]) fun _ _ _ _ _ _ us hl => match us, hl with | [_, _], _ => rfl
  obtain ⟨fd29, D29⟩ := c.def_ 29 (d := dd29) rfl
  have F29 : Fun K "_law_shuffle" "_law_shuffle" s_law_shuffle (He.fAd K dd29.at_) fd29 := fun_of rfl rfl rfl rfl rfl rfl D29
  have b29 := F29.binds (ps := ["_law_source_here", "_law_options"]) fun _ _ _ _ _ _ us hl => match us, hl with | [_, _], _ => rfl
  obtain ⟨fd30, D30⟩ := c.def_ 30 (d := dd30) rfl
  have F30 : Fun K "_law_dims" "_law_dims" s_law_dims (He.fAd K dd30.at_) fd30 := fun_of rfl rfl rfl rfl rfl rfl D30
  have b30 := F30.binds (ps := ["_law_source_here", "_law_bound"]) fun _ _ _ _ _ _ us hl => match us, hl with | [_, _], _ => rfl
  obtain ⟨fd31, D31⟩ := c.def_ 31 (d := dd31) rfl
  have F31 : Fun K "_law_total" "_law_total" s_law_total (He.fAd K dd31.at_) fd31 := fun_of rfl rfl rfl rfl rfl rfl D31
  have b31 := F31.binds (ps := ["_law_dims_here"]) fun _ _ _ _ _ _ us hl => match us, hl with | [_], _ => rfl
  obtain ⟨fd32, D32⟩ := c.def_ 32 (d := dd32) rfl
  have F32 : Fun K "_law_spots" "_law_spots" s_law_spots (He.fAd K dd32.at_) fd32 := fun_of rfl rfl rfl rfl rfl rfl D32
  have b32 := F32.binds (ps := ["_law_dims_here"]) fun _ _ _ _ _ _ us hl => match us, hl with | [_], _ => rfl
  obtain ⟨fd33, D33⟩ := c.def_ 33 (d := dd33) rfl
  have F33 : Fun K "_law_moved" "_law_moved" s_law_moved (He.fAd K dd33.at_) fd33 := fun_of rfl rfl rfl rfl rfl rfl D33
  have b33 := F33.binds (ps := ["_law_dims_here", "_law_spot", "_law_hop", "_law_factor"]) fun _ _ _ _ _ _ us hl => match us, hl with | [_, _, _, _], _ => rfl
  obtain ⟨fd34, D34⟩ := c.def_ 34 (d := dd34) rfl
  have F34 : Fun K "_law_forced" "_law_forced" s_law_forced (He.fAd K dd34.at_) fd34 := fun_of rfl rfl rfl rfl rfl rfl D34
  have b34 := F34.binds (ps := ["_law_dims_here", "_law_goals", "_law_allowed"]) fun _ _ _ _ _ _ us hl => match us, hl with | [_, _, _], _ => rfl
  obtain ⟨fd35, D35⟩ := c.def_ 35 (d := dd35) rfl
  have F35 : Fun K "_law_final" "_law_final" s_law_final (He.fAd K dd35.at_) fd35 := fun_of rfl rfl rfl rfl rfl rfl D35
  have b35 := F35.binds (ps := ["_law_dims_here", "_law_goals", "_law_known"]) fun _ _ _ _ _ _ us hl => match us, hl with | [_, _, _], _ => rfl
  obtain ⟨fd36, D36⟩ := c.def_ 36 (d := dd36) rfl
  have F36 : Fun K "law" "law" s_law (He.fAd K dd36.at_) fd36 := fun_of rfl rfl rfl rfl rfl rfl D36
  have b36 := F36.binds (ps := ["_law_script"]) fun _ _ _ _ _ _ us hl => match us, hl with | [_], _ => rfl
  obtain ⟨t_MAX_RINGS, e_MAX_RINGS⟩ := He.int_ok X G (c.fact 40 (f := .int "MAX_RINGS" 4) rfl)
  obtain ⟨t_MAX_SEARCHED, e_MAX_SEARCHED⟩ := He.int_ok X G (c.fact 41 (f := .int "MAX_SEARCHED" 9) rfl)
  refine ⟨{
    f_wall := He.fAd K dd0.at_, fd_wall := fd0, F_wall := F0, b_wall := b0, m_wall := He.glo_ok X G (c.fact 0 (f := .glo "_wall") rfl),
    f_is_integer := He.fAd K dd1.at_, fd_is_integer := fd1, F_is_integer := F1, b_is_integer := b1, m_is_integer := He.glo_ok X G (c.fact 1 (f := .glo "is_integer") rfl),
    f_is_at_least := He.fAd K dd2.at_, fd_is_at_least := fd2, F_is_at_least := F2, b_is_at_least := b2, m_is_at_least := He.glo_ok X G (c.fact 2 (f := .glo "is_at_least") rfl),
    f_is_between := He.fAd K dd3.at_, fd_is_between := fd3, F_is_between := F3, b_is_between := b3, m_is_between := He.glo_ok X G (c.fact 3 (f := .glo "is_between") rfl),
    f_greatest_common_divisor := He.fAd K dd4.at_, fd_greatest_common_divisor := fd4, F_greatest_common_divisor := F4, b_greatest_common_divisor := b4, m_greatest_common_divisor := He.glo_ok X G (c.fact 4 (f := .glo "greatest_common_divisor") rfl),
    f_Table_init := He.fAd K dd5.at_, fd_Table_init := fd5, F_Table_init := F5, b_Table_init := b5,
    f_Table_sizes := He.fAd K dd6.at_, fd_Table_sizes := fd6, F_Table_sizes := F6, b_Table_sizes := b6,
    f_Table_count := He.fAd K dd7.at_, fd_Table_count := fd7, F_Table_count := F7, b_Table_count := b7,
    f_Table_is_seat := He.fAd K dd8.at_, fd_Table_is_seat := fd8, F_Table_is_seat := F8, b_Table_is_seat := b8,
    f_Table_is_call := He.fAd K dd9.at_, fd_Table_is_call := fd9, F_Table_is_call := F9, b_Table_is_call := b9,
    f_Table_shifted := He.fAd K dd10.at_, fd_Table_shifted := fd10, F_Table_shifted := F10, b_Table_shifted := b10,
    f_Table_moves := He.fAd K dd11.at_, fd_Table_moves := fd11, F_Table_moves := F11, b_Table_moves := b11,
    f_Table_step := He.fAd K dd12.at_, fd_Table_step := fd12, F_Table_step := F12, b_Table_step := b12,
    f_Table_order := He.fAd K dd13.at_, fd_Table_order := fd13, F_Table_order := F13, b_Table_order := b13,
    f_Table_halves := He.fAd K dd14.at_, fd_Table_halves := fd14, F_Table_halves := F14, b_Table_halves := b14,
    f_require_table := He.fAd K dd15.at_, fd_require_table := fd15, F_require_table := F15, b_require_table := b15, m_require_table := He.glo_ok X G (c.fact 5 (f := .glo "require_table") rfl),
    f_require_seat := He.fAd K dd16.at_, fd_require_seat := fd16, F_require_seat := F16, b_require_seat := b16, m_require_seat := He.glo_ok X G (c.fact 6 (f := .glo "require_seat") rfl),
    f_all_seats := He.fAd K dd17.at_, fd_all_seats := fd17, F_all_seats := F17, b_all_seats := b17, m_all_seats := He.glo_ok X G (c.fact 7 (f := .glo "all_seats") rfl),
    f_mirror_seat := He.fAd K dd18.at_, fd_mirror_seat := fd18, F_mirror_seat := F18, b_mirror_seat := b18, m_mirror_seat := He.glo_ok X G (c.fact 8 (f := .glo "mirror_seat") rfl),
    f_require_visited := He.fAd K dd19.at_, fd_require_visited := fd19, F_require_visited := F19, b_require_visited := b19, m_require_visited := He.glo_ok X G (c.fact 9 (f := .glo "require_visited") rfl),
    f_require_state := He.fAd K dd20.at_, fd_require_state := fd20, F_require_state := F20, b_require_state := b20, m_require_state := He.glo_ok X G (c.fact 10 (f := .glo "require_state") rfl),
    f_unvisited_seats := He.fAd K dd21.at_, fd_unvisited_seats := fd21, F_unvisited_seats := F21, b_unvisited_seats := b21, m_unvisited_seats := He.glo_ok X G (c.fact 11 (f := .glo "unvisited_seats") rfl),
    f_forced_seats := He.fAd K dd22.at_, fd_forced_seats := fd22, F_forced_seats := F22, b_forced_seats := b22, m_forced_seats := He.glo_ok X G (c.fact 12 (f := .glo "forced_seats") rfl),
    f_final_counts := He.fAd K dd23.at_, fd_final_counts := fd23, F_final_counts := F23, b_final_counts := b23, m_final_counts := He.glo_ok X G (c.fact 13 (f := .glo "final_counts") rfl),
    f_max_more := He.fAd K dd24.at_, fd_max_more := fd24, F_max_more := F24, b_max_more := b24, m_max_more := He.glo_ok X G (c.fact 14 (f := .glo "max_more") rfl),
    f_law_mix := He.fAd K dd25.at_, fd_law_mix := fd25, F_law_mix := F25, b_law_mix := b25, m_law_mix := He.glo_ok X G (c.fact 15 (f := .glo "_law_mix") rfl),
    f_law_source := He.fAd K dd26.at_, fd_law_source := fd26, F_law_source := F26, b_law_source := b26, m_law_source := He.glo_ok X G (c.fact 16 (f := .glo "_law_source") rfl),
    f_law_draw := He.fAd K dd27.at_, fd_law_draw := fd27, F_law_draw := F27, b_law_draw := b27, m_law_draw := He.glo_ok X G (c.fact 17 (f := .glo "_law_draw") rfl),
    f_law_choice := He.fAd K dd28.at_, fd_law_choice := fd28, F_law_choice := F28, b_law_choice := b28, m_law_choice := He.glo_ok X G (c.fact 18 (f := .glo "_law_choice") rfl),
    f_law_shuffle := He.fAd K dd29.at_, fd_law_shuffle := fd29, F_law_shuffle := F29, b_law_shuffle := b29, m_law_shuffle := He.glo_ok X G (c.fact 19 (f := .glo "_law_shuffle") rfl),
    f_law_dims := He.fAd K dd30.at_, fd_law_dims := fd30, F_law_dims := F30, b_law_dims := b30, m_law_dims := He.glo_ok X G (c.fact 20 (f := .glo "_law_dims") rfl),
    f_law_total := He.fAd K dd31.at_, fd_law_total := fd31, F_law_total := F31, b_law_total := b31, m_law_total := He.glo_ok X G (c.fact 21 (f := .glo "_law_total") rfl),
    f_law_spots := He.fAd K dd32.at_, fd_law_spots := fd32, F_law_spots := F32, b_law_spots := b32, m_law_spots := He.glo_ok X G (c.fact 22 (f := .glo "_law_spots") rfl),
    f_law_moved := He.fAd K dd33.at_, fd_law_moved := fd33, F_law_moved := F33, b_law_moved := b33, m_law_moved := He.glo_ok X G (c.fact 23 (f := .glo "_law_moved") rfl),
    f_law_forced := He.fAd K dd34.at_, fd_law_forced := fd34, F_law_forced := F34, b_law_forced := b34, m_law_forced := He.glo_ok X G (c.fact 24 (f := .glo "_law_forced") rfl),
    f_law_final := He.fAd K dd35.at_, fd_law_final := fd35, F_law_final := F35, b_law_final := b35, m_law_final := He.glo_ok X G (c.fact 25 (f := .glo "_law_final") rfl),
    f_law := He.fAd K dd36.at_, fd_law := fd36, F_law := F36, b_law := b36, m_law := He.glo_ok X G (c.fact 26 (f := .glo "law") rfl),
    C_Table := He.ga K "Table", cl_Table := He.cls_ok (c.fact 28 (f := .cls "Table") rfl), m_Table := He.glo_ok X G (c.fact 27 (f := .glo "Table") rfl),
    M_Table := He.mkr_ok (c.fact 29 (f := .mkr "Table") rfl),
    me_Table_sizes := He.meth_ok (c.fact 30 (f := .meth "Table" "sizes") rfl),
    me_Table_count := He.meth_ok (c.fact 31 (f := .meth "Table" "count") rfl),
    me_Table_is_seat := He.meth_ok (c.fact 32 (f := .meth "Table" "is_seat") rfl),
    me_Table_is_call := He.meth_ok (c.fact 33 (f := .meth "Table" "is_call") rfl),
    me_Table_shifted := He.meth_ok (c.fact 34 (f := .meth "Table" "shifted") rfl),
    me_Table_moves := He.meth_ok (c.fact 35 (f := .meth "Table" "moves") rfl),
    me_Table_step := He.meth_ok (c.fact 36 (f := .meth "Table" "step") rfl),
    me_Table_order := He.meth_ok (c.fact 37 (f := .meth "Table" "order") rfl),
    me_Table_halves := He.meth_ok (c.fact 38 (f := .meth "Table" "halves") rfl),
    n_Table_rings := He.noat_ok (c.fact 39 (f := .noat "Table" "rings") rfl),
    ic_Table := He.eqO_ok ic_Table,
    im_Table := of_decide_eq_true im_Table,
    ig_ := He.eqO_ok ig_,
    it_ := of_decide_eq_true it_,
    t_MAX_RINGS := t_MAX_RINGS, c_MAX_RINGS := e_MAX_RINGS,
    t_MAX_SEARCHED := t_MAX_SEARCHED, c_MAX_SEARCHED := e_MAX_SEARCHED,
    z_abs := He.free_ok X G (c.fact 42 (f := .free "abs") rfl),
    z_all := He.free_ok X G (c.fact 43 (f := .free "all") rfl),
    z_any := He.free_ok X G (c.fact 44 (f := .free "any") rfl),
    z_bool := He.free_ok X G (c.fact 45 (f := .free "bool") rfl),
    z_enumerate := He.free_ok X G (c.fact 46 (f := .free "enumerate") rfl),
    z_int := He.free_ok X G (c.fact 47 (f := .free "int") rfl),
    z_isinstance := He.free_ok X G (c.fact 48 (f := .free "isinstance") rfl),
    z_len := He.free_ok X G (c.fact 49 (f := .free "len") rfl),
    z_list := He.free_ok X G (c.fact 50 (f := .free "list") rfl),
    z_min := He.free_ok X G (c.fact 51 (f := .free "min") rfl),
    z_range := He.free_ok X G (c.fact 52 (f := .free "range") rfl),
    z_sorted := He.free_ok X G (c.fact 53 (f := .free "sorted") rfl),
    z_tuple := He.free_ok X G (c.fact 54 (f := .free "tuple") rfl),
    z_zip := He.free_ok X G (c.fact 55 (f := .free "zip") rfl)
  }, He.glo_ok X G (c.fact 26 (f := .glo "law") rfl), fun s v => ?_⟩
  obtain ⟨oc, od, kV, doc, pm, an, cdv, ct, osl, h1, h2, h3⟩ := F36.ex
  show BindsTo s fd36 _ _
  rw [h1]
  exact .of_eq rfl
end CS
open PySem PySem.W PySem.Calls PyProof.Rows in
set_option maxRecDepth 100000 in
set_option maxHeartbeats 0 in
theorem PySem.Challenge.cw_calledseats_k66_max_more_by_search_holds : PySem.Challenge.rw_calledseats_k66_max_more_by_search.Holds := by
  w_on; o_law
  refine HandSHeadRun.head_any (r := OpenLaw.row PySem.Challenge.rw_calledseats_k66_max_more_by_search) (q := view (OpenLaw.row PySem.Challenge.rw_calledseats_k66_max_more_by_search).prog [40]) (H := CS.hk) (ob := CS.ob) (M := 30000) (loose := CS.loose) (d := HandSHeadRun.topDef (OpenLaw.row PySem.Challenge.rw_calledseats_k66_max_more_by_search).prog 40) (kwd := []) CS.ob_eq
    (by kernel_rfl) (fun s => by kernel_rfl) CS.runTop (by kernel_rfl) (by kernel_rfl) (by kernel_rfl) (by rfl) (by first | assumption | decide +kernel) (by decide +kernel) ⟨rfl, rfl, rfl, rfl, rfl, by decide +kernel⟩ ?hw ?hc
  case hw => w_witness2
  case hc =>
    refine L2.walk_ofE (l := PySem.Challenge.rw_calledseats_k66_max_more_by_search) (n := 63) (k := 16) (x := "_law_script") (CX := L2.CX0) rfl (by decide) (by kernel_rfl) ⟨rfl, by decide, by decide⟩ ?F (fun _ _ _ _ z => z)
    intro w mg fa h Y G hmg0
    obtain ⟨K, KX, c⟩ := Y
    have hmg : mg ("law" : PySem.Str) = some (.ref fa) := by
      have e : (HandSHeadRun.topDef (OpenLaw.row PySem.Challenge.rw_calledseats_k66_max_more_by_search).prog 40).name = ("law" : PySem.Str) := by kernel_rfl
      rw [← e]
      exact hmg0
    obtain ⟨T, e1, e2⟩ := CS.tx_of KX G c
    have e := hmg.symm.trans e1
    cases e
    exact ⟨K, T.fd_law, CS.sp_law K, KX, e2, fun H a ns hl _ hS => ⟨a, ns, rfl, hS, hl, fun _ => rfl⟩, fun base _ _ => CS.ok_law T⟩
