import PyProof.Rows.All
import Wide.All
import OpenK.AllK
import Wide.FinOn
import HandS.ForMost
import KE.GoesEnumKw
import KE.KDictZip
import HandS.Flow
import HandS.Wide
import HandS.WideBits
import HandS.IsInst
import HandS.Defaults
import HandS.StrMore
import HandS.Conv
import HandS.Style
import HandS.TupMul
import HandS.TupAny
import PyProof.Rows.IntBool
import HandS.SortInts
import HandS.WideMore
import HandS.Codes
import HandS.Deep
import HandS.More
import HandS.Rev
import HandS.RaiseMore
import HandS.Ends
import HandS.IntHex
import KE.KTupSum
import HandS.SortRule
import HandS.NamedTupSort
import HandS.TupSets
import PyProof.ReprRoads
import HandS.List
import PyProof.ReprLen
import PyProof.StrLawsRepr
import PyProof.FitsInt
import HandS.Small
import HandS.SetFor
import HandS.Strs
import PyProof.CallStr
import PyProof.TupleOfStr
import HandS.Dict
import HandS.DictComp
import KE.KEqDict
import HandS.RevRange
import HandS.Iter
import KE.KDictPairs
import PyProof.Rows.RuleB_bool
import PyProof.SliceStr2
import PyProof.CollectStr
import PySem.Challenge.RW_masklanes_k15_widest_lanes
set_option Elab.async false
set_option linter.all false
set_option maxRecDepth 100000
set_option maxHeartbeats 4000000
/-! ZS: zip(.., strict=True) of two iterators of any kind. -/
namespace PySem
open Sem (wp)
/-- a zip's record: what it has handed out, whether that was met again, whether it is strict -/
abbrev IsZipS (h : Heap) (z TI TO : Addr) (f0 : Value) (f1 : Bool) : Prop := h.get? z = some { cls := .type "zip", data := .fields #[f0, .bool f1, .bool true, .ref TI, .ref TO] }

section
variable {prog : Program} {w : World} {A : Around} {E : Value → Shared → Prop} {s : Shared}
theorem Draws.itemE {it : Addr} {fp : List Addr} {n i : Nat} {P : Nat → Value → Prop} {St : Nat → Heap → Prop} {Q : Option Value → Shared → Prop} (D : Draws prog w A it fp n P St) (hi : i < n) (st : St i s.heap)
    (hQ : ∀ x h' tk, P i x → St (i + 1) h' → Heap.SameBut it s.heap h' → Q (some x) { s with heap := h', toks := tk }) : wpAny (model prog w) A (Builtin.SmallTypes.nextOrEnd (.ref it)) Q E s := by
  unfold Builtin.SmallTypes.nextOrEnd
  refine wpAny_bind (wpAny_attempt (D.item i s _ _ hi st fun x h' tk p st' sb => ?_))
  exact wpAny_pure (hQ x h' tk p st' sb)
theorem Draws.doneE {it : Addr} {fp : List Addr} {n : Nat} {P : Nat → Value → Prop} {St : Nat → Heap → Prop} {Q : Option Value → Shared → Prop} (D : Draws prog w A it fp n P St) (st : St n s.heap)
    (hQ : ∀ h', Heap.ExtBut it s.heap h' → Q none { s with heap := h' }) : wpAny (model prog w) A (Builtin.SmallTypes.nextOrEnd (.ref it)) Q E s := by
  unfold Builtin.SmallTypes.nextOrEnd
  refine wpAny_bind (wpAny_attempt (D.done s _ _ st fun h' e ex he => ?_))
  obtain ⟨o, ho, hc⟩ := he
  refine wpAny_bind (wpAny_isInstance (T := "StopIteration") (b := true) ⟨o, ho, hc⟩ isSubtype_stop ?_)
  exact wpAny_pure (hQ _ ex)
end

section
variable {prog : Program} {w : World} {A : Around} {E : Value → Shared → Prop} {s : Shared} {z TI TO i1 i2 : Addr} {fp1 fp2 : List Addr} {n i : Nat} {P1 P2 : Nat → Value → Prop} {St1 St2 : Nat → Heap → Prop} {a1 a2 : Value} {f1 : Bool}

theorem free_none {Q : Bool → Shared → Prop} (hz : IsZipS s.heap z TI TO .none f1) (h : Q true s) : wpAny (model prog w) A (Builtin.SmallTypes.ownedTupleIsFree (.ref z)) Q E s := by
  unfold Builtin.SmallTypes.ownedTupleIsFree
  exact wpAny_bind (wpAny_field hz rfl (x := .none) rfl (wpAny_pure h))
theorem look_dead {a : Addr} {Q : Option Obj → Shared → Prop} (ho : s.heap.get? a = none) (h : Q none s) : wpAny (model prog w) A (loadIfAlive a) Q E s := by
  have h' : Q (s.heap.get? a) s := by rw [ho]; exact h
  exact fun _ _ _ => h'
theorem free_dead {T : Addr} {Q : Bool → Shared → Prop} (hz : IsZipS s.heap z TI TO (rawInt T) f1) (hT : s.heap.get? T = none) (h : Q true s) : wpAny (model prog w) A (Builtin.SmallTypes.ownedTupleIsFree (.ref z)) Q E s := by
  unfold Builtin.SmallTypes.ownedTupleIsFree
  refine wpAny_bind (wpAny_field hz rfl (x := rawInt T) rfl ?_)
  show wpAny _ _ (loadIfAlive ((T : Int).toNat) >>= _) _ _ _
  rw [Int.toNat_natCast]
  refine wpAny_bind (look_dead hT ?_)
  simp only [Option.isNone_none, if_true]
  exact wpAny_pure h
/-- the tuple it has handed out is free -/
theorem zipS_next_item {f0 : Value} {Q : Value → Shared → Prop} (hfr : ∀ {E : Value → Shared → Prop} {Q : Bool → Shared → Prop}, Q true s → wpAny (model prog w) A (Builtin.SmallTypes.ownedTupleIsFree (.ref z)) Q E s)
    (S : ZipSep2 z TI TO i1 i2 fp1 fp2) (D1 : Draws prog w A i1 fp1 n P1 St1) (D2 : Draws prog w A i2 fp2 n P2 St2)
    (hz : IsZipS s.heap z TI TO f0 f1) (hTI : IsTupOf2 s.heap TI (.ref i1) (.ref i2)) (hTO : IsTupOf2 s.heap TO a1 a2) (st1 : St1 i s.heap) (st2 : St2 i s.heap) (hlt : i < n)
    (hQ : ∀ x1 x2 h' tk, P1 i x1 → P2 i x2 → IsZipS h' z TI TO (rawInt s.heap.objs.size) false → IsTupOf2 h' TO x1 x2 → St1 (i + 1) h' → St2 (i + 1) h' → IsTupOf2 h' s.heap.objs.size x1 x2 → h'.objs.size = s.heap.objs.size + 1 →
      (∀ c o, c ≠ z → c ≠ TO → c ≠ i1 → c ≠ i2 → s.heap.get? c = some o → h'.get? c = some o) → Q (.ref s.heap.objs.size) { s with heap := h', toks := tk }) :
    wpAny (model prog w) A (Builtin.«zip.__next__» ⟨[.ref z], []⟩) (fun fin s' => ∃ v, fin = .done (.ret v) ∧ Q v s') E s := by
  obtain ⟨hp, g, d, tk0, os⟩ := s
  show wpAny _ _ (field (.ref z) 2 >>= _) _ _ _
  refine wpAny_bind (wpAny_field hz rfl (x := .bool true) rfl ?_)
  show wpAny _ _ (field (.ref z) 3 >>= _) _ _ _
  refine wpAny_bind (wpAny_field hz rfl (x := .ref TI) rfl ?_)
  refine wpAny_bind (wpAny_seqItems hTI rfl ?_)
  show wpAny _ _ (Builtin.SmallTypes.ownedTupleIsFree (.ref z) >>= _) _ _ _
  refine wpAny_bind (hfr ?_)
  simp only [if_true]
  refine wpAny_bind (wpAny_rule ?_)
  refine wpAny_bind (wpAny_field hz rfl (x := .ref TO) rfl ?_)
  refine wpAny_bind (wpAny_setField_rec hz (by simp) fun g0 hz0 hs0 => ?_)
  replace hz0 : IsZipS g0 z TI TO .ellipsis f1 := hz0
  replace hs0 : Heap.SameBut z hp g0 := hs0
  refine wpAny_bind ?_
  simp only [List.zipIdx_cons, List.zipIdx_nil, List.forIn_cons, List.forIn_nil]
  refine wpAny_bind (wpAny_bind (wpAny_onRaise ?_))
  show wpAny _ _ (Builtin.SmallTypes.nextOrEnd (.ref i1)) _ _ ⟨g0, g, d, tk0, os⟩
  refine D1.itemE (i := i) hlt (D1.over st1 hs0 S.zf1) fun x1 p1 tk1 hx1 sn1 hp1 => ?_
  replace hp1 : Heap.SameBut i1 g0 p1 := hp1
  have hU1 : IsTupOf2 p1 TO a1 a2 := hp1.extBut _ _ S.Ti1 (hs0.extBut _ _ S.TOz hTO)
  refine wpAny_bind (wpAny_seqItems (s := ⟨p1, g, d, tk1, os⟩) hU1 rfl ?_)
  refine wpAny_bind (updateSeq_IsTupOf2 (s := ⟨p1, g, d, tk1, os⟩) hU1 fun g1 hT1 hs1 => ?_)
  replace hT1 : IsTupOf2 g1 TO x1 a2 := hT1
  replace hs1 : Heap.SameBut TO p1 g1 := hs1
  refine wpAny_bind (wpAny_letGo (wpAny_pure ?_))
  refine wpAny_bind (wpAny_bind (wpAny_onRaise ?_))
  show wpAny _ _ (Builtin.SmallTypes.nextOrEnd (.ref i2)) _ _ ⟨g1, g, d, tk1, os⟩
  refine D2.itemE (i := i) hlt (D2.over (D2.over (D2.over st2 hs0 S.zf2) hp1 S.sep1_2) hs1 S.Tf2) fun x2 p2 tk2 hx2 sn2 hp2 => ?_
  replace hp2 : Heap.SameBut i2 g1 p2 := hp2
  have hU2 : IsTupOf2 p2 TO x1 a2 := hp2.extBut _ _ S.Ti2 hT1
  refine wpAny_bind (wpAny_seqItems (s := ⟨p2, g, d, tk2, os⟩) hU2 rfl ?_)
  refine wpAny_bind (updateSeq_IsTupOf2 (s := ⟨p2, g, d, tk2, os⟩) hU2 fun g2 hT2 hs2 => ?_)
  replace hT2 : IsTupOf2 g2 TO x1 x2 := hT2
  replace hs2 : Heap.SameBut TO p2 g2 := hs2
  refine wpAny_bind (wpAny_letGo (wpAny_pure (wpAny_pure ?_)))
  refine wpAny_bind (wpAny_seqItems (s := ⟨g2, g, d, tk2, os⟩) hT2 rfl ?_)
  refine wpAny_bind (wpAny_newTuple ?_)
  have hsz : g2.objs.size = hp.objs.size := by rw [hs2.1, hp2.1, hs1.1, hp1.1, hs0.1]
  have hzz : IsZipS g2 z TI TO .ellipsis f1 := (hs2.extBut _ _ S.TOz.symm (hp2.extBut _ _ S.zi2 (hs1.extBut _ _ S.TOz.symm (hp1.extBut _ _ S.zi1 hz0))))
  have hkk : ∀ c o, c ≠ z → c ≠ TO → c ≠ i1 → c ≠ i2 → hp.get? c = some o → g2.get? c = some o := fun c o cz cT c1 c2 e =>
    (hs2.extBut _ _ cT (hp2.extBut _ _ c2 (hs1.extBut _ _ cT (hp1.extBut _ _ c1 (hs0.extBut _ _ cz e)))))
  have hj1 : St1 (i + 1) g2 := (D1.over (D1.over (D1.over sn1 hs1 S.Tf1) hp2 S.sep2_1) hs2 S.Tf1)
  have hj2 : St2 (i + 1) g2 := (D2.over sn2 hs2 S.Tf2)
  have hzlt : z < g2.objs.size := Heap.lt_size hzz
  show wpAny _ _ (Builtin.SmallTypes.ownedTupleHandOut (.ref z) (.ref g2.objs.size) >>= _) _ _ ⟨g2.push { cls := .type "tuple", data := .seq #[x1, x2] }, g, d, tk2, os⟩
  refine wpAny_bind ?_
  unfold Builtin.SmallTypes.ownedTupleHandOut
  have hz6 : IsZipS (g2.push { cls := .type "tuple", data := .seq #[x1, x2] }) z TI TO .ellipsis f1 := Heap.get?_push_of_some _ hzz
  refine wpAny_bind (wpAny_setField_rec hz6 (by simp) fun h7 hz7 hs7 => ?_)
  replace hz7 : IsZipS h7 z TI TO (rawInt g2.objs.size) f1 := hz7
  refine wpAny_setField_rec hz7 (by simp) fun h8 hz8 hs8 => ?_
  replace hz8 : IsZipS h8 z TI TO (rawInt g2.objs.size) false := hz8
  replace hs7 : Heap.SameBut z (g2.push { cls := .type "tuple", data := .seq #[x1, x2] }) h7 := hs7
  replace hs8 : Heap.SameBut z h7 h8 := hs8
  have up : ∀ c o, c ≠ z → g2.get? c = some o → h8.get? c = some o := fun c o c1 e => hs8.extBut _ _ c1 (hs7.extBut _ _ c1 (Heap.get?_push_of_some _ e))
  have hT8 : IsTupOf2 h8 g2.objs.size x1 x2 := hs8.extBut _ _ (Nat.ne_of_gt hzlt) (hs7.extBut _ _ (Nat.ne_of_gt hzlt) (Heap.get?_push_size _ rfl))
  have hz9 : h8.objs.size = g2.objs.size + 1 := by rw [hs8.1, hs7.1, Heap.size_push]
  rw [hsz] at hz8 hT8 hz9
  refine wpAny_pure ⟨_, rfl, ?_⟩
  show Q (.ref g2.objs.size) ⟨h8, g, d, tk2, os⟩
  rw [hsz]
  exact hQ x1 x2 h8 tk2 hx1 hx2 hz8 (up _ _ S.TOz hT2) (D1.frame _ _ _ hj1 fun b hb o e => up b o (fun q => S.zf1 (q ▸ hb)) e) (D2.frame _ _ _ hj2 fun b hb o e => up b o (fun q => S.zf2 (q ▸ hb)) e) hT8 hz9 fun c o cz cT c1 c2 e => up c o cz (hkk c o cz cT c1 c2 e)

theorem zipS_next_end {f0 : Value} {Q : Fin → Shared → Prop} (hh : A.handled = none) (hfr : ∀ {E : Value → Shared → Prop} {Q : Bool → Shared → Prop}, Q true s → wpAny (model prog w) A (Builtin.SmallTypes.ownedTupleIsFree (.ref z)) Q E s)
    (S : ZipSep2 z TI TO i1 i2 fp1 fp2) (D1 : Draws prog w A i1 fp1 n P1 St1) (D2 : Draws prog w A i2 fp2 n P2 St2)
    (hz : IsZipS s.heap z TI TO f0 f1) (hTI : IsTupOf2 s.heap TI (.ref i1) (.ref i2)) (hTO : IsTupOf2 s.heap TO a1 a2) (st1 : St1 n s.heap) (st2 : St2 n s.heap)
    (hE : ∀ h' tk e, (∀ c o, c ≠ z → c ≠ TO → c ≠ i1 → c ≠ i2 → s.heap.get? c = some o → h'.get? c = some o) → (∃ o, h'.get? e = some o ∧ o.cls = .type "StopIteration") → E (.ref e) { s with heap := h', toks := tk }) :
    wpAny (model prog w) A (Builtin.«zip.__next__» ⟨[.ref z], []⟩) Q E s := by
  obtain ⟨hp, g, d, tk0, os⟩ := s
  show wpAny _ _ (field (.ref z) 2 >>= _) _ _ _
  refine wpAny_bind (wpAny_field hz rfl (x := .bool true) rfl ?_)
  show wpAny _ _ (field (.ref z) 3 >>= _) _ _ _
  refine wpAny_bind (wpAny_field hz rfl (x := .ref TI) rfl ?_)
  refine wpAny_bind (wpAny_seqItems hTI rfl ?_)
  show wpAny _ _ (Builtin.SmallTypes.ownedTupleIsFree (.ref z) >>= _) _ _ _
  refine wpAny_bind (hfr ?_)
  simp only [if_true]
  refine wpAny_bind (wpAny_rule ?_)
  refine wpAny_bind (wpAny_field hz rfl (x := .ref TO) rfl ?_)
  refine wpAny_bind (wpAny_setField_rec hz (by simp) fun g0 hz0 hs0 => ?_)
  replace hz0 : IsZipS g0 z TI TO .ellipsis f1 := hz0
  replace hs0 : Heap.SameBut z hp g0 := hs0
  refine wpAny_bind ?_
  simp only [List.zipIdx_cons, List.zipIdx_nil, List.forIn_cons, List.forIn_nil]
  refine wpAny_bind (wpAny_bind (wpAny_onRaise ?_))
  show wpAny _ _ (Builtin.SmallTypes.nextOrEnd (.ref i1)) _ _ ⟨g0, g, d, tk0, os⟩
  refine D1.doneE (D1.over st1 hs0 S.zf1) fun q1 hq1 => ?_
  replace hq1 : Heap.ExtBut i1 g0 q1 := hq1
  have hzq : IsZipS q1 z TI TO .ellipsis f1 := hq1 _ _ S.zi1 hz0
  refine wpAny_bind (wpAny_setField_rec (s := ⟨q1, g, d, tk0, os⟩) hzq (by simp) fun q2 _ hq2 => ?_)
  replace hq2 : Heap.SameBut z q1 q2 := hq2
  have st2' : St2 n q2 := D2.frame _ _ _ st2 fun b hb o e => by
    have bz : b ≠ z := fun q => S.zf2 (q ▸ hb)
    have b1 : b ≠ i1 := fun q => S.sep1_2 (q ▸ hb)
    exact hq2.extBut _ _ bz (hq1 _ _ b1 (hs0.extBut _ _ bz e))
  refine wpAny_bind ?_
  refine wpAny_bind ?_
  simp only [List.drop_succ_cons, List.drop_zero, List.zipIdx_cons, List.zipIdx_nil, List.forIn_cons, List.forIn_nil]
  refine wpAny_bind (wpAny_bind ?_)
  refine D2.doneE st2' fun q3 hq3 => ?_
  replace hq3 : Heap.ExtBut i2 q2 q3 := hq3
  simp only [Option.isSome_none, Bool.false_eq_true, if_false]
  refine wpAny_pure (wpAny_pure ?_)
  refine wpAny_bind (wpAny_rule ?_)
  show wpAny _ _ (newExc (.type "StopIteration") [] >>= _) _ _ _
  refine wpAny_bind ?_
  simp only [newExc, newTuple]
  refine wpAny_bind (wpAny_newObj_type ?_ (by size_fits))
  refine wpAny_bind (m := firstArgMember _ _) (wpAny_of_eq (a := Value.none) (by first | rfl | (simp only [firstArgMember]; rfl)) ?_)
  refine wpAny_newObj_type ?_ (by size_fits)
  simp only [raiseNew]
  refine wpAny_bind (wpAny_handled ?_)
  rw [hh]
  refine wpAny_bind (wpAny_pure (wpAny_throw ?_))
  exact hE _ _ _ (fun c o cz cT c1 c2 e => Heap.get?_push_of_some _ (Heap.get?_push_of_some _ (hq3 _ _ c2 (hq2.extBut _ _ cz (hq1 _ _ c1 (hs0.extBut _ _ cz e)))))) ⟨_, Heap.get?_push_size _ rfl, rfl⟩

theorem tupleHeld_zipS {T : Addr} {f : Bool} {oT : Obj} {Q : Bool → Shared → Prop} (hz : IsZipS s.heap z TI TO (rawInt T) f) (hT : s.heap.get? T = some oT)
    (h : ∀ h', IsZipS h' z TI TO (rawInt T) true → Heap.SameBut z s.heap h' → Q false { s with heap := h' }) : wpAny (model prog w) A (Builtin.SmallTypes.ownedTupleIsFree (.ref z)) Q E s := by
  unfold Builtin.SmallTypes.ownedTupleIsFree
  refine wpAny_bind (wpAny_field hz rfl (x := rawInt T) rfl ?_)
  show wpAny _ _ (loadIfAlive ((T : Int).toNat) >>= _) _ _ _
  rw [Int.toNat_natCast]
  refine wpAny_bind (PySem.W.kdx_alive hT ?_)
  simp only [Option.isNone_some, Bool.false_eq_true, if_false]
  refine wpAny_bind (wpAny_field hz rfl (x := .bool f) rfl ?_)
  cases f with
  | true =>
    rw [if_neg (show ¬ ((Value.bool true != Value.bool true) = true) from Bool.false_ne_true)]
    exact wpAny_pure (h s.heap hz (Heap.SameBut.refl _ _))
  | false =>
    rw [if_pos (show (Value.bool false != Value.bool true) = true from rfl)]
    exact wpAny_bind (wpAny_setField_rec hz (by simp) fun h1 hz1 hs1 => wpAny_pure (h h1 hz1 hs1))

/-- the tuple T that it has handed out is still held -/
theorem zipS_next_itemH {T : Addr} {oT : Obj} {Q : Value → Shared → Prop} (S : ZipSep2 z TI TO i1 i2 fp1 fp2) (D1 : Draws prog w A i1 fp1 n P1 St1) (D2 : Draws prog w A i2 fp2 n P2 St2)
    (hz : IsZipS s.heap z TI TO (rawInt T) f1) (hT : s.heap.get? T = some oT) (hTI : IsTupOf2 s.heap TI (.ref i1) (.ref i2)) (st1 : St1 i s.heap) (st2 : St2 i s.heap) (hlt : i < n)
    (hQ : ∀ x1 x2 h' tk, P1 i x1 → P2 i x2 → IsZipS h' z TI TO (rawInt T) true → St1 (i + 1) h' → St2 (i + 1) h' → IsTupOf2 h' s.heap.objs.size x1 x2 → h'.objs.size = s.heap.objs.size + 1 →
      (∀ c o, c ≠ z → c ≠ i1 → c ≠ i2 → s.heap.get? c = some o → h'.get? c = some o) → Q (.ref s.heap.objs.size) { s with heap := h', toks := tk }) :
    wpAny (model prog w) A (Builtin.«zip.__next__» ⟨[.ref z], []⟩) (fun fin s' => ∃ v, fin = .done (.ret v) ∧ Q v s') E s := by
  obtain ⟨hp, g, d, tk0, os⟩ := s
  show wpAny _ _ (field (.ref z) 2 >>= _) _ _ _
  refine wpAny_bind (wpAny_field hz rfl (x := .bool true) rfl ?_)
  show wpAny _ _ (field (.ref z) 3 >>= _) _ _ _
  refine wpAny_bind (wpAny_field hz rfl (x := .ref TI) rfl ?_)
  refine wpAny_bind (wpAny_seqItems hTI rfl ?_)
  show wpAny _ _ (Builtin.SmallTypes.ownedTupleIsFree (.ref z) >>= _) _ _ _
  refine wpAny_bind (tupleHeld_zipS hz hT fun g0 hz0 hs0 => ?_)
  replace hs0 : Heap.SameBut z hp g0 := hs0
  simp only [Bool.false_eq_true, if_false]
  refine wpAny_bind ?_
  rw [← Array.forIn_toList]
  simp only [List.forIn_cons, List.forIn_nil]
  refine wpAny_bind (wpAny_bind (wpAny_holding ?_))
  show wpAny _ _ (Builtin.SmallTypes.nextOrEnd (.ref i1)) _ _ ⟨g0, g, d, tk0, os⟩
  refine D1.itemE (i := i) hlt (D1.over st1 hs0 S.zf1) fun x1 p1 tk1 hx1 sn1 hp1 => wpAny_pure ?_
  replace hp1 : Heap.SameBut i1 g0 p1 := hp1
  refine wpAny_bind (wpAny_bind (wpAny_holding ?_))
  show wpAny _ _ (Builtin.SmallTypes.nextOrEnd (.ref i2)) _ _ ⟨p1, g, d, tk1, os⟩
  refine D2.itemE (i := i) hlt (D2.over (D2.over st2 hs0 S.zf2) hp1 S.sep1_2) fun x2 p2 tk2 hx2 sn2 hp2 => wpAny_pure (wpAny_pure ?_)
  replace hp2 : Heap.SameBut i2 p1 p2 := hp2
  show wpAny _ _ (newTuple [x1, x2] >>= _) _ _ ⟨p2, g, d, tk2, os⟩
  refine wpAny_bind (wpAny_newTuple ?_)
  have hsz : p2.objs.size = hp.objs.size := by rw [hp2.1, hp1.1, hs0.1]
  have hzz : IsZipS p2 z TI TO (rawInt T) true := hp2.extBut _ _ S.zi2 (hp1.extBut _ _ S.zi1 hz0)
  refine wpAny_pure ⟨_, rfl, ?_⟩
  show Q (.ref p2.objs.size) ⟨p2.push { cls := .type "tuple", data := .seq #[x1, x2] }, g, d, tk2, os⟩
  have hT8 : IsTupOf2 (p2.push { cls := .type "tuple", data := .seq #[x1, x2] }) p2.objs.size x1 x2 := Heap.get?_push_size _ rfl
  have hz9 : (p2.push { cls := .type "tuple", data := .seq #[x1, x2] }).objs.size = p2.objs.size + 1 := Heap.size_push ..
  rw [hsz] at hT8 hz9 ⊢
  exact hQ x1 x2 _ tk2 hx1 hx2 (Heap.get?_push_of_some _ hzz) (D1.frame _ _ _ (D1.over sn1 hp2 S.sep2_1) fun b hb o e => Heap.get?_push_of_some _ e) (D2.frame _ _ _ sn2 fun b hb o e => Heap.get?_push_of_some _ e) hT8 hz9
    fun c o cz c1 c2 e => Heap.get?_push_of_some _ (hp2.extBut _ _ c2 (hp1.extBut _ _ c1 (hs0.extBut _ _ cz e)))
theorem zipS_next_endH {T : Addr} {oT : Obj} {Q : Fin → Shared → Prop} (hh : A.handled = none) (S : ZipSep2 z TI TO i1 i2 fp1 fp2) (D1 : Draws prog w A i1 fp1 n P1 St1) (D2 : Draws prog w A i2 fp2 n P2 St2)
    (hz : IsZipS s.heap z TI TO (rawInt T) f1) (hT : s.heap.get? T = some oT) (hTI : IsTupOf2 s.heap TI (.ref i1) (.ref i2)) (st1 : St1 n s.heap) (st2 : St2 n s.heap)
    (hE : ∀ h' tk e, (∀ c o, c ≠ z → c ≠ TO → c ≠ i1 → c ≠ i2 → s.heap.get? c = some o → h'.get? c = some o) → (∃ o, h'.get? e = some o ∧ o.cls = .type "StopIteration") → E (.ref e) { s with heap := h', toks := tk }) :
    wpAny (model prog w) A (Builtin.«zip.__next__» ⟨[.ref z], []⟩) Q E s := by
  obtain ⟨hp, g, d, tk0, os⟩ := s
  show wpAny _ _ (field (.ref z) 2 >>= _) _ _ _
  refine wpAny_bind (wpAny_field hz rfl (x := .bool true) rfl ?_)
  show wpAny _ _ (field (.ref z) 3 >>= _) _ _ _
  refine wpAny_bind (wpAny_field hz rfl (x := .ref TI) rfl ?_)
  refine wpAny_bind (wpAny_seqItems hTI rfl ?_)
  show wpAny _ _ (Builtin.SmallTypes.ownedTupleIsFree (.ref z) >>= _) _ _ _
  refine wpAny_bind (tupleHeld_zipS hz hT fun g0 hz0 hs0 => ?_)
  replace hs0 : Heap.SameBut z hp g0 := hs0
  simp only [Bool.false_eq_true, if_false]
  refine wpAny_bind ?_
  rw [← Array.forIn_toList]
  simp only [List.forIn_cons, List.forIn_nil]
  refine wpAny_bind (wpAny_bind (wpAny_holding ?_))
  show wpAny _ _ (Builtin.SmallTypes.nextOrEnd (.ref i1)) _ _ ⟨g0, g, d, tk0, os⟩
  refine D1.doneE (D1.over st1 hs0 S.zf1) fun q1 hq1 => ?_
  replace hq1 : Heap.ExtBut i1 g0 q1 := hq1
  have st2' : St2 n q1 := D2.frame _ _ _ st2 fun b hb o e => by
    have bz : b ≠ z := fun q => S.zf2 (q ▸ hb)
    have b1 : b ≠ i1 := fun q => S.sep1_2 (q ▸ hb)
    exact hq1 _ _ b1 (hs0.extBut _ _ bz e)
  refine wpAny_bind ?_
  refine wpAny_bind ?_
  simp only [List.drop_succ_cons, List.drop_zero, List.zipIdx_cons, List.zipIdx_nil, List.forIn_cons, List.forIn_nil]
  refine wpAny_bind (wpAny_bind ?_)
  refine D2.doneE st2' fun q3 hq3 => ?_
  replace hq3 : Heap.ExtBut i2 q1 q3 := hq3
  simp only [Option.isSome_none, Bool.false_eq_true, if_false]
  refine wpAny_pure (wpAny_pure ?_)
  refine wpAny_bind (wpAny_rule ?_)
  show wpAny _ _ (newExc (.type "StopIteration") [] >>= _) _ _ _
  refine wpAny_bind ?_
  simp only [newExc, newTuple]
  refine wpAny_bind (wpAny_newObj_type ?_ (by size_fits))
  refine wpAny_bind (m := firstArgMember _ _) (wpAny_of_eq (a := Value.none) (by first | rfl | (simp only [firstArgMember]; rfl)) ?_)
  refine wpAny_newObj_type ?_ (by size_fits)
  simp only [raiseNew]
  refine wpAny_bind (wpAny_handled ?_)
  rw [hh]
  refine wpAny_bind (wpAny_pure (wpAny_throw ?_))
  exact hE _ _ _ (fun c o cz cT c1 c2 e => Heap.get?_push_of_some _ (Heap.get?_push_of_some _ (hq3 _ _ c2 (hq1 _ _ c1 (hs0.extBut _ _ cz e))))) ⟨_, Heap.get?_push_size _ rfl, rfl⟩
end

/-! ### zip(v1, v2, strict=True) begins -/
namespace F
theorem typeCall_zip_strict (a b c : Value) : checkTypeCall "zip" ⟨[a, b], [(Str.ofString "strict", c)]⟩ = pure () := by kernel_rfl
theorem newCall_zip_strict (a b c : Value) : checkBuiltinCall "zip.__new__" ⟨[.type "zip", a, b], [(Str.ofString "strict", c)]⟩ = pure () := by kernel_rfl
theorem args_object_init_strict (obj a b c : Value) : argsOk "object.__init__" ⟨[obj, a, b], [(Str.ofString "strict", c)]⟩ := by unfold argsOk; kernel_rfl
end F
abbrev gzS2 (h : Heap) (o1 o2 : Obj) : Heap := (gzO2 h o1 o2).push { cls := .type "zip", data := .fields #[.none, .bool false, .bool true, .ref ((h.push o1).push o2).objs.size, .ref (gzT2 h o1 o2).objs.size] }
theorem meets_zip_newS2 {v1 v2 : Value} {o1 o2 : Obj} {H1 H2 : Heap → Prop} (B1 : Begins v1 o1 H1) (B2 : Begins v2 o2 H2) :
    Meets (Builtin.«zip.__new__» ⟨[.type "zip", v1, v2], [(Str.ofString "strict", .bool true)]⟩) (fun _ R s => (H1 s.heap ∧ H2 s.heap) ∧
      R (.ok (.ret (.ref (gzO2 s.heap o1 o2).objs.size))) { s with heap := gzS2 s.heap o1 o2 }) :=
  .of_wp fun prog w A R s h => by
    obtain ⟨hp, g, d, tk, os⟩ := s; obtain ⟨⟨h1, h2⟩, h⟩ := h
    have hsub := sub_zip
    have q1 : ∀ {A' : Around} {E : Value → Shared → Prop} {Q : Value → Shared → Prop}, Q (.ref hp.objs.size) ⟨(hp.push o1), g, d, tk, os⟩ → wpAny (model prog w) A' (pyIter v1) Q E ⟨hp, g, d, tk, os⟩ :=
      fun q => B1.iter prog w _ _ ⟨hp, g, d, tk, os⟩ _ (B1.keeps _ _ h1 fun b o' e => e) q
    have q2 : ∀ {A' : Around} {E : Value → Shared → Prop} {Q : Value → Shared → Prop}, Q (.ref (hp.push o1).objs.size) ⟨((hp.push o1).push o2), g, d, tk, os⟩ → wpAny (model prog w) A' (pyIter v2) Q E ⟨(hp.push o1), g, d, tk, os⟩ :=
      fun q => B2.iter prog w _ _ ⟨(hp.push o1), g, d, tk, os⟩ _ (B2.keeps _ _ h2 fun b o' e => (Heap.get?_push_of_some _ e)) q
    have e1 : (Str.ofString "strict" != ("strict" : Str)) = false := by decide +kernel
    wp_walk using q1, q2
    exact ⟨_, rfl, h⟩
end PySem
namespace PySem
section
variable {M : Model} {A : Around} {E : Value → Shared → Prop} {s : Shared} {env : Env}
theorem callWith_typeKw {pos : Pos} {T : String} {e : Expr} {rest : List Expr} {kws : List Keyword} {Q : Value → Shared → Prop} (hall : (backToKw pos (keywordEach kws env)).all (·.1.isSome) = true)
    (h : wpAny M A (spliced (backTo pos (starEach (e :: rest) env))) (fun vs s₁ => wpAny M A (evalAll ((backToKw pos (keywordEach kws env)).map (·.2)))
      (fun ks s₂ => wpAny M A (call (.type T) vs (((backToKw pos (keywordEach kws env)).filterMap (·.1)).zip ks)) Q E s₂) E s₁) E s)
    (hplain : ((backTo pos (starEach (e :: rest) env)).any (·.1) || (backToKw pos (keywordEach kws env)).any (·.1.isNone)) = false := by rfl) (he : starEach (e :: rest) env = (false, eval e env) :: starEach rest env := by rfl) :
    wpAny M A (callWith pos (.type T) [] (backTo pos (starEach (e :: rest) env)) (backToKw pos (keywordEach kws env))) Q E s := by
  unfold callWith
  refine wpAny_bind (wpAny_holding (PyProof.Rows.evalArgs_kw2 hall (wpAny_mono h (fun vs s₁ h₁ => wpAny_mono h₁ (fun ks s₂ h₂ => wpAny_bind (wpAny_standAt ?_)) fun _ _ x => x) fun _ _ x => x) he))
  simp only [hplain]
  refine wpAny_bind (wpAny_pure ?_)
  exact wpAny_bind (wpAny_mono h₂ (fun r s₂ hr => wpAny_bind (wpAny_holding (wpAny_point (wpAny_pure hr)))) fun _ _ x => x)
end
section
variable {prog : Program} {w : World} {A : Around} {E : Value → Shared → Prop} {s : Shared}
/-- zip of 2, strict: its 5 new cells -/
theorem zip_begins2S {v1 v2 : Value} {o1 o2 : Obj} {H1 H2 : Heap → Prop} {Q : Value → Shared → Prop} (B1 : Begins v1 o1 H1) (B2 : Begins v2 o2 H2) (h1 : H1 s.heap) (h2 : H2 s.heap)
    (h : ∀ h', IsZipS h' (s.heap.objs.size + 4) (s.heap.objs.size + 2) (s.heap.objs.size + 3) .none false → IsTupOf2 h' (s.heap.objs.size + 2) (.ref s.heap.objs.size) (.ref (s.heap.objs.size + 1)) →
      IsTupOf2 h' (s.heap.objs.size + 3) .none .none → h'.get? s.heap.objs.size = some o1 → h'.get? (s.heap.objs.size + 1) = some o2 → h'.objs.size = s.heap.objs.size + 5 →
      (∀ c o, s.heap.get? c = some o → h'.get? c = some o) → Q (.ref (s.heap.objs.size + 4)) { s with heap := h' }) :
    wpAny (model prog w) A (call (.type "zip") [v1, v2] [(Str.ofString "strict", .bool true)]) Q E s := by
  refine callType_newKw F.called_zip (by decide) (F.typeCall_zip_strict _ _ _) (F.newCall_zip_strict _ _ _) (fun obj => F.args_object_init_strict obj _ _ _) F.entry_zip_new
    (meets_zip_newS2 B1 B2) ⟨⟨h1, h2⟩, ?_⟩
  have z1 : (s.heap.push o1).objs.size = s.heap.objs.size + 1 := by rw [Heap.size_push]
  have z2 : ((s.heap.push o1).push o2).objs.size = s.heap.objs.size + 2 := by rw [Heap.size_push, z1]
  have zT : (gzT2 s.heap o1 o2).objs.size = s.heap.objs.size + 3 := by rw [Heap.size_push, z2]
  have zO : (gzO2 s.heap o1 o2).objs.size = s.heap.objs.size + 4 := by rw [Heap.size_push, zT]
  have zZ : (gzS2 s.heap o1 o2).objs.size = s.heap.objs.size + 5 := by rw [Heap.size_push, zO]
  have gZ : (gzS2 s.heap o1 o2).get? (gzO2 s.heap o1 o2).objs.size = some { cls := .type "zip", data := .fields #[.none, .bool false, .bool true, .ref ((s.heap.push o1).push o2).objs.size, .ref (gzT2 s.heap o1 o2).objs.size] } := Heap.get?_push_size _ rfl
  have gO : (gzS2 s.heap o1 o2).get? (gzT2 s.heap o1 o2).objs.size = some { cls := .type "tuple", data := .seq #[.none, .none] } := Heap.get?_push_of_some _ (Heap.get?_push_size _ rfl)
  have gT : (gzS2 s.heap o1 o2).get? ((s.heap.push o1).push o2).objs.size = some { cls := .type "tuple", data := .seq #[.ref s.heap.objs.size, .ref (s.heap.push o1).objs.size] } := Heap.get?_push_of_some _ (Heap.get?_push_of_some _ (Heap.get?_push_size _ rfl))
  have g1 : (gzS2 s.heap o1 o2).get? s.heap.objs.size = some o1 := Heap.get?_push_of_some _ (Heap.get?_push_of_some _ (Heap.get?_push_of_some _ (Heap.get?_push_of_some _ (Heap.get?_push_size _ B1.free))))
  have g2 : (gzS2 s.heap o1 o2).get? (s.heap.push o1).objs.size = some o2 := Heap.get?_push_of_some _ (Heap.get?_push_of_some _ (Heap.get?_push_of_some _ (Heap.get?_push_size _ B2.free)))
  rw [zO, zT, z2] at gZ
  rw [zT] at gO
  rw [z2, z1] at gT
  rw [z1] at g2
  show _ ∧ _
  rw [zO]
  exact ⟨⟨_, gZ, rfl⟩, h _ gZ gT gO g1 g2 zZ fun c o e => Heap.get?_push_of_some _ (Heap.get?_push_of_some _ (Heap.get?_push_of_some _ (Heap.get?_push_of_some _ (Heap.get?_push_of_some _ e))))⟩
theorem pyIter_zipS {z TI TO : Addr} {f0 : Value} {f1 : Bool} {Q : Value → Shared → Prop} (hz : IsZipS s.heap z TI TO f0 f1) (h : Q (.ref z) s) : wpAny (model prog w) A (pyIter (.ref z)) Q E s := by
  have hT : s.TypeIs (.ref z) "zip" := ⟨_, hz, rfl⟩
  refine wpAny_pyIter_slot hT F.slot_zip_iter (wpAny_call_entry F.slot_zip_iter hT F.entry_zip_iter ?_ (F.args_zip_iter_1 _))
  show wpAny _ _ (ret (.ref z)) _ _ s
  exact wpAny_pure ⟨_, rfl, "zip", _, hT, F.slot_zip_next.lookup, h⟩
theorem letGo_zipS {elts : List Expr} {x1} {pos : Pos} {z TI TO T : Addr} {f1 : Bool} {Q : Unit → Shared → Prop} (hz : IsZipS s.heap z TI TO (rawInt T) f1)
    (hQ : ∀ h', IsZipS h' z TI TO .none f1 → Heap.SameBut z s.heap h' → Q () { s with heap := h' }) :
    wpAny (model prog w) A (letOwnedTupleGo (.Tuple elts x1 pos) (.ref z) (.ref T)) Q E s := by
  unfold letOwnedTupleGo
  refine wpAny_bind (wpAny_load hz ?_)
  show wpAny _ _ (if (["enumerate", "zip", "dict_itemiterator", "dict_reverseitemiterator", "odict_iterator", "itertools.zip_longest", "itertools.pairwise"].contains "zip" &&
      (#[rawInt T, .bool f1, .bool true, .ref TI, .ref TO] : Array Value)[0]? == some (rawInt T)) = true then _ else _) Q E s
  rw [if_pos (by simp)]
  refine wpAny_bind (wpAny_rule ?_)
  show wpAny _ _ (setField (.ref z) 0 .none) Q E s
  exact wpAny_setField_rec hz (by simp) fun h' hz' hs' => hQ h' hz' hs'
end
section
variable {prog : Program} {w : World} {A : Around} {E : Value → Shared → Prop} {s : Shared} {z TI TO i1 i2 : Addr} {fp1 fp2 : List Addr} {n i : Nat} {P1 P2 : Nat → Value → Prop} {St1 St2 : Nat → Heap → Prop} {a1 a2 : Value} {f1 : Bool}
theorem pyNext_zipS_item {Q : Option Value → Shared → Prop} (S : ZipSep2 z TI TO i1 i2 fp1 fp2) (D1 : Draws prog w A.in1 i1 fp1 n P1 St1) (D2 : Draws prog w A.in1 i2 fp2 n P2 St2)
    (hz : IsZipS s.heap z TI TO .none f1) (hTI : IsTupOf2 s.heap TI (.ref i1) (.ref i2)) (hTO : IsTupOf2 s.heap TO a1 a2) (st1 : St1 i s.heap) (st2 : St2 i s.heap) (hlt : i < n)
    (hQ : ∀ x1 x2 h' tk, P1 i x1 → P2 i x2 → IsZipS h' z TI TO (rawInt s.heap.objs.size) false → IsTupOf2 h' TO x1 x2 → St1 (i + 1) h' → St2 (i + 1) h' → IsTupOf2 h' s.heap.objs.size x1 x2 → h'.objs.size = s.heap.objs.size + 1 →
      (∀ c o, c ≠ z → c ≠ TO → c ≠ i1 → c ≠ i2 → s.heap.get? c = some o → h'.get? c = some o) → Q (some (.ref s.heap.objs.size)) { s with heap := h', toks := tk }) :
    wpAny (model prog w) A (pyNext (.ref z)) Q E s := by
  have hT : s.TypeIs (.ref z) "zip" := ⟨_, hz, rfl⟩
  unfold pyNext
  exact wpAny_bind (wpAny_attempt (wpAny_callSpecial?_slot (name := Str.ofString "__next__") hT F.slot_zip_next
    (wpAny_call_entry F.slot_zip_next hT F.entry_zip_next
      (zipS_next_item (free_none hz) S D1 D2 hz hTI hTO st1 st2 hlt fun x1 x2 h' tk y1 y2 b1 b2 d1 d2 b5 b6 b7 => wpAny_pure (hQ x1 x2 h' tk y1 y2 b1 b2 d1 d2 b5 b6 b7)) (F.args_zip_next_1 _))))
theorem pyNext_zipS_end {Q : Option Value → Shared → Prop} (hh : A.handled = none) (S : ZipSep2 z TI TO i1 i2 fp1 fp2) (D1 : Draws prog w A.in1 i1 fp1 n P1 St1) (D2 : Draws prog w A.in1 i2 fp2 n P2 St2)
    (hz : IsZipS s.heap z TI TO .none f1) (hTI : IsTupOf2 s.heap TI (.ref i1) (.ref i2)) (hTO : IsTupOf2 s.heap TO a1 a2) (st1 : St1 n s.heap) (st2 : St2 n s.heap)
    (hQ : ∀ h' tk, (∀ c o, c ≠ z → c ≠ TO → c ≠ i1 → c ≠ i2 → s.heap.get? c = some o → h'.get? c = some o) → Q none { s with heap := h', toks := tk }) : wpAny (model prog w) A (pyNext (.ref z)) Q E s := by
  have hT : s.TypeIs (.ref z) "zip" := ⟨_, hz, rfl⟩
  unfold pyNext
  refine wpAny_bind (wpAny_attempt (wpAny_callSpecial?_slot (name := Str.ofString "__next__") hT F.slot_zip_next
    (wpAny_call_entry F.slot_zip_next hT F.entry_zip_next (zipS_next_end (A := A.in1) hh (free_none hz) S D1 D2 hz hTI hTO st1 st2 fun h' tk e hk he => ?_) (F.args_zip_next_1 _))))
  obtain ⟨o, ho, hc⟩ := he
  refine wpAny_bind (wpAny_isInstance (T := "StopIteration") (b := true) ⟨o, ho, hc⟩ isSubtype_stop ?_)
  exact wpAny_pure (hQ _ _ hk)
end
end PySem

namespace MA
open PySem PySem.Spec PyProof.Rows L2

/-! ### sequences: lists, tuples, texts -/
inductive Sk where
  | lst (a : Addr) | tup (a : Addr) | str (z : Str)
def signs (z : Str) : List V := z.cps.toList.map fun c => V.str ⟨#[c]⟩
def Sk.v : Sk → V
  | .lst a => .ref a | .tup a => .ref a | .str z => .str z
def Sk.has (K : PySem.W.Frag) (H : Hp) (xs : List V) : Sk → Prop
  | .lst a => SqL K H a xs | .tup a => SqT K H a xs | .str z => xs = signs z
def Sk.adr : Sk → Option Addr
  | .lst a => some a | .tup a => some a | .str _ => none
def Sk.iter (it : Addr) (i : Nat) (h : Heap) : Sk → Prop
  | .lst a => h.IsListIter it a i | .tup a => h.IsTupleIter it a i | .str z => ∃ t, h.IsStrIter it (strIterType z) z t i
theorem Sk.iter_obj {k : Sk} {it : Addr} {i : Nat} {h : Heap} (x : k.iter it i h) : ∃ o, h.get? it = some o ∧ ∀ v, o.data ≠ .cell v := by
  cases k with
  | lst a => obtain ⟨o, e, _, d⟩ := x; exact ⟨o, e, fun v q => by rw [d] at q; cases q⟩
  | tup a => obtain ⟨o, e, _, d⟩ := x; exact ⟨o, e, fun v q => by rw [d] at q; cases q⟩
  | str z => obtain ⟨t, o, e, _, d⟩ := x; exact ⟨o, e, fun v q => by rw [d] at q; cases q⟩
theorem Sk.iter_at {k : Sk} {it : Addr} {i : Nat} {h h' : Heap} (x : k.iter it i h) (e : ∀ o, h.get? it = some o → h'.get? it = some o) : k.iter it i h' := by
  cases k with
  | lst a => obtain ⟨o, q, r⟩ := x; exact ⟨o, e o q, r⟩
  | tup a => obtain ⟨o, q, r⟩ := x; exact ⟨o, e o q, r⟩
  | str z => obtain ⟨t, o, q, r⟩ := x; exact ⟨t, o, e o q, r⟩
section
variable {X : Cx} {pins : List (Addr × Obj)} {σ : L2.St} {H : Hp} {s : Shared} {A : Around} {k : Sk} {xs : List V}
theorem Sk.draws (I : Inv X pins σ H s) (hh : A.handled = none) (hk : k.has X.K H xs) {it : Addr} {i : Nat} (hne : ∀ a, k.adr = some a → a ≠ it) (hit : k.iter it i s.heap) :
    ∃ (fp : List Addr) (P : Nat → Value → Prop) (St : Nat → Heap → Prop), Draws X.prog X.w A it fp xs.length P St ∧ St i s.heap ∧ it ∈ fp ∧ (∀ b ∈ fp, b = it ∨ k.adr = some b) ∧ (∀ j u, P j u → ∃ y, xs[j]? = some y ∧ RelV y u) ∧
      ∀ j h, St j h → k.iter it j h := by
  cases k with
  | lst a =>
    obtain ⟨its, rv, p, hz⟩ := I.list hk
    have D := Draws.list (prog := X.prog) (w := X.w) hh it a (hne a rfl) its.toArray
    have e : its.toArray.size = xs.length := by rw [List.size_toArray, rv.length]
    rw [e] at D
    refine ⟨_, _, _, D, ⟨hit, p.isList⟩, by simp, fun b hb => ?_, fun j u hu => ?_, fun j h st => st.1⟩
    · have e' : b = it ∨ b = a := by simpa using hb
      exact e'.imp id fun q => by rw [q]; rfl
    · have hu' : its[j]? = some u := by simpa using hu
      cases q : xs[j]? with
      | none => rw [rv.none_of q] at hu'; cases hu'
      | some y =>
        obtain ⟨u2, e2, r2⟩ := rv.get q
        rw [e2] at hu'; cases hu'
        exact ⟨y, rfl, r2⟩
  | tup a =>
    obtain ⟨its, rv, p, hz⟩ := I.tuple hk
    have D := Draws.tuple (prog := X.prog) (w := X.w) hh it a (hne a rfl) its.toArray
    have e : its.toArray.size = xs.length := by rw [List.size_toArray, rv.length]
    rw [e] at D
    refine ⟨_, _, _, D, ⟨hit, p⟩, by simp, fun b hb => ?_, fun j u hu => ?_, fun j h st => st.1⟩
    · have e' : b = it ∨ b = a := by simpa using hb
      exact e'.imp id fun q => by rw [q]; rfl
    · have hu' : its[j]? = some u := by simpa using hu
      cases q : xs[j]? with
      | none => rw [rv.none_of q] at hu'; cases hu'
      | some y =>
        obtain ⟨u2, e2, r2⟩ := rv.get q
        rw [e2] at hu'; cases hu'
        exact ⟨y, rfl, r2⟩
  | str z =>
    cases hk
    obtain ⟨t, hit⟩ := hit
    have D := Draws.text (prog := X.prog) (w := X.w) hh it z t
    have e : z.cps.size = (signs z).length := by simp [signs]
    rw [e] at D
    refine ⟨_, _, _, D, hit, by simp, fun b hb => ?_, fun j u hu => ?_, fun j h st => ⟨t, st⟩⟩
    · have e' : b = it := by simpa using hb
      exact .inl e'
    · obtain ⟨c, u2, hc, rfl⟩ := hu
      refine ⟨.str ⟨#[c]⟩, ?_, _, rfl⟩
      have hc' : z.cps.toList[j]? = some c := by simpa using hc
      simp only [signs, List.getElem?_map, hc', Option.map_some]
theorem Sk.begins (I : Inv X pins σ H s) (hk : k.has X.K H xs) {u : Value} (r : RelV k.v u) :
    ∃ (o : Obj) (Hc : Heap → Prop), Begins u o Hc ∧ Hc s.heap ∧ (∀ it h, h.get? it = some o → k.iter it 0 h) ∧ ∀ a, k.adr = some a → a < s.heap.objs.size := by
  cases k with
  | lst a =>
    cases (show u = Value.ref a from r)
    obtain ⟨its, rv, p, hz⟩ := I.list hk
    exact ⟨_, _, begins_list a its.toArray, p.isList, fun it h e => ⟨_, e, rfl, rfl⟩, fun b e => by cases e; exact p.lt⟩
  | tup a =>
    cases (show u = Value.ref a from r)
    obtain ⟨its, rv, p, hz⟩ := I.tuple hk
    exact ⟨_, _, begins_tuple a its.toArray, p, fun it h e => ⟨_, e, rfl, rfl⟩, fun b e => by cases e; exact p.lt⟩
  | str z =>
    obtain ⟨t, rfl⟩ := (show ∃ t, u = Value.str z t from r)
    exact ⟨_, _, begins_text z t, trivial, fun it h e => ⟨t, _, e, rfl, rfl⟩, fun b e => by cases e⟩
end

/-! ### zip(a, b, strict=True) -/
/-- n turns, G holding all along, Y telling what a turn brings -/
def Itg (G : Hp → Prop) (n : Nat) (Y : Nat → Hp → V → Hp → Prop) : It := ⟨fun i H => G H ∧ i < n, Y, fun i H => G H ∧ n ≤ i⟩
def yPair (xs ys : List V) : Nat → Hp → V → Hp → Prop := fun i H v H' => ∃ T x y, v = .ref T ∧ H T = none ∧ H' = upd H T (.tup [x, y]) ∧ xs[i]? = some x ∧ ys[i]? = some y
def ItZ (K : PySem.W.Frag) (k1 k2 : Sk) (xs ys : List V) : It := Itg (fun H => k1.has K H xs ∧ k2.has K H ys) xs.length (yPair xs ys)
/-- the cells of a zip, made at N -/
theorem sepN {N : Nat} {k1 k2 : Sk} (h1 : ∀ a, k1.adr = some a → a < N) (h2 : ∀ a, k2.adr = some a → a < N) {fp1 fp2 : List Addr} (m1 : N ∈ fp1) (m2 : (N + 1) ∈ fp2) (f1 : ∀ b ∈ fp1, b = N ∨ k1.adr = some b) (f2 : ∀ b ∈ fp2, b = N + 1 ∨ k2.adr = some b) :
    ZipSep2 (N + 4) (N + 2) (N + 3) N (N + 1) fp1 fp2 := by
  have g1 : ∀ b ∈ fp1, @Eq Nat b N ∨ @LT.lt Nat _ b N := fun b hb => (f1 b hb).imp id (h1 b)
  have g2 : ∀ b ∈ fp2, @Eq Nat b (N + 1) ∨ @LT.lt Nat _ b N := fun b hb => (f2 b hb).imp id (h2 b)
  have ne : ∀ {a b : Nat}, a ≠ b → @Ne Addr a b := fun h => h
  refine ⟨ne (by omega), ne (by omega), ne (by omega), ne (by omega), m1, fun q => ?_, fun q => ?_, ne (by omega), m2, fun q => ?_, fun q => ?_, fun q => ?_, fun q => ?_⟩
  · have := g1 _ q; omega
  · have := g1 _ q; omega
  · have := g2 _ q; omega
  · have := g2 _ q; omega
  · have := g2 _ q; omega
  · have := g1 _ q; omega
theorem turn_zipS {P : Program} {w : World} {K : PySem.W.Frag} {elts : List Expr} {kk : Nat} {tpos : Pos} {N : Nat} {k1 k2 : Sk} {xs ys : List V} (hl : xs.length = ys.length) (h1 : ∀ a, k1.adr = some a → a < N) (h2 : ∀ a, k2.adr = some a → a < N) :
    Turn P w K (.Tuple elts kk tpos) (ItZ K k1 k2 xs ys) [N + 4, N + 2, N + 3, N, N + 1] (N + 4)
      (fun i h => i ≤ xs.length ∧ (∃ f, IsZipS h (N + 4) (N + 2) (N + 3) .none f) ∧ IsTupOf2 h (N + 2) (.ref N) (.ref (N + 1)) ∧ (∃ x y, IsTupOf2 h (N + 3) x y) ∧ k1.iter N i h ∧ k2.iter (N + 1) i h) where
  mem := by simp
  obj := fun i h st c hc => by
    obtain ⟨_, ⟨f, hz⟩, hTI, ⟨x, y, hTO⟩, q1, q2⟩ := st
    have e' : c = N + 4 ∨ c = N + 2 ∨ c = N + 3 ∨ c = N ∨ c = N + 1 := by simpa using hc
    rcases e' with q | q | q | q | q
    · rw [q]; exact ⟨_, hz, fun v q => nomatch q⟩
    · rw [q]; exact ⟨_, hTI, fun v q => nomatch q⟩
    · rw [q]; exact ⟨_, hTO, fun v q => nomatch q⟩
    · rw [q]; exact Sk.iter_obj q1
    · rw [q]; exact Sk.iter_obj q2
  keep := fun i h h' st k => by
    obtain ⟨hi, ⟨f, hz⟩, hTI, ⟨x, y, hTO⟩, q1, q2⟩ := st
    exact ⟨hi, ⟨f, k _ (by simp) _ hz⟩, k _ (by simp) _ hTI, ⟨x, y, k _ (by simp) _ hTO⟩, Sk.iter_at q1 fun o q => k _ (by simp) o q, Sk.iter_at q2 fun o q => k _ (by simp) o q⟩
  item := by
    intro X hP hw hK hc i pins s σ H E I hf st hg
    subst hP hw hK
    obtain ⟨hi, ⟨f, hz⟩, hTI, ⟨x0, y0, hTO⟩, q1, q2⟩ := st
    obtain ⟨⟨g1, g2⟩, hlt⟩ := hg
    have hh : X.A.in1.handled = none := I.ok.hd hc
    obtain ⟨fp1, P1, St1, D1, s1, m1, b1, r1, t1⟩ := Sk.draws (A := X.A.in1) I hh g1 (fun a e => Nat.ne_of_lt (h1 a e)) q1
    obtain ⟨fp2, P2, St2, D2, s2, m2, b2, r2, t2⟩ := Sk.draws (A := X.A.in1) I hh g2 (fun a e => Nat.ne_of_lt (Nat.lt_succ_of_lt (h2 a e))) q2
    rw [← hl] at D2
    have S := sepN h1 h2 m1 m2 b1 b2
    have hzl : N + 4 < s.heap.objs.size := Heap.lt_size hz
    refine pyNext_zipS_item S D1 D2 hz hTI hTO s1 s2 hlt fun u1 u2 h' tk p1 p2 z' TO' h1' h2' hT hsz hk => ?_
    obtain ⟨x, hx, rx⟩ := r1 i u1 p1
    obtain ⟨y, hy, ry⟩ := r2 i u2 p2
    refine ⟨_, rfl, letGo_zipS (s := { s with heap := h', toks := tk }) z' fun h'' z'' sb => ?_⟩
    have hT2 : h''.get? s.heap.objs.size = some { cls := .type "tuple", data := .seq #[u1, u2] } := (sb.2 _ (Nat.ne_of_gt hzl)).trans hT
    have new : ObjOk X.prog X.w (upd H s.heap.objs.size (.tup [x, y])) h'' s.heap.objs.size (.tup [x, y]) :=
      ⟨by show 2 ≤ sizeLine; decide, [u1, u2], .cons rx (.cons ry .nil), ⟨_, hT2, rfl, _, rfl⟩⟩
    have I1 : Inv X pins σ (upd H s.heap.objs.size (.tup [x, y])) { s with heap := h'', toks := tk } :=
      I.turnedNew (t' := tk) (ch := [N + 4, N + 2, N + 3, N, N + 1]) (fun c o hb q => (sb.2 c (fun q' => hb (by simp [q']))).trans (hk c o (fun q' => hb (by simp [q'])) (fun q' => hb (by simp [q'])) (fun q' => hb (by simp [q'])) (fun q' => hb (by simp [q'])) q)) hf (Nat.le_refl _) new
    refine ⟨.ref s.heap.objs.size, _, I1, rfl, ⟨_, x, y, rfl, I.hok.fresh (Nat.le_refl _), rfl, hx, hy⟩, ⟨hlt, ⟨_, z''⟩, ?_, ⟨u1, u2, ?_⟩, ?_, ?_⟩, fun c hcm => ?_⟩
    · exact (sb.2 _ S.TIz).trans (hk _ _ S.TIz S.TITO S.TIi1 S.TIi2 hTI)
    · exact (sb.2 _ S.TOz).trans TO'
    · exact Sk.iter_at (t1 _ _ h1') fun o q => (sb.2 _ S.zi1.symm).trans q
    · exact Sk.iter_at (t2 _ _ h2') fun o q => (sb.2 _ S.zi2.symm).trans q
    · have e' : c = N + 4 ∨ c = N + 2 ∨ c = N + 3 ∨ c = N ∨ c = N + 1 := by simpa using hcm
      have hlt : @LT.lt Nat _ c s.heap.objs.size := by rcases e' with q | q | q | q | q <;> (rw [q]; omega)
      rw [upd_ne (Nat.ne_of_lt hlt)]
      exact (hf c hcm).1
  done := by
    intro X hP hw hK hc i pins s σ H E I hf st hg
    subst hP hw hK
    obtain ⟨hi, ⟨f, hz⟩, hTI, ⟨x0, y0, hTO⟩, q1, q2⟩ := st
    obtain ⟨⟨g1, g2⟩, hge⟩ := hg
    have ei : i = xs.length := Nat.le_antisymm hi hge
    subst ei
    have hh : X.A.in1.handled = none := I.ok.hd hc
    obtain ⟨fp1, P1, St1, D1, s1, m1, b1, r1, t1⟩ := Sk.draws (A := X.A.in1) I hh g1 (fun a e => Nat.ne_of_lt (h1 a e)) q1
    obtain ⟨fp2, P2, St2, D2, s2, m2, b2, r2, t2⟩ := Sk.draws (A := X.A.in1) I hh g2 (fun a e => Nat.ne_of_lt (Nat.lt_succ_of_lt (h2 a e))) q2
    rw [← hl] at D2
    have S := sepN h1 h2 m1 m2 b1 b2
    exact pyNext_zipS_end (I.ok.hd hc) S D1 D2 hz hTI hTO s1 s2 fun h' tk hk => ⟨rfl, I.turnedL (t' := tk) (ch := [N + 4, N + 2, N + 3, N, N + 1]) (fun c o hb q =>
      hk c o (fun q' => hb (by simp [q'])) (fun q' => hb (by simp [q'])) (fun q' => hb (by simp [q'])) (fun q' => hb (by simp [q'])) q) hf⟩
  self := fun A i s Q E st h => by
    obtain ⟨_, ⟨f, hz⟩, _⟩ := st
    exact pyIter_zipS hz h
/-- zip(a, b, strict=True), both of one length -/
def iZipS (K : PySem.W.Frag) (ta tk : TA) : TI := fun σ H R => ta σ H fun vs H1 => tk σ H1 fun zs H2 => ∃ (k1 k2 : Sk) (xs ys : List V), vs = [k1.v, k2.v] ∧ zs = [.bl true] ∧ k1.has K H2 xs ∧ k2.has K H2 ys ∧ xs.length = ys.length ∧ R (ItZ K k1 k2 xs ys) H2
theorem pi_zipS {X : Cx} {e e2 : Expr} {kws : List Keyword} {ta tk : TA} {p pos tpos : Pos} {elts : List Expr} {kk : Nat} (hg : Gl X "zip") (hm : X.mg "zip" = none) (ha : PA X [e, e2] ta) (hkw : PK X kws tk)
    (hall : (backToKw pos (keywordEach kws X.env)).all (·.1.isSome) = true := by rfl) (hks : (backToKw pos (keywordEach kws X.env)).filterMap (·.1) = [Str.ofString "strict"] := by rfl)
    (he : starEach [e, e2] X.env = (false, eval e X.env) :: starEach [e2] X.env := by rfl)
    (hpl : ((backTo pos (starEach [e, e2] X.env)).any (·.1) || (backToKw pos (keywordEach kws X.env)).any (·.1.isNone)) = false := by rfl) :
    PI X (.Tuple elts kk tpos) (.Call (.Name "zip" p) [e, e2] kws pos) (iZipS X.K ta tk) := by
  refine ⟨fun pins s σ H R I h => ?_⟩
  refine wpAny_Call_Name_kw (ld_blt I hg hm PyProof.Rows.boot_zip ?_)
  refine callWith_typeKw hall (thn (ha.run pos pins s σ H _ I h) fun us s1 ⟨vs, H1, I1, r1, q1⟩ => thn (hkw.run pos pins s1 σ H1 _ I1 q1) fun ws s2 ⟨zs, H2, I2, r2, q2⟩ => ?_) hpl he
  obtain ⟨k1, k2, xs, ys, rfl, rfl, g1, g2, hl, q⟩ := q2
  rw [hks]
  cases r1 with
  | cons ra rr =>
    cases rr with
    | cons rb rr =>
      cases rr
      cases r2 with
      | cons rc rr =>
        cases rr
        cases rc
        obtain ⟨o1, Hc1, B1, c1, i1, l1⟩ := Sk.begins I2 g1 ra
        obtain ⟨o2, Hc2, B2, c2, i2, l2⟩ := Sk.begins I2 g2 rb
        refine zip_begins2S B1 B2 c1 c2 fun h' hz hTI hTO h1 h2 hsz hk => pyIter_zipS hz ?_
        have I3 : Inv X pins σ H2 { s2 with heap := h' } := I2.kept (t' := s2.toks) hk
        refine ⟨s2.heap.objs.size + 4, [s2.heap.objs.size + 4, s2.heap.objs.size + 2, s2.heap.objs.size + 3, s2.heap.objs.size, s2.heap.objs.size + 1], _, _, H2, rfl, I3, turn_zipS hl l1 l2, ⟨Nat.zero_le _, ⟨_, hz⟩, hTI, ⟨_, _, hTO⟩, i1 _ _ h1, i2 _ _ h2⟩, fun c hcm => ?_, q⟩
        have e' : c = s2.heap.objs.size + 4 ∨ c = s2.heap.objs.size + 2 ∨ c = s2.heap.objs.size + 3 ∨ c = s2.heap.objs.size ∨ c = s2.heap.objs.size + 1 := by simpa using hcm
        have hle : @LE.le Nat _ s2.heap.objs.size c := by rcases e' with q | q | q | q | q <;> (rw [q]; omega)
        exact I2.fpOk hle (I2.hok.fresh hle)
end MA
namespace PySem
/-- iter(v) is the object at it, in the heap nh -/
structure Beg (v : Value) (H : Heap → Prop) (it : Heap → Addr) (nh : Heap → Heap) : Prop where
  iter : ∀ (prog : Program) (w : World) (A : Around) (E : Value → Shared → Prop) (s : Shared) (Q : Value → Shared → Prop), H s.heap → Q (.ref (it s.heap)) { s with heap := nh s.heap } → wpAny (model prog w) A (pyIter v) Q E s
theorem meets_enumerate_newG {v : Value} {H : Heap → Prop} {it : Heap → Addr} {nh : Heap → Heap} (B : Beg v H it nh) :
    Meets (Builtin.«enumerate.__new__» ⟨[.type "enumerate", v], []⟩) (fun _ R s => H s.heap ∧
      R (.ok (.ret (.ref (nh s.heap).objs.size))) { s with heap := (nh s.heap).push { cls := .type "enumerate", data := .fields #[.none, .bool false, .ref (it s.heap), rawInt 0, .none, .none] } }) :=
  .of_wp fun prog w A R s h => by
    obtain ⟨hp, g, d, tk, os⟩ := s; obtain ⟨h1, h⟩ := h
    have hsub := sub_enumerate
    have q1 : ∀ {A' : Around} {E : Value → Shared → Prop} {Q : Value → Shared → Prop}, Q (.ref (it hp)) ⟨nh hp, g, d, tk, os⟩ → wpAny (model prog w) A' (pyIter v) Q E ⟨hp, g, d, tk, os⟩ :=
      fun q => B.iter prog w _ _ ⟨hp, g, d, tk, os⟩ _ h1 q
    wp_walk using q1
    refine wpAny_stack_any fun st => wpAny_pure ?_
    split
    · rename_i c _ _ _ _ _
      cases (c == Value.type "enumerate")
      · wp_walk using q1
        exact ⟨_, rfl, h⟩
      · wp_walk using q1
        exact ⟨_, rfl, h⟩
    · wp_walk using q1
      exact ⟨_, rfl, h⟩
section
variable {prog : Program} {w : World} {A : Around} {E : Value → Shared → Prop} {s : Shared}
theorem enum_beg {v : Value} {H : Heap → Prop} {it : Heap → Addr} {nh : Heap → Heap} {Q : Value → Shared → Prop} (B : Beg v H it nh) (h1 : H s.heap)
    (h : ∀ h', IsEnum h' (nh s.heap).objs.size (it s.heap) 0 .none → h'.objs.size = (nh s.heap).objs.size + 1 →
      (∀ b o, (nh s.heap).get? b = some o → h'.get? b = some o) → Q (.ref (nh s.heap).objs.size) { s with heap := h' }) :
    wpAny (model prog w) A (call (.type "enumerate") [v]) Q E s := by
  refine callType_new F.called_enumerate (by decide) (F.typeCall_enumerate_1 _) (F.newCall_enumerate_1 _) (fun obj => F.args_object_init_2 obj _) F.entry_enumerate_new
    (meets_enumerate_newG B) ⟨h1, ?_⟩
  have he : IsEnum ((nh s.heap).push { cls := .type "enumerate", data := .fields #[.none, .bool false, .ref (it s.heap), rawInt 0, .none, .none] }) (nh s.heap).objs.size (it s.heap) 0 .none := Heap.get?_push_size _ rfl
  exact ⟨⟨_, he, rfl⟩, h _ he (Heap.size_push ..) fun b o x => Heap.get?_push_of_some _ x⟩

/-- one turn of enumerate, whatever it walks: what the inner next leaves, and then the enumerate's own cells -/
theorem enumerate_next_itemG {e it : Addr} {i : Nat} {old : Value} {Q : Value → Shared → Prop} (he : IsEnum s.heap e it i old)
    (hin : wpAny (model prog w) A (Builtin.SmallTypes.nextOf (.ref it)) (fun x s1 => ∃ h1 tk, s1 = { s with heap := h1, toks := tk } ∧ IsEnum h1 e it i old ∧
      ∀ h', IsEnumOut h' e it ((i : Int) + 1) x h1.objs.size → h'.get? h1.objs.size = some { cls := .type "tuple", data := .seq #[.int i tk, x] } → h'.objs.size = h1.objs.size + 1 →
        (∀ b o, b ≠ e → h1.get? b = some o → h'.get? b = some o) → Q (.ref h1.objs.size) { s with heap := h', toks := tk + 1 }) E s) :
    wpAny (model prog w) A (Builtin.«enumerate.__next__» ⟨[.ref e], []⟩) (fun fin s' => ∃ v, fin = .done (.ret v) ∧ Q v s') E s := by
  obtain ⟨hp, g, d, tk0, os⟩ := s
  show wpAny _ _ (field (.ref e) 2 >>= _) _ _ _
  refine wpAny_bind (wpAny_field he rfl (x := .ref it) rfl ?_)
  refine wpAny_bind (wpAny_mono hin (fun x s1 h1 => ?_) fun _ _ q => q)
  obtain ⟨h1, tk, rfl, he1, hQ⟩ := h1
  show wpAny _ _ (field (.ref e) 3 >>= _) _ _ ⟨h1, g, d, tk, os⟩
  refine wpAny_bind (wpAny_field he1 rfl (x := rawInt i) rfl ?_)
  show wpAny _ _ (field (.ref e) 4 >>= _) _ _ ⟨h1, g, d, tk, os⟩
  refine wpAny_bind (wpAny_field he1 rfl (x := .none) rfl ?_)
  show wpAny _ _ (mkInt i >>= _) _ _ ⟨h1, g, d, tk, os⟩
  refine wpAny_bind (wpAny_mkInt ?_)
  show wpAny _ _ (setField (.ref e) 3 (rawInt ((i : Int) + 1)) >>= _) _ _ ⟨h1, g, d, tk + 1, os⟩
  refine wpAny_bind (wpAny_setField_rec he1 (by simp) fun h2 he2 hs2 => ?_)
  replace hs2 : Heap.SameBut e h1 h2 := hs2
  replace he2 : IsEnum h2 e it ((i : Int) + 1) old := he2
  show wpAny _ _ (setField (.ref e) 4 .none >>= _) _ _ ⟨h2, g, d, tk + 1, os⟩
  refine wpAny_bind (wpAny_setField_rec he2 (by simp) fun h3 he3 hs3 => ?_)
  replace hs3 : Heap.SameBut e h2 h3 := hs3
  replace he3 : IsEnum h3 e it ((i : Int) + 1) old := he3
  show wpAny _ _ (newTuple [.int i tk, x] >>= _) _ _ ⟨h3, g, d, tk + 1, os⟩
  refine wpAny_bind (wpAny_newTuple ?_)
  have he4 : IsEnum (h3.push { cls := .type "tuple", data := .seq #[.int i tk, x] }) e it ((i : Int) + 1) old := Heap.get?_push_of_some _ he3
  generalize hh4 : h3.push { cls := .type "tuple", data := .seq #[.int i tk, x] } = h4 at he4
  have hsz : h3.objs.size = h1.objs.size := by rw [hs3.1, hs2.1]
  have hel : e < h1.objs.size := Heap.lt_size he1
  have ht4 : h4.get? h1.objs.size = some { cls := .type "tuple", data := .seq #[.int i tk, x] } := by rw [← hh4, ← hsz]; exact Heap.get?_push_size _ rfl
  have hz4 : h4.objs.size = h1.objs.size + 1 := by rw [← hh4, Heap.size_push, hsz]
  have hk4 : ∀ b o, b ≠ e → h1.get? b = some o → h4.get? b = some o := fun b o hbe hb => by
    rw [← hh4]; exact Heap.get?_push_of_some _ (hs3.extBut b o hbe (hs2.extBut b o hbe hb))
  show wpAny _ _ (Builtin.SmallTypes.ownedTupleIsFree (.ref e) >>= _) _ _ ⟨h4, g, d, tk + 1, os⟩
  rw [hsz]
  refine wpAny_bind ?_
  unfold Builtin.SmallTypes.ownedTupleIsFree
  refine wpAny_bind (wpAny_field he4 rfl (x := .none) rfl (wpAny_pure ?_))
  simp only [if_true]
  refine wpAny_bind (wpAny_rule ?_)
  refine wpAny_bind (wpAny_field he4 rfl (x := old) rfl ?_)
  refine wpAny_bind (wpAny_setField_rec he4 (by simp) fun h5 he5 hs5 => ?_)
  replace hs5 : Heap.SameBut e h4 h5 := hs5
  replace he5 : IsEnum h5 e it ((i : Int) + 1) x := he5
  show wpAny _ _ (Builtin.SmallTypes.ownedTupleHandOut (.ref e) (.ref h1.objs.size) >>= _) _ _ ⟨h5, g, d, tk + 1, os⟩
  refine wpAny_bind ?_
  unfold Builtin.SmallTypes.ownedTupleHandOut
  refine wpAny_bind (wpAny_setField_rec he5 (by simp) fun h6 he6 hs6 => ?_)
  replace hs6 : Heap.SameBut e h5 h6 := hs6
  replace he6 : IsEnumOut h6 e it ((i : Int) + 1) x h1.objs.size := he6
  refine wpAny_setField_rec he6 (by simp) fun h7 he7 hs7 => ?_
  replace hs7 : Heap.SameBut e h6 h7 := hs7
  replace he7 : IsEnumOut h7 e it ((i : Int) + 1) x h1.objs.size := he7
  refine wpAny_bind (wpAny_letGo (wpAny_pure ⟨_, rfl, hQ h7 he7 ?_ ?_ ?_⟩))
  · exact hs7.extBut _ _ (Nat.ne_of_gt hel) (hs6.extBut _ _ (Nat.ne_of_gt hel) (hs5.extBut _ _ (Nat.ne_of_gt hel) ht4))
  · rw [hs7.1, hs6.1, hs5.1, hz4]
  · exact fun b o hbe hb => hs7.extBut b o hbe (hs6.extBut b o hbe (hs5.extBut b o hbe (hk4 b o hbe hb)))
theorem pyNext_enum_itemG {e it : Addr} {i : Nat} {old : Value} {Q : Option Value → Shared → Prop} (he : IsEnum s.heap e it i old)
    (hin : wpAny (model prog w) A.in1 (Builtin.SmallTypes.nextOf (.ref it)) (fun x s1 => ∃ h1 tk, s1 = { s with heap := h1, toks := tk } ∧ IsEnum h1 e it i old ∧
      ∀ h', IsEnumOut h' e it ((i : Int) + 1) x h1.objs.size → h'.get? h1.objs.size = some { cls := .type "tuple", data := .seq #[.int i tk, x] } → h'.objs.size = h1.objs.size + 1 →
        (∀ b o, b ≠ e → h1.get? b = some o → h'.get? b = some o) → Q (some (.ref h1.objs.size)) { s with heap := h', toks := tk + 1 }) (fun _ _ => False) s) :
    wpAny (model prog w) A (pyNext (.ref e)) Q E s := by
  have hT : s.TypeIs (.ref e) "enumerate" := ⟨_, he, rfl⟩
  unfold pyNext
  refine wpAny_bind (wpAny_attempt (wpAny_callSpecial?_slot (name := Str.ofString "__next__") hT F.slot_enumerate_next
    (wpAny_call_entry F.slot_enumerate_next hT F.entry_enumerate_next
      (enumerate_next_itemG he (wpAny_mono hin (fun x s1 h1 => ?_) fun _ _ q => q.elim)) (F.args_enumerate_next_1 _))))
  obtain ⟨h1, tk, e1, e2, q⟩ := h1
  exact ⟨h1, tk, e1, e2, fun h' a b c d => wpAny_pure (q h' a b c d)⟩
theorem pyNext_enum_endG {e it : Addr} {i : Int} {old : Value} {Q : Option Value → Shared → Prop} (he : IsEnum s.heap e it i old)
    (hin : wpAny (model prog w) A.in1 (Builtin.SmallTypes.nextOf (.ref it)) (fun _ _ => False) (fun x s1 => (∃ a o, x = .ref a ∧ s1.heap.get? a = some o ∧ o.cls = .type "StopIteration") ∧ Q none s1) s) :
    wpAny (model prog w) A (pyNext (.ref e)) Q E s := by
  have hT : s.TypeIs (.ref e) "enumerate" := ⟨_, he, rfl⟩
  unfold pyNext
  refine wpAny_bind (wpAny_attempt (wpAny_callSpecial?_slot (name := Str.ofString "__next__") hT F.slot_enumerate_next
    (wpAny_call_entry F.slot_enumerate_next hT F.entry_enumerate_next ?_ (F.args_enumerate_next_1 _))))
  show wpAny _ _ (field (.ref e) 2 >>= _) _ _ _
  refine wpAny_bind (wpAny_field he rfl (x := .ref it) rfl ?_)
  refine wpAny_bind (wpAny_mono hin (fun _ _ q => q.elim) fun x s1 q => ?_)
  obtain ⟨⟨a, o, rfl, ho, hc⟩, q⟩ := q
  refine wpAny_bind (wpAny_isInstance (T := "StopIteration") (b := true) ⟨o, ho, hc⟩ isSubtype_stop ?_)
  exact wpAny_pure q
end
end PySem

namespace MA
open PySem PySem.Spec PyProof.Rows L2
/-! ### enumerate(a sequence) -/
def yEnum (xs : List V) : Nat → Hp → V → Hp → Prop := fun i H v H' => ∃ T x, v = .ref T ∧ H T = none ∧ H' = upd H T (.tup [.int (i : Nat), x]) ∧ xs[i]? = some x
def ItE (K : PySem.W.Frag) (k : Sk) (xs : List V) : It := Itg (fun H => k.has K H xs) xs.length (yEnum xs)
theorem turn_enumS {P : Program} {w : World} {K : PySem.W.Frag} {elts : List Expr} {kk : Nat} {tpos : Pos} {N : Nat} {k : Sk} {xs : List V} (h1 : ∀ a, k.adr = some a → a < N) :
    Turn P w K (.Tuple elts kk tpos) (ItE K k xs) [N + 1, N] (N + 1) (fun i h => i ≤ xs.length ∧ (∃ old, IsEnum h (N + 1) N ((i : Nat) : Int) old) ∧ k.iter N i h) where
  mem := by simp
  obj := fun i h st c hc => by
    obtain ⟨_, ⟨old, he⟩, q1⟩ := st
    have e' : c = N + 1 ∨ c = N := by simpa using hc
    rcases e' with q | q
    · rw [q]; exact ⟨_, he, fun v q => nomatch q⟩
    · rw [q]; exact Sk.iter_obj q1
  keep := fun i h h' st k => by
    obtain ⟨hi, ⟨old, he⟩, q1⟩ := st
    exact ⟨hi, ⟨old, k _ (by simp) _ he⟩, Sk.iter_at q1 fun o q => k _ (by simp) o q⟩
  item := by
    intro X hP hw hK hc i pins s σ H E I hf st hg
    subst hP hw hK
    obtain ⟨hi, ⟨old, he⟩, q1⟩ := st
    obtain ⟨g1, hlt⟩ := hg
    have hh : X.A.in1.handled = none := I.ok.hd hc
    obtain ⟨fp1, P1, St1, D1, s1, m1, b1, r1, t1⟩ := Sk.draws (A := X.A.in1) I hh g1 (fun a e => Nat.ne_of_lt (h1 a e)) q1
    have hel : N + 1 < s.heap.objs.size := Heap.lt_size he
    refine pyNext_enum_itemG he (D1.item i s _ _ hlt s1 fun u h2 tk p1 st1 sb => ⟨h2, tk, rfl, (sb.2 _ (Nat.succ_ne_self _)).trans he, fun h' ho hT hsz hk => ?_⟩)
    obtain ⟨x, hx, rx⟩ := r1 i u p1
    have hz2 : h2.objs.size = s.heap.objs.size := sb.1
    rw [hz2] at ho hT hsz ⊢
    refine ⟨_, rfl, wpAny_letOwnedTupleGo_enum (s := { s with heap := h', toks := tk + 1 }) ho fun h'' he' sb' => ?_⟩
    have hT2 : h''.get? s.heap.objs.size = some { cls := .type "tuple", data := .seq #[.int i tk, u] } := (sb'.2 _ (Nat.ne_of_gt hel)).trans hT
    have new : ObjOk X.prog X.w (upd H s.heap.objs.size (.tup [.int (i : Nat), x])) h'' s.heap.objs.size (.tup [.int (i : Nat), x]) :=
      ⟨by show 2 ≤ sizeLine; decide, [.int i tk, u], .cons ⟨_, rfl⟩ (.cons rx .nil), ⟨_, hT2, rfl, _, rfl⟩⟩
    have I1 : Inv X pins σ (upd H s.heap.objs.size (.tup [.int (i : Nat), x])) { s with heap := h'', toks := tk + 1 } :=
      I.turnedNew (ch := [N + 1, N]) (fun b ob hb q => (sb'.2 b (fun z => hb (by simp [z]))).trans (hk b ob (fun z => hb (by simp [z])) ((sb.2 b (fun z => hb (by simp [z]))).trans q))) hf (Nat.le_refl _) new
    refine ⟨.ref s.heap.objs.size, _, I1, rfl, ⟨_, x, rfl, I.hok.fresh (Nat.le_refl _), rfl, hx⟩, ⟨hlt, ⟨u, ?_⟩, Sk.iter_at (t1 _ _ st1) fun o q => (sb'.2 _ (Nat.ne_of_lt (Nat.lt_succ_self _))).trans (hk _ _ (Nat.ne_of_lt (Nat.lt_succ_self _)) q)⟩, fun b hb => ?_⟩
    · have e1 : ((i + 1 : Nat) : Int) = (i : Int) + 1 := by omega
      rw [e1]; exact he'
    · have e' : b = N + 1 ∨ b = N := by simpa using hb
      have hb' : @LT.lt Nat _ b s.heap.objs.size := by rcases e' with q | q <;> (rw [q]; omega)
      rw [upd_ne (Nat.ne_of_lt hb')]
      exact (hf b hb).1
  done := by
    intro X hP hw hK hc i pins s σ H E I hf st hg
    subst hP hw hK
    obtain ⟨hi, ⟨old, he⟩, q1⟩ := st
    obtain ⟨g1, hge⟩ := hg
    have ei : i = xs.length := Nat.le_antisymm hi hge
    subst ei
    have hh : X.A.in1.handled = none := I.ok.hd hc
    obtain ⟨fp1, P1, St1, D1, s1, m1, b1, r1, t1⟩ := Sk.draws (A := X.A.in1) I hh g1 (fun a e => Nat.ne_of_lt (h1 a e)) q1
    refine pyNext_enum_endG he (D1.done s _ _ s1 fun h' ev ex he' => ?_)
    obtain ⟨o, ho, hcl⟩ := he'
    exact ⟨⟨ev, o, rfl, ho, hcl⟩, rfl, I.turnedL (t' := s.toks) (ch := [N + 1, N]) (fun c ob hb q => ex c ob (fun q' => hb (by simp [q'])) q) hf⟩
  self := fun A i s Q E st h => by
    obtain ⟨_, ⟨_, he⟩, _⟩ := st
    exact wpAny_pyIter_enum he h
theorem beg_of {v : Value} {o : Obj} {H : Heap → Prop} (B : Begins v o H) : Beg v H (fun h => h.objs.size) (fun h => h.push o) := ⟨fun prog w A E s Q h q => B.iter prog w A E s Q h q⟩
def iEnumS (K : PySem.W.Frag) (ta : TA) : TI := fun σ H R => ta σ H fun vs H1 => ∃ (k : Sk) (xs : List V), vs = [k.v] ∧ k.has K H1 xs ∧ R (ItE K k xs) H1
theorem pi_enumS {X : Cx} {e : Expr} {ta : TA} {p pos tpos : Pos} {elts : List Expr} {kk : Nat} (hg : Gl X "enumerate") (hm : X.mg "enumerate" = none) (ha : PA X [e] ta) (hs : starEach [e] X.env = [(false, eval e X.env)] := by rfl) :
    PI X (.Tuple elts kk tpos) (.Call (.Name "enumerate" p) [e] [] pos) (iEnumS X.K ta) := by
  refine ⟨fun pins s σ H R I h => ?_⟩
  refine Call_ (ld_blt I hg hm boot_enumerate (PyProof.Rows.callWith_type1 (thn (ha.run pos pins s σ H _ I h) fun us s1 ⟨vs, H1, I1, r1, q1⟩ => ?_) hs rfl))
  obtain ⟨k, xs, rfl, g1, q⟩ := q1
  cases r1 with
  | cons r rr =>
    cases rr
    obtain ⟨o1, Hc1, B1, c1, i1, l1⟩ := Sk.begins I1 g1 r
    refine enum_beg (beg_of B1) c1 fun h' he hsz hk => ?_
    have ez : (s1.heap.push o1).objs.size = s1.heap.objs.size + 1 := Heap.size_push ..
    simp only [ez] at he hsz ⊢
    refine wpAny_pyIter_enum (s := { s1 with heap := h' }) he ?_
    have hkk : ∀ b u, s1.heap.get? b = some u → h'.get? b = some u := fun b o x => hk b o (Heap.get?_push_of_some _ x)
    have I2 : Inv X pins σ H1 { s1 with heap := h' } := I1.kept (t' := s1.toks) hkk
    refine ⟨s1.heap.objs.size + 1, [s1.heap.objs.size + 1, s1.heap.objs.size], _, _, H1, rfl, I2, turn_enumS l1, ⟨Nat.zero_le _, ⟨.none, he⟩, i1 _ _ (hk _ _ (Heap.get?_push_size _ B1.free))⟩, fun b hb => ?_, q⟩
    have e' : b = s1.heap.objs.size + 1 ∨ b = s1.heap.objs.size := by simpa using hb
    have hle : @LE.le Nat _ s1.heap.objs.size b := by rcases e' with q | q <;> (rw [q]; omega)
    exact I1.fpOk hle (I1.hok.fresh hle)
end MA
namespace PySem
section
variable {prog : Program} {w : World} {A : Around} {E : Value → Shared → Prop} {s : Shared} {z TI TO i1 i2 : Addr} {fp1 fp2 : List Addr} {n i : Nat} {P1 P2 : Nat → Value → Prop} {St1 St2 : Nat → Heap → Prop} {a1 a2 f0 : Value} {f1 : Bool}
abbrev OutOr (f0 : Value) : Prop := f0 = .none ∨ ∃ T : Addr, f0 = rawInt T
theorem nextOf_zipS_item {Q : Value → Shared → Prop} (S : ZipSep2 z TI TO i1 i2 fp1 fp2) (D1 : Draws prog w A.in1 i1 fp1 n P1 St1) (D2 : Draws prog w A.in1 i2 fp2 n P2 St2)
    (hz : IsZipS s.heap z TI TO f0 f1) (hf : OutOr f0) (hTI : IsTupOf2 s.heap TI (.ref i1) (.ref i2)) (hTO : IsTupOf2 s.heap TO a1 a2) (st1 : St1 i s.heap) (st2 : St2 i s.heap) (hlt : i < n)
    (hQ : ∀ x1 x2 h' tk, P1 i x1 → P2 i x2 → (∃ f0 f1, OutOr f0 ∧ IsZipS h' z TI TO f0 f1) → (∃ b1 b2, IsTupOf2 h' TO b1 b2) → St1 (i + 1) h' → St2 (i + 1) h' → IsTupOf2 h' s.heap.objs.size x1 x2 → h'.objs.size = s.heap.objs.size + 1 →
      (∀ c o, c ≠ z → c ≠ TO → c ≠ i1 → c ≠ i2 → s.heap.get? c = some o → h'.get? c = some o) → Q (.ref s.heap.objs.size) { s with heap := h', toks := tk }) :
    wpAny (model prog w) A (Builtin.SmallTypes.nextOf (.ref z)) Q E s := by
  have hT : s.TypeIs (.ref z) "zip" := ⟨_, hz, rfl⟩
  have free : (∀ {E : Value → Shared → Prop} {Q : Bool → Shared → Prop}, Q true s → wpAny (model prog w) A.in1 (Builtin.SmallTypes.ownedTupleIsFree (.ref z)) Q E s) → wpAny (model prog w) A (Builtin.SmallTypes.nextOf (.ref z)) Q E s := fun hfr => by
    unfold Builtin.SmallTypes.nextOf
    exact wpAny_bind (wpAny_callSpecial?_slot (name := Str.ofString "__next__") hT F.slot_zip_next
      (wpAny_call_entry F.slot_zip_next hT F.entry_zip_next
        (zipS_next_item hfr S D1 D2 hz hTI hTO st1 st2 hlt fun x1 x2 h' tk y1 y2 b1 b2 d1 d2 b5 b6 b7 => wpAny_pure (hQ x1 x2 h' tk y1 y2 ⟨_, _, .inr ⟨_, rfl⟩, b1⟩ ⟨_, _, b2⟩ d1 d2 b5 b6 b7)) (F.args_zip_next_1 _)))
  rcases hf with rfl | ⟨T, rfl⟩
  · exact free (free_none hz)
  · cases hx : s.heap.get? T with
    | none => exact free (free_dead hz hx)
    | some oT =>
      unfold Builtin.SmallTypes.nextOf
      exact wpAny_bind (wpAny_callSpecial?_slot (name := Str.ofString "__next__") hT F.slot_zip_next
        (wpAny_call_entry F.slot_zip_next hT F.entry_zip_next
          (zipS_next_itemH S D1 D2 hz hx hTI st1 st2 hlt fun x1 x2 h' tk y1 y2 b1 d1 d2 b5 b6 b7 => wpAny_pure (hQ x1 x2 h' tk y1 y2 ⟨_, _, .inr ⟨_, rfl⟩, b1⟩ ⟨_, _, b7 _ _ S.TOz S.Ti1 S.Ti2 hTO⟩ d1 d2 b5 b6 (fun c o c1 c2 c3 c4 e => b7 c o c1 c3 c4 e))) (F.args_zip_next_1 _)))
theorem nextOf_zipS_end {Q : Value → Shared → Prop} (hh : A.handled = none) (S : ZipSep2 z TI TO i1 i2 fp1 fp2) (D1 : Draws prog w A.in1 i1 fp1 n P1 St1) (D2 : Draws prog w A.in1 i2 fp2 n P2 St2)
    (hz : IsZipS s.heap z TI TO f0 f1) (hf : OutOr f0) (hTI : IsTupOf2 s.heap TI (.ref i1) (.ref i2)) (hTO : IsTupOf2 s.heap TO a1 a2) (st1 : St1 n s.heap) (st2 : St2 n s.heap)
    (hE : ∀ h' tk e, (∀ c o, c ≠ z → c ≠ TO → c ≠ i1 → c ≠ i2 → s.heap.get? c = some o → h'.get? c = some o) → (∃ o, h'.get? e = some o ∧ o.cls = .type "StopIteration") → E (.ref e) { s with heap := h', toks := tk }) :
    wpAny (model prog w) A (Builtin.SmallTypes.nextOf (.ref z)) Q E s := by
  have hT : s.TypeIs (.ref z) "zip" := ⟨_, hz, rfl⟩
  have free : (∀ {E : Value → Shared → Prop} {Q : Bool → Shared → Prop}, Q true s → wpAny (model prog w) A.in1 (Builtin.SmallTypes.ownedTupleIsFree (.ref z)) Q E s) → wpAny (model prog w) A (Builtin.SmallTypes.nextOf (.ref z)) Q E s := fun hfr => by
    unfold Builtin.SmallTypes.nextOf
    exact wpAny_bind (wpAny_callSpecial?_slot (name := Str.ofString "__next__") hT F.slot_zip_next
      (wpAny_call_entry F.slot_zip_next hT F.entry_zip_next (zipS_next_end (A := A.in1) hh hfr S D1 D2 hz hTI hTO st1 st2 hE) (F.args_zip_next_1 _)))
  rcases hf with rfl | ⟨T, rfl⟩
  · exact free (free_none hz)
  · cases hx : s.heap.get? T with
    | none => exact free (free_dead hz hx)
    | some oT =>
      unfold Builtin.SmallTypes.nextOf
      exact wpAny_bind (wpAny_callSpecial?_slot (name := Str.ofString "__next__") hT F.slot_zip_next
        (wpAny_call_entry F.slot_zip_next hT F.entry_zip_next (zipS_next_endH (A := A.in1) hh S D1 D2 hz hx hTI st1 st2 hE) (F.args_zip_next_1 _)))
end
end PySem

namespace MA
open PySem PySem.Spec PyProof.Rows L2
def yEnumZip (xs ys : List V) : Nat → Hp → V → Hp → Prop := fun i H v H' => ∃ T T2 x y, v = .ref T2 ∧ H T = none ∧ upd H T (.tup [x, y]) T2 = none ∧ H' = upd (upd H T (.tup [x, y])) T2 (.tup [.int (i : Nat), .ref T]) ∧ xs[i]? = some x ∧ ys[i]? = some y
def ItEZ (K : PySem.W.Frag) (k1 k2 : Sk) (xs ys : List V) : It := Itg (fun H => k1.has K H xs ∧ k2.has K H ys) xs.length (yEnumZip xs ys)
theorem turn_enumZipS {P : Program} {w : World} {K : PySem.W.Frag} {elts : List Expr} {kk : Nat} {tpos : Pos} {N : Nat} {k1 k2 : Sk} {xs ys : List V} (hl : xs.length = ys.length) (h1 : ∀ a, k1.adr = some a → a < N) (h2 : ∀ a, k2.adr = some a → a < N) :
    Turn P w K (.Tuple elts kk tpos) (ItEZ K k1 k2 xs ys) [N + 5, N + 4, N + 2, N + 3, N, N + 1] (N + 5)
      (fun i h => i ≤ xs.length ∧ (∃ old, IsEnum h (N + 5) (N + 4) ((i : Nat) : Int) old) ∧ (∃ f0 f1, OutOr f0 ∧ IsZipS h (N + 4) (N + 2) (N + 3) f0 f1) ∧ IsTupOf2 h (N + 2) (.ref N) (.ref (N + 1)) ∧ (∃ x y, IsTupOf2 h (N + 3) x y) ∧ k1.iter N i h ∧ k2.iter (N + 1) i h) where
  mem := by simp
  obj := fun i h st c hc => by
    obtain ⟨_, ⟨old, he⟩, ⟨f0, f1, _, hz⟩, hTI, ⟨x, y, hTO⟩, q1, q2⟩ := st
    have e' : c = N + 5 ∨ c = N + 4 ∨ c = N + 2 ∨ c = N + 3 ∨ c = N ∨ c = N + 1 := by simpa using hc
    rcases e' with q | q | q | q | q | q
    · rw [q]; exact ⟨_, he, fun v q => nomatch q⟩
    · rw [q]; exact ⟨_, hz, fun v q => nomatch q⟩
    · rw [q]; exact ⟨_, hTI, fun v q => nomatch q⟩
    · rw [q]; exact ⟨_, hTO, fun v q => nomatch q⟩
    · rw [q]; exact Sk.iter_obj q1
    · rw [q]; exact Sk.iter_obj q2
  keep := fun i h h' st k => by
    obtain ⟨hi, ⟨old, he⟩, ⟨f0, f1, o0, hz⟩, hTI, ⟨x, y, hTO⟩, q1, q2⟩ := st
    exact ⟨hi, ⟨old, k _ (by simp) _ he⟩, ⟨f0, f1, o0, k _ (by simp) _ hz⟩, k _ (by simp) _ hTI, ⟨x, y, k _ (by simp) _ hTO⟩, Sk.iter_at q1 fun o q => k _ (by simp) o q, Sk.iter_at q2 fun o q => k _ (by simp) o q⟩
  item := by
    intro X hP hw hK hc i pins s σ H E I hf st hg
    subst hP hw hK
    obtain ⟨hi, ⟨old, he⟩, ⟨f0, f1, o0, hz⟩, hTI, ⟨x0, y0, hTO⟩, q1, q2⟩ := st
    obtain ⟨⟨g1, g2⟩, hlt⟩ := hg
    have hh : X.A.in1.in1.handled = none := I.ok.hd hc
    obtain ⟨fp1, P1, St1, D1, s1, m1, b1, r1, t1⟩ := Sk.draws (A := X.A.in1.in1) I hh g1 (fun a e => Nat.ne_of_lt (h1 a e)) q1
    obtain ⟨fp2, P2, St2, D2, s2, m2, b2, r2, t2⟩ := Sk.draws (A := X.A.in1.in1) I hh g2 (fun a e => Nat.ne_of_lt (Nat.lt_succ_of_lt (h2 a e))) q2
    rw [← hl] at D2
    have S := sepN h1 h2 m1 m2 b1 b2
    have hel : N + 5 < s.heap.objs.size := Heap.lt_size he
    have ne : ∀ {a b : Nat}, a ≠ b → @Ne Addr a b := fun h => h
    refine pyNext_enum_itemG he (nextOf_zipS_item S D1 D2 hz o0 hTI hTO s1 s2 hlt fun u1 u2 h2' tk p1 p2 z' TO' h1' hj2 hTz hszz hkz => ⟨h2', tk, rfl, hkz _ _ (ne (by omega)) (ne (by omega)) (ne (by omega)) (ne (by omega)) he, fun h' ho hT hsz hk => ?_⟩)
    obtain ⟨x, hx, rx⟩ := r1 i u1 p1
    obtain ⟨y, hy, ry⟩ := r2 i u2 p2
    rw [hszz] at ho hT hsz ⊢
    refine ⟨_, rfl, wpAny_letOwnedTupleGo_enum (s := { s with heap := h', toks := tk + 1 }) ho fun h'' he' sb' => ?_⟩
    -- the zip's tuple
    have newz : ObjOk X.prog X.w (upd H s.heap.objs.size (.tup [x, y])) h2' s.heap.objs.size (.tup [x, y]) :=
      ⟨by show 2 ≤ sizeLine; decide, [u1, u2], .cons rx (.cons ry .nil), ⟨_, hTz, rfl, _, rfl⟩⟩
    have I1 : Inv X pins σ (upd H s.heap.objs.size (.tup [x, y])) { s with heap := h2', toks := tk } :=
      I.turnedNew (t' := tk) (ch := [N + 4, N + 3, N, N + 1]) (fun c o hb q => hkz c o (fun q' => hb (by simp [q'])) (fun q' => hb (by simp [q'])) (fun q' => hb (by simp [q'])) (fun q' => hb (by simp [q'])) q)
        (fun b hb => hf b (by have e' : b = N + 4 ∨ b = N + 3 ∨ b = N ∨ b = N + 1 := by simpa using hb
                              rcases e' with q | q | q | q <;> (rw [q]; simp))) (Nat.le_refl _) newz
    -- the enumerate's
    have hT2 : h''.get? (s.heap.objs.size + 1) = some { cls := .type "tuple", data := .seq #[.int i tk, .ref s.heap.objs.size] } := (sb'.2 _ (ne (by omega))).trans hT
    have new2 : ObjOk X.prog X.w (upd (upd H s.heap.objs.size (.tup [x, y])) (s.heap.objs.size + 1) (.tup [.int (i : Nat), .ref s.heap.objs.size])) h'' (s.heap.objs.size + 1) (.tup [.int (i : Nat), .ref s.heap.objs.size]) :=
      ⟨by show 2 ≤ sizeLine; decide, [.int i tk, .ref s.heap.objs.size], .cons ⟨_, rfl⟩ (.cons rfl .nil), ⟨_, hT2, rfl, _, rfl⟩⟩
    have I2 : Inv X pins σ (upd (upd H s.heap.objs.size (.tup [x, y])) (s.heap.objs.size + 1) (.tup [.int (i : Nat), .ref s.heap.objs.size])) { s with heap := h'', toks := tk + 1 } :=
      I1.turnedNew (t' := tk + 1) (ch := [N + 5]) (fun c o hb q => (sb'.2 c (fun z => hb (by simp [z]))).trans (hk c o (fun z => hb (by simp [z])) q))
        (fun b hb => by
          have e' : b = N + 5 := by simpa using hb
          subst e'
          obtain ⟨f0', rest⟩ := hf (N + 5) (by simp)
          exact ⟨by rw [upd_ne (ne (by omega))]; exact f0', rest⟩) (by show h2'.objs.size ≤ s.heap.objs.size + 1; rw [hszz]; exact Nat.le_refl _) new2
    have kp : ∀ c o, c ≠ N + 5 → h2'.get? c = some o → h''.get? c = some o := fun c o c1 q => (sb'.2 c c1).trans (hk c o c1 q)
    have fr2 : upd H s.heap.objs.size (.tup [x, y]) (s.heap.objs.size + 1) = none := by
      have hk1 : HOk X.prog X.w (upd H s.heap.objs.size (.tup [x, y])) h2' := I1.hok
      exact hk1.fresh (Nat.le_of_eq hszz)
    obtain ⟨f0', f1', o0', hz'⟩ := z'
    obtain ⟨b1', b2', hTO'⟩ := TO'
    refine ⟨.ref (s.heap.objs.size + 1), _, I2, rfl, ⟨_, _, x, y, rfl, I.hok.fresh (Nat.le_refl _), fr2, rfl, hx, hy⟩, ⟨hlt, ⟨.ref s.heap.objs.size, ?_⟩, ⟨f0', f1', o0', kp _ _ (ne (by omega)) hz'⟩, kp _ _ (ne (by omega)) (hkz _ _ S.TIz S.TITO S.TIi1 S.TIi2 hTI), ⟨_, _, kp _ _ (ne (by omega)) hTO'⟩,
      Sk.iter_at (t1 _ _ h1') fun o q => kp _ _ (ne (by omega)) q, Sk.iter_at (t2 _ _ hj2) fun o q => kp _ _ (ne (by omega)) q⟩, fun c hcm => ?_⟩
    · have e1 : ((i + 1 : Nat) : Int) = (i : Int) + 1 := by omega
      rw [e1]; exact he'
    · have e' : c = N + 5 ∨ c = N + 4 ∨ c = N + 2 ∨ c = N + 3 ∨ c = N ∨ c = N + 1 := by simpa using hcm
      have hlt : @LT.lt Nat _ c s.heap.objs.size := by rcases e' with q | q | q | q | q | q <;> (rw [q]; omega)
      rw [upd_ne (ne (by omega)), upd_ne (ne (by omega))]
      exact (hf c hcm).1
  done := by
    intro X hP hw hK hc i pins s σ H E I hf st hg
    subst hP hw hK
    obtain ⟨hi, ⟨old, he⟩, ⟨f0, f1, o0, hz⟩, hTI, ⟨x0, y0, hTO⟩, q1, q2⟩ := st
    obtain ⟨⟨g1, g2⟩, hge⟩ := hg
    have ei : i = xs.length := Nat.le_antisymm hi hge
    subst ei
    have hh : X.A.in1.in1.handled = none := I.ok.hd hc
    obtain ⟨fp1, P1, St1, D1, s1, m1, b1, r1, t1⟩ := Sk.draws (A := X.A.in1.in1) I hh g1 (fun a e => Nat.ne_of_lt (h1 a e)) q1
    obtain ⟨fp2, P2, St2, D2, s2, m2, b2, r2, t2⟩ := Sk.draws (A := X.A.in1.in1) I hh g2 (fun a e => Nat.ne_of_lt (Nat.lt_succ_of_lt (h2 a e))) q2
    rw [← hl] at D2
    have S := sepN h1 h2 m1 m2 b1 b2
    refine pyNext_enum_endG he (nextOf_zipS_end (A := X.A.in1) (I.ok.hd hc) S D1 D2 hz o0 hTI hTO s1 s2 fun h' tk ev hk he' => ?_)
    obtain ⟨o, ho, hcl⟩ := he'
    exact ⟨⟨ev, o, rfl, ho, hcl⟩, rfl, I.turnedL (t' := tk) (ch := [N + 5, N + 4, N + 2, N + 3, N, N + 1]) (fun c o hb q =>
      hk c o (fun q' => hb (by simp [q'])) (fun q' => hb (by simp [q'])) (fun q' => hb (by simp [q'])) (fun q' => hb (by simp [q'])) q) hf⟩
  self := fun A i s Q E st h => by
    obtain ⟨_, ⟨_, he⟩, _⟩ := st
    exact wpAny_pyIter_enum he h
theorem beg_zipS {z TI TO : Addr} {f0 : Value} {f1 : Bool} : Beg (.ref z) (fun h => IsZipS h z TI TO f0 f1) (fun _ => z) (fun h => h) := ⟨fun prog w A E s Q h q => pyIter_zipS h q⟩
/-- enumerate(zip(a, b, strict=True)) -/
theorem pi_enumZipS {X : Cx} {e e2 : Expr} {kws : List Keyword} {ta tk : TA} {p p2 pos pos2 tpos : Pos} {elts : List Expr} {kk : Nat} (hgE : Gl X "enumerate") (hmE : X.mg "enumerate" = none) (hg : Gl X "zip") (hm : X.mg "zip" = none) (ha : PA X [e, e2] ta) (hkw : PK X kws tk)
    (hs : starEach [.Call (.Name "zip" p2) [e, e2] kws pos2] X.env = [(false, eval (.Call (.Name "zip" p2) [e, e2] kws pos2) X.env)] := by rfl)
    (hall : (backToKw pos2 (keywordEach kws X.env)).all (·.1.isSome) = true := by rfl) (hks : (backToKw pos2 (keywordEach kws X.env)).filterMap (·.1) = [Str.ofString "strict"] := by rfl)
    (he : starEach [e, e2] X.env = (false, eval e X.env) :: starEach [e2] X.env := by rfl)
    (hpl : ((backTo pos2 (starEach [e, e2] X.env)).any (·.1) || (backToKw pos2 (keywordEach kws X.env)).any (·.1.isNone)) = false := by rfl) :
    PI X (.Tuple elts kk tpos) (.Call (.Name "enumerate" p) [.Call (.Name "zip" p2) [e, e2] kws pos2] [] pos) (fun σ H R => ta σ H fun vs H1 => tk σ H1 fun zs H2 => ∃ (k1 k2 : Sk) (xs ys : List V), vs = [k1.v, k2.v] ∧ zs = [.bl true] ∧ k1.has X.K H2 xs ∧ k2.has X.K H2 ys ∧ xs.length = ys.length ∧ R (ItEZ X.K k1 k2 xs ys) H2) := by
  refine ⟨fun pins s σ H R I h => ?_⟩
  refine Call_ (ld_blt I hgE hmE boot_enumerate (PyProof.Rows.callWith_type1 ?_ hs rfl))
  rw [hs]
  show wpAny _ _ (spliced [(false, eval (.Call (.Name "zip" p2) [e, e2] kws pos2) X.env)]) _ _ s
  refine Calls.spliced_cons (wpAny_Call_Name_kw (ld_blt I hg hm PyProof.Rows.boot_zip ?_))
  refine callWith_typeKw hall (thn (ha.run pos2 pins s σ H _ I h) fun us s1 ⟨vs, H1, I1, r1, q1⟩ => thn (hkw.run pos2 pins s1 σ H1 _ I1 q1) fun ws s2 ⟨zs, H2, I2, r2, q2⟩ => ?_) hpl he
  obtain ⟨k1, k2, xs, ys, rfl, rfl, g1, g2, hl, q⟩ := q2
  rw [hks]
  cases r1 with
  | cons ra rr =>
    cases rr with
    | cons rb rr =>
      cases rr
      cases r2 with
      | cons rc rr =>
        cases rr
        cases rc
        obtain ⟨o1, Hc1, B1, c1, i1, l1⟩ := Sk.begins I2 g1 ra
        obtain ⟨o2, Hc2, B2, c2, i2, l2⟩ := Sk.begins I2 g2 rb
        refine zip_begins2S B1 B2 c1 c2 fun h' hz hTI hTO h1 h2 hsz hk => ?_
        refine Calls.spliced_nil ?_
        refine enum_beg (s := { s2 with heap := h' }) beg_zipS hz fun h'' he' hsz' hk' => ?_
        simp only [hsz] at he' hsz' ⊢
        refine wpAny_pyIter_enum (s := { s2 with heap := h'' }) he' ?_
        have hkk : ∀ b u, s2.heap.get? b = some u → h''.get? b = some u := fun b o x => hk' b o (hk b o x)
        have I3 : Inv X pins σ H2 { s2 with heap := h'' } := I2.kept (t' := s2.toks) hkk
        refine ⟨s2.heap.objs.size + 5, [s2.heap.objs.size + 5, s2.heap.objs.size + 4, s2.heap.objs.size + 2, s2.heap.objs.size + 3, s2.heap.objs.size, s2.heap.objs.size + 1], _, _, H2, rfl, I3, turn_enumZipS hl l1 l2,
          ⟨Nat.zero_le _, ⟨_, he'⟩, ⟨_, _, .inl rfl, hk' _ _ hz⟩, hk' _ _ hTI, ⟨_, _, hk' _ _ hTO⟩, i1 _ _ (hk' _ _ h1), i2 _ _ (hk' _ _ h2)⟩, fun c hcm => ?_, q⟩
        have e' : c = s2.heap.objs.size + 5 ∨ c = s2.heap.objs.size + 4 ∨ c = s2.heap.objs.size + 2 ∨ c = s2.heap.objs.size + 3 ∨ c = s2.heap.objs.size ∨ c = s2.heap.objs.size + 1 := by simpa using hcm
        have hle : @LE.le Nat _ s2.heap.objs.size c := by rcases e' with q | q | q | q | q | q <;> (rw [q]; omega)
        exact I2.fpOk hle (I2.hok.fresh hle)
end MA
namespace MA
open PySem PySem.Spec PyProof.Rows L2
/-! ### zip(a, b), as far as the shorter goes -/
def ItZN (K : PySem.W.Frag) (k1 k2 : Sk) (xs ys : List V) : It := Itg (fun H => k1.has K H xs ∧ k2.has K H ys) (min xs.length ys.length) (yPair xs ys)
theorem turn_zipN {P : Program} {w : World} {K : PySem.W.Frag} {elts : List Expr} {kk : Nat} {tpos : Pos} {N : Nat} {k1 k2 : Sk} {xs ys : List V} (h1 : ∀ a, k1.adr = some a → a < N) (h2 : ∀ a, k2.adr = some a → a < N) :
    Turn P w K (.Tuple elts kk tpos) (ItZN K k1 k2 xs ys) [N + 4, N + 2, N + 3, N, N + 1] (N + 4)
      (fun i h => i ≤ min xs.length ys.length ∧ IsZip h (N + 4) (N + 2) (N + 3) .none ∧ IsTupOf2 h (N + 2) (.ref N) (.ref (N + 1)) ∧ (∃ x y, IsTupOf2 h (N + 3) x y) ∧ k1.iter N i h ∧ k2.iter (N + 1) i h) where
  mem := by simp
  obj := fun i h st c hc => by
    obtain ⟨_, hz, hTI, ⟨x, y, hTO⟩, q1, q2⟩ := st
    have e' : c = N + 4 ∨ c = N + 2 ∨ c = N + 3 ∨ c = N ∨ c = N + 1 := by simpa using hc
    rcases e' with q | q | q | q | q
    · rw [q]; exact ⟨_, hz, fun v q => nomatch q⟩
    · rw [q]; exact ⟨_, hTI, fun v q => nomatch q⟩
    · rw [q]; exact ⟨_, hTO, fun v q => nomatch q⟩
    · rw [q]; exact Sk.iter_obj q1
    · rw [q]; exact Sk.iter_obj q2
  keep := fun i h h' st k => by
    obtain ⟨hi, hz, hTI, ⟨x, y, hTO⟩, q1, q2⟩ := st
    exact ⟨hi, k _ (by simp) _ hz, k _ (by simp) _ hTI, ⟨x, y, k _ (by simp) _ hTO⟩, Sk.iter_at q1 fun o q => k _ (by simp) o q, Sk.iter_at q2 fun o q => k _ (by simp) o q⟩
  item := by
    intro X hP hw hK hc i pins s σ H E I hf st hg
    subst hP hw hK
    obtain ⟨hi, hz, hTI, ⟨x0, y0, hTO⟩, q1, q2⟩ := st
    obtain ⟨⟨g1, g2⟩, hlt⟩ := hg
    have hh : X.A.in1.handled = none := I.ok.hd hc
    obtain ⟨fp1, P1, St1, D1, s1, m1, b1, r1, t1⟩ := Sk.draws (A := X.A.in1) I hh g1 (fun a e => Nat.ne_of_lt (h1 a e)) q1
    obtain ⟨fp2, P2, St2, D2, s2, m2, b2, r2, t2⟩ := Sk.draws (A := X.A.in1) I hh g2 (fun a e => Nat.ne_of_lt (Nat.lt_succ_of_lt (h2 a e))) q2
    have S := sepN h1 h2 m1 m2 b1 b2
    have hzl : N + 4 < s.heap.objs.size := Heap.lt_size hz
    have l1 : i < xs.length := by omega
    have l2 : i < ys.length := by omega
    refine wpAny_pyNext_zipD2_item S D1 D2 hz hTI hTO s1 s2 l1 l2 fun u1 u2 h' tk p1 p2 z' TO' h1' h2' hT hsz hk => ?_
    obtain ⟨x, hx, rx⟩ := r1 i u1 p1
    obtain ⟨y, hy, ry⟩ := r2 i u2 p2
    refine ⟨_, rfl, wpAny_letOwnedTupleGo_zip (s := { s with heap := h', toks := tk }) z' fun h'' z'' sb => ?_⟩
    have hT2 : h''.get? s.heap.objs.size = some { cls := .type "tuple", data := .seq #[u1, u2] } := (sb.2 _ (Nat.ne_of_gt hzl)).trans hT
    have new : ObjOk X.prog X.w (upd H s.heap.objs.size (.tup [x, y])) h'' s.heap.objs.size (.tup [x, y]) :=
      ⟨by show 2 ≤ sizeLine; decide, [u1, u2], .cons rx (.cons ry .nil), ⟨_, hT2, rfl, _, rfl⟩⟩
    have I1 : Inv X pins σ (upd H s.heap.objs.size (.tup [x, y])) { s with heap := h'', toks := tk } :=
      I.turnedNew (t' := tk) (ch := [N + 4, N + 2, N + 3, N, N + 1]) (fun c o hb q => (sb.2 c (fun q' => hb (by simp [q']))).trans (hk c o (fun q' => hb (by simp [q'])) (fun q' => hb (by simp [q'])) (fun q' => hb (by simp [q'])) (fun q' => hb (by simp [q'])) q)) hf (Nat.le_refl _) new
    refine ⟨.ref s.heap.objs.size, _, I1, rfl, ⟨_, x, y, rfl, I.hok.fresh (Nat.le_refl _), rfl, hx, hy⟩, ⟨hlt, z'', ?_, ⟨u1, u2, ?_⟩, ?_, ?_⟩, fun c hcm => ?_⟩
    · exact (sb.2 _ S.TIz).trans (hk _ _ S.TIz S.TITO S.TIi1 S.TIi2 hTI)
    · exact (sb.2 _ S.TOz).trans TO'
    · exact Sk.iter_at (t1 _ _ h1') fun o q => (sb.2 _ S.zi1.symm).trans q
    · exact Sk.iter_at (t2 _ _ h2') fun o q => (sb.2 _ S.zi2.symm).trans q
    · have e' : c = N + 4 ∨ c = N + 2 ∨ c = N + 3 ∨ c = N ∨ c = N + 1 := by simpa using hcm
      have hlt : @LT.lt Nat _ c s.heap.objs.size := by rcases e' with q | q | q | q | q <;> (rw [q]; omega)
      rw [upd_ne (Nat.ne_of_lt hlt)]
      exact (hf c hcm).1
  done := by
    intro X hP hw hK hc i pins s σ H E I hf st hg
    subst hP hw hK
    obtain ⟨hi, hz, hTI, ⟨x0, y0, hTO⟩, q1, q2⟩ := st
    obtain ⟨⟨g1, g2⟩, hge⟩ := hg
    have hh : X.A.in1.handled = none := I.ok.hd hc
    obtain ⟨fp1, P1, St1, D1, s1, m1, b1, r1, t1⟩ := Sk.draws (A := X.A.in1) I hh g1 (fun a e => Nat.ne_of_lt (h1 a e)) q1
    obtain ⟨fp2, P2, St2, D2, s2, m2, b2, r2, t2⟩ := Sk.draws (A := X.A.in1) I hh g2 (fun a e => Nat.ne_of_lt (Nat.lt_succ_of_lt (h2 a e))) q2
    have S := sepN h1 h2 m1 m2 b1 b2
    exact wpAny_pyNext_zipD2_end S D1 D2 hz hTI hTO s1 s2 (by omega) (by omega) (by omega) fun h' tk hk => ⟨rfl, I.turnedL (t' := tk) (ch := [N + 4, N + 2, N + 3, N, N + 1]) (fun c o hb q =>
      hk c o (fun q' => hb (by simp [q'])) (fun q' => hb (by simp [q'])) (fun q' => hb (by simp [q'])) (fun q' => hb (by simp [q'])) q) hf⟩
  self := fun A i s Q E st h => by
    obtain ⟨_, hz, _⟩ := st
    exact wpAny_pyIter_zip hz h
def zipNK (K : PySem.W.Frag) (R : It → Hp → Prop) (vs : List V) (H : Hp) : Prop := ∃ (k1 k2 : Sk) (xs ys : List V), vs = [k1.v, k2.v] ∧ k1.has K H xs ∧ k2.has K H ys ∧ R (ItZN K k1 k2 xs ys) H
def iZipN (K : PySem.W.Frag) (ta : TA) : TI := fun σ H R => ta σ H (zipNK K R)
theorem pi_zipN {X : Cx} {e e2 : Expr} {ta : TA} {p pos tpos : Pos} {elts : List Expr} {kk : Nat} (hg : Gl X "zip") (hm : X.mg "zip" = none) (ha : PA X [e, e2] ta)
    (hs : starEach [e, e2] X.env = (false, eval e X.env) :: starEach [e2] X.env := by rfl) (hpl : (backTo pos (starEach [e2] X.env)).any (·.1) = false := by rfl) :
    PI X (.Tuple elts kk tpos) (.Call (.Name "zip" p) [e, e2] [] pos) (iZipN X.K ta) := by
  refine ⟨fun pins s σ H R I h => ?_⟩
  refine Call_ (ld_blt I hg hm PyProof.Rows.boot_zip (PyProof.Rows.callWith_type1 (thn (ha.run pos pins s σ H _ I h) fun us s2 ⟨vs, H2, I2, r1, q1⟩ => ?_) hs hpl))
  obtain ⟨k1, k2, xs, ys, rfl, g1, g2, q⟩ := q1
  cases r1 with
  | cons ra rr =>
    cases rr with
    | cons rb rr =>
      cases rr
      obtain ⟨o1, Hc1, B1, c1, i1, l1⟩ := Sk.begins I2 g1 ra
      obtain ⟨o2, Hc2, B2, c2, i2, l2⟩ := Sk.begins I2 g2 rb
      refine zip_begins2 B1 B2 c1 c2 fun h' hz hTI hTO h1 h2 hsz hk => wpAny_pyIter_zip hz ?_
      have I3 : Inv X pins σ H2 { s2 with heap := h' } := I2.kept (t' := s2.toks) hk
      refine ⟨s2.heap.objs.size + 4, [s2.heap.objs.size + 4, s2.heap.objs.size + 2, s2.heap.objs.size + 3, s2.heap.objs.size, s2.heap.objs.size + 1], _, _, H2, rfl, I3, turn_zipN l1 l2, ⟨Nat.zero_le _, hz, hTI, ⟨_, _, hTO⟩, i1 _ _ h1, i2 _ _ h2⟩, fun c hcm => ?_, q⟩
      have e' : c = s2.heap.objs.size + 4 ∨ c = s2.heap.objs.size + 2 ∨ c = s2.heap.objs.size + 3 ∨ c = s2.heap.objs.size ∨ c = s2.heap.objs.size + 1 := by simpa using hcm
      have hle : @LE.le Nat _ s2.heap.objs.size c := by rcases e' with q | q | q | q | q <;> (rw [q]; omega)
      exact I2.fpOk hle (I2.hok.fresh hle)
section
variable {K : PySem.W.Frag} {σ : L2.St} {H : Hp}
theorem w_zipN {tt : TA} {R : It → Hp → Prop} (h : tt σ H (zipNK K R)) : iZipN K tt σ H R := h
theorem w_zipNI {R : It → Hp → Prop} (k1 k2 : Sk) (xs ys : List V) (h1 : k1.has K H xs) (h2 : k2.has K H ys) (q : R (ItZN K k1 k2 xs ys) H) : zipNK K R [k1.v, k2.v] H := ⟨k1, k2, xs, ys, rfl, h1, h2, q⟩
end
end MA
/-! MA: one rule for each operation, whatever the kinds of its operands. -/
namespace MA
open PySem PySem.Spec PyProof.Rows L2

set_option maxHeartbeats 4000000 in
theorem tuple_mul1 (l : Addr) (items : Array Value) (n : Nat) (dd : Option Addr) (sl : Array (Option Value)) (u : Tok) :
    Meets (Builtin.«tuple.__mul__» ⟨[.ref l, .int 1 u], []⟩) (fun _ R s => s.heap.get? l = some { cls := .type "tuple", dict := dd, data := .seq items n, slots := sl } ∧
      R (.ok (.ret (Value.ref l))) s) :=
  .of_wp fun prog w A R s h => by
    obtain ⟨hp, g, d, tk, os⟩ := s
    obtain ⟨hl, h⟩ := h
    have f1 := AutoSeq1.idx_int
    have c1 : (items.isEmpty || (1 : Int) == 1) = true := by rw [Bool.or_eq_true]; exact .inr rfl
    wp_walk using wpAny_loadPart' hl
    repeat (first
      | (refine wpAny_ite_true (decide_eq_true c1) ?_; wp_walk using wpAny_loadPart' hl)
      | (refine wpAny_ite_false (decide_eq_false (by decide)) ?_; wp_walk using wpAny_loadPart' hl))
    exact ⟨_, rfl, h⟩
def rRepT1 (K : PySem.W.Frag) : R2 := fun x y H Q => ∃ l xs, x = .ref l ∧ y = .int 1 ∧ SqT K H l xs ∧ Q (.ref l) H
theorem op_repT1 {X : Cx} : OpR X (binaryOp .Mult) (rRepT1 X.K) := by
  intro pins s σ H x y v u Q I rx ry h
  obtain ⟨l, xs, rfl, rfl, hT, q⟩ := h
  cases rx
  obtain ⟨t, rfl⟩ := ry
  obtain ⟨its, r, ⟨⟨cls, dd, data, sl⟩, ho, hc, n, hd⟩, hs⟩ := I.tuple hT
  simp only at hc hd
  subst hc hd
  refine wpAny_binaryOp_repeat_ref (T := "tuple") (U := "int") (by decide) ⟨_, ho, rfl⟩ (fun s' => typeIs_int s' 1 t) noFill_tuple_mul F.fills_int_mul F.slot_int_rmul repeat_tuple F.slot_int_index.lookup
    (call_meets F.slot_int_rmul (typeIs_int s 1 t) F.entry_int_rmul (F.args_int_rmul_2 _ _) (int_rmul_tuple 1 t l its.toArray n dd sl)
      ⟨ho, rfl, ⟨_, ho, rfl⟩, call_meets F.slot_tuple_mul ⟨_, ho, rfl⟩ F.entry_tuple_mul (F.args_tuple_mul_2 _ _) (tuple_mul1 l its.toArray n dd sl t) ⟨ho, ?_⟩⟩)
  exact ⟨.ref l, H, I, rfl, q⟩
section ops
variable {X : Cx}
def rAddS : R2 := fun x y H Q => ∃ i j, x = .str i ∧ y = .str j ∧ i.length + j.length ≤ sizeLine ∧ Q (.str (i ++ j)) H
/-- a truth and a number -/
def rAddB : R2 := fun x y H Q => ∃ a b, x = .bl a ∧ y = .int b ∧ Q (.int ((if a = true then (1 : Int) else 0) + b)) H
theorem op_addB : OpR X (binaryOp .Add) rAddB := by
  intro pins s σ H x y v u Q I rx ry h
  obtain ⟨a, b, rfl, rfl, q⟩ := h
  cases rx
  obtain ⟨t, rfl⟩ := ry
  exact PySem.IntBool.add_bool_int ⟨.int _, H, I.tok _, ⟨_, rfl⟩, q⟩
def rSubB : R2 := fun x y H Q => ∃ a b, x = .bl a ∧ y = .int b ∧ Q (.int ((if a = true then (1 : Int) else 0) - b)) H
theorem op_subB : OpR X (binaryOp .Sub) rSubB := by
  intro pins s σ H x y v u Q I rx ry h
  obtain ⟨a, b, rfl, rfl, q⟩ := h
  cases rx
  obtain ⟨t, rfl⟩ := ry
  exact PySem.IntBool.sub_bool_int ⟨.int _, H, I.tok _, ⟨_, rfl⟩, q⟩
def rAddU (K : PySem.W.Frag) : R2 := fun x y H Q => (rI0 fun i j => .int (i + j)) x y H Q ∨ rAddS x y H Q ∨ rCat x y H Q ∨ rCatA K x y H Q ∨ rAddB x y H Q
theorem u_add : OpR X (binaryOp .Add) (rAddU X.K) := op_add.or (OpR.or (r := rAddS) op_add_str (op_cat.or (op_catA.or op_addB)))
def rSubU : R2 := fun x y H Q => (rI0 fun i j => .int (i - j)) x y H Q ∨ rSubB x y H Q
theorem u_sub : OpR X (binaryOp .Sub) rSubU := op_sub.or op_subB
def rRepS : R2 := fun x y H Q => ∃ i n, x = .str i ∧ y = .int n ∧ MulOk i n ∧ Q (.str (Txt.mul i n)) H
theorem op_rep_str : OpR X (binaryOp .Mult) rRepS := by
  intro pins s σ H x y v u Q I rx ry h
  obtain ⟨i, n, rfl, rfl, h1, q⟩ := h
  obtain ⟨t, rfl⟩ := rx
  obtain ⟨t', rfl⟩ := ry
  exact SB.mul h1 fun t2 k => ⟨.str _, H, I.tok _, ⟨_, rfl⟩, q⟩
def rMulU (K : PySem.W.Frag) : R2 := fun x y H Q => (rI CMul fun i j => .int (i * j)) x y H Q ∨ (rI CMulX fun i j => .int (i * j)) x y H Q ∨ rRepS x y H Q ∨ rRep x y H Q ∨ rRepT K x y H Q ∨ rRepT1 K x y H Q
theorem u_mul : OpR X (binaryOp .Mult) (rMulU X.K) := op_mul.or (op_mulX.or (op_rep_str.or (op_rep.or (op_repT.or op_repT1))))
def rFdivU : R2 := rI CDivW fun i j => .int (i / j)
theorem u_fdiv : OpR X (binaryOp .FloorDiv) rFdivU := op_fdivW
def rModU : R2 := rI (fun _ j => 0 < j) fun i j => .int (i % j)
theorem u_mod : OpR X (binaryOp .Mod) rModU := op_mod
def rPowU : R2 := rI CPow fun i j => .int (i ^ j.toNat)
theorem u_pow : OpR X (binaryOp .Pow) rPowU := op_pow
def rShlU : R2 := rI CShl fun i j => .int (i * 2 ^ j.toNat)
theorem u_shl : OpR X (binaryOp .LShift) rShlU := op_shlW
def rShrU : R2 := rI (fun _ j => 0 ≤ j) fun i j => .int (i / 2 ^ j.toNat)
theorem u_shr : OpR X (binaryOp .RShift) rShrU := op_shr
def rAndU : R2 := rI0 fun i j => .int (Builtin.bitAnd i j)
theorem u_and : OpR X (binaryOp .BitAnd) rAndU := op_and
def rOrU : R2 := rI0 fun i j => .int (Builtin.bitOr i j)
theorem u_or : OpR X (binaryOp .BitOr) rOrU := op_or
def rXorU : R2 := rI0 fun i j => .int (Builtin.bitXor i j)
theorem u_xor : OpR X (binaryOp .BitXor) rXorU := op_xor
def rEqU (K : PySem.W.Frag) : R2 := fun x y H Q => rEq x y H Q ∨ rEqD K x y H Q
theorem u_eq (hu : X.A.units + 64 < cLine) : OpR X (compareOp .Eq) (rEqU X.K) := op_eq.or (op_eqD hu)
def rNeU (K : PySem.W.Frag) : R2 := fun x y H Q => rNe x y H Q ∨ rNeD K x y H Q
theorem u_ne (hu : X.A.units + 64 < cLine) : OpR X (compareOp .NotEq) (rNeU X.K) := op_ne.or (op_neD hu)
def rLtS : R2 := fun x y H Q => ∃ i j, x = .str i ∧ y = .str j ∧ Q (.bl (decide (i.cps.toList < j.cps.toList))) H
def rLtU (K : PySem.W.Frag) : R2 := fun x y H Q => (rI0 fun i j => .bl (decide (i < j))) x y H Q ∨ rLtS x y H Q ∨ rLtT K x y H Q
theorem u_lt (hu : X.A.units + 64 < cLine) : OpR X (compareOp .Lt) (rLtU X.K) := op_lt.or (OpR.or (r := rLtS) op_lt_str (op_ltT (by omega)))
def rLeS : R2 := fun x y H Q => ∃ i j, x = .str i ∧ y = .str j ∧ Q (.bl (!decide (j.cps.toList < i.cps.toList))) H
def rLeU : R2 := fun x y H Q => (rI0 fun i j => .bl (decide (i ≤ j))) x y H Q ∨ rLeS x y H Q
theorem u_le (hu : X.A.units + 64 < cLine) : OpR X (compareOp .LtE) rLeU := op_le.or (r' := rLeS) op_le_str
def rGtU : R2 := rI0 fun i j => .bl (decide (j < i))
theorem u_gt (hu : X.A.units + 64 < cLine) : OpR X (compareOp .Gt) rGtU := op_gt
def rGeU : R2 := rI0 fun i j => .bl (decide (j ≤ i))
theorem u_ge (hu : X.A.units + 64 < cLine) : OpR X (compareOp .GtE) rGeU := op_ge
def rInSg : R2 := fun x y H Q => ∃ (c : Nat) (z : Str), x = .str ⟨#[c]⟩ ∧ y = .str z ∧ Q (.bl (decide (c ∈ z.cps.toList))) H
def rInU (K : PySem.W.Frag) : R2 := fun x y H Q => rIn K false x y H Q ∨ rInSg x y H Q
theorem u_in (hu : X.A.units + 64 < cLine) : OpR X (compareOp .In) (rInU X.K) := op_in_seq.or (r' := rInSg) op_in_sign
def rNiSg : R2 := fun x y H Q => ∃ (c : Nat) (z : Str), x = .str ⟨#[c]⟩ ∧ y = .str z ∧ Q (.bl (!decide (c ∈ z.cps.toList))) H
def rNiU (K : PySem.W.Frag) : R2 := fun x y H Q => rIn K true x y H Q ∨ rNiSg x y H Q
theorem u_notin (hu : X.A.units + 64 < cLine) : OpR X (compareOp .NotIn) (rNiU X.K) := op_notIn_seq.or (r' := rNiSg) op_notIn_sign
def rIsNn : R2 := fun x y H Q => y = .non ∧ Q (.bl (decide (x = .non))) H
def rIsU : R2 := fun x y H Q => rIsNn x y H Q ∨ rIsB x y H Q
theorem u_is (hu : X.A.units + 64 < cLine) : OpR X (compareOp .Is) rIsU := OpR.or (r := rIsNn) op_isN op_isBl
def rNotNn : R2 := fun x y H Q => y = .non ∧ Q (.bl (!decide (x = .non))) H
def rIsntU : R2 := fun x y H Q => rNotNn x y H Q ∨ rNotB x y H Q
theorem u_isnot (hu : X.A.units + 64 < cLine) : OpR X (compareOp .IsNot) rIsntU := OpR.or (r := rNotNn) op_notN op_notBl
/-! slices -/
def rSlU (K : PySem.W.Frag) : V → Option Int → Option Int → Hp → VK → Prop := fun x lo hi H Q => rSlS x lo hi H Q ∨ rSlL K x lo hi H Q ∨ rSlA K x lo hi H Q
theorem u_sl : SlR X (rSlU X.K) := SlR.or sl_str (SlR.or sl_list sl_tupA)
/-! in place -/
def ipAddS : TIp := fun x y H Q => ∃ i j, x = .str i ∧ y = .str j ∧ i.length + j.length ≤ sizeLine ∧ Q (.str (i ++ j)) H
/-! len -/
def rLenU (K : PySem.W.Frag) : List V → Hp → VK → Prop := fun xs H Q => ∃ x n, xs = [x] ∧ LenV K x H n ∧ Q (.int n) H
theorem u_len : CallR X (.builtin "len") (rLenU X.K) := call_len
end ops

/-! ### what is walked: a value that is a list, a tuple, a text -/
/-- a value's iterator, by the value -/
def ItV (X : Cx) (tg : Expr) (r : V → Hp → (It → Hp → Prop) → Prop) : Prop := ∀ (pins : List (Addr × Obj)) (s : Shared) (σ : L2.St) (H : Hp) (x : V) (u : Value) (R : It → Hp → Prop), Inv X pins σ H s → RelV x u → r x H R →
  wpAny (model X.prog X.w) X.A (pyIter u) (PIE X pins σ tg R) X.xe s
theorem pi_of {X : Cx} {tg e : Expr} {te : TE} {r : V → Hp → (It → Hp → Prop) → Prop} (he : PE X e te) (h : ItV X tg r) : PI X tg e (fun σ H R => te σ H fun x H1 => r x H1 R) :=
  ⟨fun pins s σ H R I q => thn (he.run pins s σ H _ I q) fun v s1 ⟨x, H1, I1, r1, q1⟩ => h pins s1 σ H1 x v R I1 r1 q1⟩
def ySeq (xs : List V) : Nat → Hp → V → Hp → Prop := fun i H x H' => H' = H ∧ xs[i]? = some x
/-- a sequence's items, the sequence staying as it is -/
def ItQ (K : PySem.W.Frag) (k : Sk) (xs : List V) : It := Itg (fun H => k.has K H xs) xs.length (ySeq xs)
theorem Turn.weaken {P : Program} {w : World} {K : PySem.W.Frag} {tg : Expr} {J J' : It} {fp : List Addr} {it : Addr} {tn : Nat → Heap → Prop} (T : Turn P w K tg J fp it tn) (hg : ∀ i H, J'.go i H → J.go i H) (hy : ∀ i H x H', J'.go i H → J.yld i H x H' → J'.yld i H x H') (hs : ∀ i H, J'.stop i H → J.stop i H) :
    Turn P w K tg J' fp it tn where
  mem := T.mem
  obj := T.obj
  keep := T.keep
  item := fun X hP hw hK hc i pins s σ H E I hf st g => wpAny_mono (T.item X hP hw hK hc i pins s σ H E I hf st (hg i H g)) (fun r s1 ⟨u, e, h⟩ => ⟨u, e, wpAny_mono h (fun _ s2 ⟨x, H', I2, rx, y, t, f⟩ => ⟨x, H', I2, rx, hy i H x H' g y, t, f⟩) fun _ _ z => z⟩) fun _ _ z => z
  done := fun X hP hw hK hc i pins s σ H E I hf st g => T.done X hP hw hK hc i pins s σ H E I hf st (hs i H g)
  self := T.self
/-- the reading of what is walked, given its value -/
def rSeqIt (K : PySem.W.Frag) : V → Hp → (It → Hp → Prop) → Prop := fun x H R => ∃ (k : Sk) (xs : List V), x = k.v ∧ k.has K H xs ∧ R (ItQ K k xs) H
theorem PIE.mono {X : Cx} {pins : List (Addr × Obj)} {σ : L2.St} {tg : Expr} {R : It → Hp → Prop} {itv : Value} {s2 : Shared} {J' : It → It → Hp → Prop} (h : PIE X pins σ tg R itv s2) {R' : It → Hp → Prop}
    (hR : ∀ J H, R J H → ∃ J', R' J' H ∧ (∀ i H, J'.go i H → J.go i H) ∧ (∀ i H x H', J'.go i H → J.yld i H x H' → J'.yld i H x H') ∧ (∀ i H, J'.stop i H → J.stop i H)) : PIE X pins σ tg R' itv s2 := by
  obtain ⟨it, fp, tn, J, H', e, I, T, t0, f, q⟩ := h
  obtain ⟨J', q', a, b, c⟩ := hR J H' q
  exact ⟨it, fp, tn, J', H', e, I, Turn.weaken T a b c, t0, f, q'⟩
theorem pi_seq {X : Cx} {tg e : Expr} {te : TE} (he : PE X e te) : PI X tg e (fun σ H R => te σ H fun x H1 => rSeqIt X.K x H1 R) := by
  refine pi_of he fun pins s σ H x u R I r h => ?_
  obtain ⟨k, xs, rfl, g, q⟩ := h
  cases k with
  | lst a =>
    cases (show u = Value.ref a from r)
    obtain ⟨its, rv, p, hz⟩ := I.list g
    refine wpAny_pyIter_list p.isList ?_
    have J0 : PIE X pins σ tg (fun J H => J = Itl X.K a ∧ R (ItQ X.K (.lst a) xs) H) (.ref s.heap.objs.size) { s with heap := s.heap.push { cls := .type "list_iterator", data := .fields #[.ref a, .int 0 0] } } :=
      pi_one (tk := s.toks) I _ (turn_list a _) ⟨_, Heap.get?_push_size _ rfl, rfl, rfl⟩ ⟨rfl, q⟩
    refine PIE.mono (J' := fun _ _ _ => True) J0 fun J H ⟨ej, q⟩ => ⟨_, q, ?_, ?_, ?_⟩
    · subst ej
      exact fun i H ⟨g, hi⟩ => ⟨xs, xs[i], g, by simp [hi]⟩
    · subst ej
      exact fun i H x H' ⟨g, hi⟩ ⟨e, y⟩ => ⟨e, y xs g⟩
    · subst ej
      exact fun i H ⟨g, hi⟩ => ⟨xs, g, hi⟩
  | tup a =>
    cases (show u = Value.ref a from r)
    obtain ⟨its, rv, p, hz⟩ := I.tuple g
    refine wpAny_pyIter_tuple (show s.heap.IsTuple a its.toArray from p) ?_
    have J0 : PIE X pins σ tg (fun J H => J = Itt X.K a ∧ R (ItQ X.K (.tup a) xs) H) (.ref s.heap.objs.size) { s with heap := s.heap.push { cls := .type "tuple_iterator", data := .fields #[.ref a, .int 0 0] } } :=
      pi_one (tk := s.toks) I _ (turn_tuple a _) ⟨_, Heap.get?_push_size _ rfl, rfl, rfl⟩ ⟨rfl, q⟩
    refine PIE.mono (J' := fun _ _ _ => True) J0 fun J H ⟨ej, q⟩ => ⟨_, q, ?_, ?_, ?_⟩
    · subst ej
      exact fun i H ⟨g, hi⟩ => ⟨xs, xs[i], g, by simp [hi]⟩
    · subst ej
      exact fun i H x H' ⟨g, hi⟩ ⟨e, y⟩ => ⟨e, y xs g⟩
    · subst ej
      exact fun i H ⟨g, hi⟩ => ⟨xs, g, hi⟩
  | str z =>
    cases g
    obtain ⟨t, rfl⟩ := (show ∃ t, u = Value.str z t from r)
    have fin : ∀ {itv s2}, PIE X pins σ tg (fun J H => J = Its z ∧ R (ItQ X.K (.str z) (signs z)) H) itv s2 → PIE X pins σ tg R itv s2 := fun J0 => by
      have el : (signs z).length = z.cps.size := by simp [signs]
      refine PIE.mono (J' := fun _ _ _ => True) J0 fun J H ⟨ej, q⟩ => ⟨_, q, ?_, ?_, ?_⟩
      · subst ej
        exact fun i H ⟨g, hi⟩ => by rw [el] at hi; exact hi
      · subst ej
        refine fun i H x H' ⟨g, hi⟩ ⟨e, c, hc, ex⟩ => ⟨e, ?_⟩
        have hc' : z.cps.toList[i]? = some c := by simpa using hc
        simp only [signs, List.getElem?_map, hc', Option.map_some, ex]
      · subst ej
        exact fun i H ⟨g, hi⟩ => by rw [el] at hi; exact hi
    cases ha : z.cps.all (· < 128)
    · exact wpAny_pyIter_wide ha (fin (pi_one (tk := s.toks) I _ (turn_str _ z t "str_iterator" (.inr rfl)) ⟨_, Heap.get?_push_size _ rfl, rfl, rfl⟩ ⟨rfl, q⟩))
    · exact wpAny_pyIter_ascii ha (fin (pi_one (tk := s.toks) I _ (turn_str _ z t "str_ascii_iterator" (.inl rfl)) ⟨_, Heap.get?_push_size _ rfl, rfl, rfl⟩ ⟨rfl, q⟩))
end MA
/-! MB: calls and methods, one rule each; the readings' names. -/
namespace MA
open PySem PySem.Spec PyProof.Rows L2

section calls
variable {X : Cx}
def rAbs : List V → Hp → VK → Prop := fun xs H Q => ∃ i, xs = [.int i] ∧ Q (.int (if i < 0 then -i else i)) H
def rDivmod : List V → Hp → VK → Prop := fun xs H Q => ∃ i j, xs = [.int i, .int j] ∧ CDivP i j ∧ ∀ p, H p = none → Q (.ref p) (upd H p (.tup [.int (i / j), .int (i % j)]))
def rIntU : List V → Hp → VK → Prop := fun xs H Q => ((∃ i, xs = [.int i] ∧ Q (.int i) H) ∨ ∃ k, xs = [.bl k] ∧ Q (.int (if k then 1 else 0)) H) ∨ ∃ a n, xs = [.str a] ∧ PySem.intText? a = some n ∧ a.length ≤ 640 ∧ Q (.int n) H
theorem u_int : CallR X (.type "int") rIntU := call_int1.or call_int_str
def rMin2 : List V → Hp → VK → Prop := fun xs H Q => ∃ i j, xs = [.int i, .int j] ∧ Q (.int (if j < i then j else i)) H
def rMax2 : List V → Hp → VK → Prop := fun xs H Q => ∃ i j, xs = [.int i, .int j] ∧ Q (.int (if j > i then j else i)) H
def rMinU (K : PySem.W.Frag) : List V → Hp → VK → Prop := fun xs H Q => rMin2 xs H Q ∨ rMin K xs H Q
theorem u_min (hc : X.calm = true) : CallR X (.builtin "min") (rMinU X.K) := CallR.or (r := rMin2) (call_min2 hc) (cr_min hc)
def rMaxU (K : PySem.W.Frag) : List V → Hp → VK → Prop := fun xs H Q => rMax2 xs H Q ∨ rMax K xs H Q
theorem u_max (hc : X.calm = true) : CallR X (.builtin "max") (rMaxU X.K) := CallR.or (r := rMax2) (call_max2 hc) (cr_max hc)
def rIsiU (K : PySem.W.Frag) : List V → Hp → VK → Prop := fun xs H Q => rIsi K xs H Q ∨ rIsiT K xs H Q
theorem u_isi : CallR X (.builtin "isinstance") (rIsiU X.K) := call_isi.or call_isiT
def rBool1 : List V → Hp → VK → Prop := fun xs H Q => (∃ i, xs = [.int i] ∧ Q (.bl (i != 0)) H) ∨ ∃ k, xs = [.bl k] ∧ Q (.bl k) H
/-! list(x): a list, a tuple, a text -/
def rListStr : List V → Hp → VK → Prop := fun xs H Q => ∃ z, xs = [.str z] ∧ z.length ≤ sizeLine ∧ ∀ l, H l = none → Q (.ref l) (upd H l (.lst (signs z)))
theorem call_listStr (hc : X.calm = true) : CallR X (.type "list") rListStr := by
  intro pins s σ H xs us Q I r h
  obtain ⟨z, rfl, hz, q⟩ := h
  cases r with
  | cons r1 rr =>
    cases rr
    obtain ⟨t, rfl⟩ := r1
    refine call_list_str (I.ok.hd hc) z t (hn := hz) fun h' tk acc c kp hS hacc => ?_
    refine ⟨.ref s.heap.objs.size, _, I.laid (t' := tk) kp (Nat.le_refl _) (show ObjOk X.prog X.w _ h' _ (.lst (signs z)) from ⟨?_, acc.toList, c, ?_, by simpa using hS⟩), rfl, q _ (I.hok.fresh (Nat.le_refl _))⟩
    · have : (signs z).length = z.length := by simp [signs, Str.length]
      rw [this]; exact hz
    · have hn : acc.toList.length = z.cps.toList.length := by simpa using hacc.1
      have hv : ∀ (l : List Nat) (us : List Value), us.length = l.length → (∀ (j : Nat) (u : Value), us[j]? = some u → ∃ c, l[j]? = some c ∧ ∃ t, u = .str ⟨#[c]⟩ t) → Vals (l.map fun c => V.str ⟨#[c]⟩) us := by
        intro l
        induction l with
        | nil => intro us e _; cases us with | nil => exact .nil | cons a b => simp at e
        | cons a l ih =>
          intro us e hu
          cases us with
          | nil => simp at e
          | cons u us =>
            obtain ⟨c, hc, t, rfl⟩ := hu 0 u rfl
            have ec : a = c := Option.some.inj hc
            subst ec
            exact .cons ⟨t, rfl⟩ (ih us (by simpa using e) fun j u h => hu (j + 1) u (by simpa using h))
      refine hv _ _ hn fun j u hu => ?_
      obtain ⟨c, t', hc, rfl⟩ := hacc.2 j u (by simpa using hu)
      exact ⟨c, by simpa using hc, t', rfl⟩
def rListU (K : PySem.W.Frag) : List V → Hp → VK → Prop := fun xs H Q => (∃ p ys, xs = [.ref p] ∧ (SqL K H p ys ∨ SqT K H p ys) ∧ ∀ l, H l = none → Q (.ref l) (upd H l (.lst ys))) ∨ rListStr xs H Q
theorem u_list (hc : X.calm = true) : CallR X (.type "list") (rListU X.K) := call_list_of.or (call_listStr hc)
/-! tuple(x): a list, a tuple -/
def rTupleU (K : PySem.W.Frag) : List V → Hp → VK → Prop := fun xs H Q => ∃ p ys, xs = [.ref p] ∧ ((SqL K H p ys ∧ ∀ l, H l = none → Q (.ref l) (upd H l (.tup ys))) ∨ (SqT K H p ys ∧ Q (.ref p) H))
theorem u_tuple (hc : X.calm = true) : CallR X (.type "tuple") (rTupleU X.K) := call_tuple_of
/-! methods -/
def rJoin (K : PySem.W.Frag) : V → List V → Hp → VK → Prop := fun x xs H Q => ∃ a p, ∃ ys : List Str, x = .str a ∧ xs = [.ref p] ∧ (SqL K H p (ys.map V.str) ∨ SqT K H p (ys.map V.str)) ∧
    (ys.map (·.length)).sum + ys.length * a.length ≤ 16777216 ∧ Q (.str (Txt.join a ys)) H
def rStartsw : V → List V → Hp → VK → Prop := fun x xs H Q => ∃ a b, x = .str a ∧ xs = [.str b] ∧ Q (.bl (Txt.startswith a b)) H
def rUpper : V → List V → Hp → VK → Prop := fun x xs H Q => ∃ a, x = .str a ∧ xs = [] ∧ a.length ≤ 5592405 ∧ Q (.str (Txt.upper a)) H
def rCount : V → List V → Hp → VK → Prop := fun x xs H Q => ∃ a b, x = .str a ∧ xs = [.str b] ∧ Q (.int (Txt.count a b)) H
def rStripC : V → List V → Hp → VK → Prop := fun x xs H Q => ∃ a b, x = .str a ∧ xs = [.str b] ∧ a.length ≤ sizeLine ∧ Q (.str (Txt.stripChars a b)) H
def rStripU : V → List V → Hp → VK → Prop := rStripC
theorem u_strip : MtR X "str.strip" rStripU := mt_stripChars
def rRstripU : V → List V → Hp → VK → Prop := fun x xs H Q => ∃ a b, x = .str a ∧ xs = [.str b] ∧ a.length ≤ sizeLine ∧ Q (.str (Txt.rstripChars a b)) H
theorem u_rstrip : MtR X "str.rstrip" rRstripU := mt_rstripChars
/-! in place -/
def ipAddU (K : PySem.W.Frag) : TIp := fun x y H Q => (rI0 fun i j => .int (i + j)) x y H Q ∨ rAddS x y H Q
theorem u_ipadd : PIp X .Add (ipAddU X.K) := OpR.or (f := inplaceOp .Add) (r' := rAddS) iop_add iop_add_str
def ipSubU : TIp := rI0 fun i j => .int (i - j)
theorem u_ipsub : PIp X .Sub ipSubU := iop_sub
def ipMulU (K : PySem.W.Frag) : TIp := rI CMul fun i j => .int (i * j)
theorem u_ipmul : PIp X .Mult (ipMulU X.K) := iop_mul
def ipFdivU : TIp := rI CDivW fun i j => .int (i / j)
theorem u_ipfdiv : PIp X .FloorDiv ipFdivU := iop_fdivW
def ipShlU : TIp := rI CShl fun i j => .int (i * 2 ^ j.toNat)
theorem u_ipshl : PIp X .LShift ipShlU := iop_shlW
def ipShrU : TIp := rI (fun _ j => 0 ≤ j) fun i j => .int (i / 2 ^ j.toNat)
theorem u_ipshr : PIp X .RShift ipShrU := iop_shr
def ipOrU : TIp := rI0 fun i j => .int (Builtin.bitOr i j)
theorem u_ipor : PIp X .BitOr ipOrU := iop_or
def ipAndU : TIp := rI0 fun i j => .int (Builtin.bitAnd i j)
theorem u_ipand : PIp X .BitAnd ipAndU := iop_and
def rNegU : V → Hp → VK → Prop := rU fun i => .int (-i)
def rInvU : V → Hp → VK → Prop := rU fun i => .int (Builtin.bitNot i)
/-! truth of a value -/
def tTrth (K : PySem.W.Frag) (ta : TE) : TT := fun σ H Q => ta σ H fun x H' => ∃ k, TruV K x H' k ∧ Q k H'
theorem pt_tru {a : Expr} {ta : TE} (ha : PE X a ta) (he : ∀ whole, isTrue a X.env whole = (do let v ← whole; standAt a.pos; holding [v] (truthy v)) := by intro _; rfl) : PT X a (tTrth X.K ta) := pt_truth ha he
/-! what is walked -/
def iSeq (K : PySem.W.Frag) (te : TE) : TI := fun σ H R => te σ H fun x H1 => rSeqIt K x H1 R
def iEnumZipS (K : PySem.W.Frag) (ta tk : TA) : TI := fun σ H R => ta σ H fun vs H1 => tk σ H1 fun zs H2 => ∃ (k1 k2 : Sk) (xs ys : List V), vs = [k1.v, k2.v] ∧ zs = [.bl true] ∧ k1.has K H2 xs ∧ k2.has K H2 ys ∧ xs.length = ys.length ∧ R (ItEZ K k1 k2 xs ys) H2
end calls

/-! ### what is known of the heap: G stays, L may change -/
structure Now (G : Hp) (L : List (Addr × HO)) (H : Hp) : Prop where
  ex : ∀ a o, G a = some o → H a = some o
  mu : ∀ p ∈ L, H p.1 = some p.2
  ap : ∀ p ∈ L, G p.1 = none
  nd : (L.map (·.1)).Nodup
def Ex (G G' : Hp) : Prop := ∀ a o, G a = some o → G' a = some o
theorem Ex.refl (G : Hp) : Ex G G := fun _ _ h => h
theorem Ex.trans {G G1 G2 : Hp} (a : Ex G G1) (b : Ex G1 G2) : Ex G G2 := fun x o h => b x o (a x o h)
theorem Ex.new {G : Hp} {p : Addr} {o : HO} (h : G p = none) : Ex G (upd G p o) := fun a u e => by rw [upd_ne (ne_of_none e h)]; exact e
section now
variable {G H : Hp} {L : List (Addr × HO)} {p a b : Addr} {o o' u : HO} {q : Addr × HO}
theorem Now.fr (n : Now G L H) (h : H p = none) : G p = none := by
  cases e : G p with
  | none => rfl
  | some x => rw [n.ex p x e] at h; cases h
theorem Now.frL (n : Now G L H) (h : H p = none) : p ∉ L.map (·.1) := fun hm => by
  obtain ⟨x, hx, rfl⟩ := List.mem_map.mp hm
  rw [n.mu x hx] at h; cases h
theorem Now.new (n : Now G L H) (h : H p = none) : Now G L (upd H p o) where
  ex := fun a u e => by rw [upd_ne (ne_of_none (n.ex a u e) h)]; exact n.ex a u e
  mu := fun x hx => by rw [upd_ne (ne_of_none (n.mu x hx) h)]; exact n.mu x hx
  ap := n.ap
  nd := n.nd
theorem Now.newG (n : Now G L H) (h : H p = none) : Now (upd G p o) L (upd H p o) where
  ex := fun a u e => by
    by_cases ha : a = p
    · subst ha; rw [upd_same] at e ⊢; exact e
    · rw [upd_ne ha] at e ⊢; exact n.ex a u e
  mu := fun x hx => by rw [upd_ne (ne_of_none (n.mu x hx) h)]; exact n.mu x hx
  ap := fun x hx => by rw [upd_ne (ne_of_none (n.mu x hx) h)]; exact n.ap x hx
  nd := n.nd
theorem Now.newL (n : Now G L H) (h : H p = none) : Now G ((p, o) :: L) (upd H p o) where
  ex := (n.new h).ex
  mu := fun x hx => by
    rcases List.mem_cons.mp hx with e | hx
    · rw [e]; exact upd_same
    · exact (n.new h).mu x hx
  ap := fun x hx => by
    rcases List.mem_cons.mp hx with e | hx
    · rw [e]; exact n.fr h
    · exact n.ap x hx
  nd := by
    show (p :: L.map (·.1)).Nodup
    exact List.nodup_cons.mpr ⟨n.frL h, n.nd⟩
theorem Now.get0 (n : Now G ((a, o) :: L) H) : H a = some o := n.mu (a, o) (List.mem_cons_self ..)
theorem Now.get1 (n : Now G (q :: (a, o) :: L) H) : H a = some o := n.mu (a, o) (List.mem_cons_of_mem _ (List.mem_cons_self ..))
theorem Now.get2 {q' : Addr × HO} (n : Now G (q :: q' :: (a, o) :: L) H) : H a = some o := n.mu (a, o) (List.mem_cons_of_mem _ (List.mem_cons_of_mem _ (List.mem_cons_self ..)))
theorem Now.perm {L' : List (Addr × HO)} (n : Now G L H) (h : L.Perm L') : Now G L' H where
  ex := n.ex
  mu := fun x hx => n.mu x (h.mem_iff.mpr hx)
  ap := fun x hx => n.ap x (h.mem_iff.mpr hx)
  nd := (h.map _).nodup_iff.mp n.nd
theorem Now.swap {q' : Addr × HO} (n : Now G (q :: q' :: L) H) : Now G (q' :: q :: L) H := n.perm (List.Perm.swap _ _ _)
theorem Now.drop (n : Now G (q :: L) H) : Now G L H where
  ex := n.ex
  mu := fun x hx => n.mu x (List.mem_cons_of_mem _ hx)
  ap := fun x hx => n.ap x (List.mem_cons_of_mem _ hx)
  nd := (List.nodup_cons.mp n.nd).2
theorem Now.set0 (n : Now G ((a, o) :: L) H) : Now G ((a, o') :: L) (upd H a o') where
  ex := fun b u e => by
    have : b ≠ a := fun z => by subst z; rw [n.ap (b, o) (List.mem_cons_self ..)] at e; cases e
    rw [upd_ne this]; exact n.ex b u e
  mu := fun x hx => by
    rcases List.mem_cons.mp hx with e | hx
    · rw [e]; exact upd_same
    · have : x.1 ≠ a := fun z => (List.nodup_cons.mp n.nd).1 (z ▸ List.mem_map.mpr ⟨x, hx, rfl⟩)
      rw [upd_ne this]; exact n.mu x (List.mem_cons_of_mem _ hx)
  ap := fun x hx => by
    rcases List.mem_cons.mp hx with e | hx
    · rw [e]; exact n.ap (a, o) (List.mem_cons_self ..)
    · exact n.ap x (List.mem_cons_of_mem _ hx)
  nd := n.nd
theorem Now.set1 (n : Now G (q :: (a, o) :: L) H) : Now G (q :: (a, o') :: L) (upd H a o') := (n.swap.set0).swap
theorem Now.freeze (n : Now G ((a, o) :: L) H) : Now (upd G a o) L H where
  ex := fun b u e => by
    by_cases hb : b = a
    · subst hb; rw [upd_same] at e; rw [n.get0]; exact e
    · rw [upd_ne hb] at e; exact n.ex b u e
  mu := n.drop.mu
  ap := fun x hx => by
    have : x.1 ≠ a := fun z => (List.nodup_cons.mp n.nd).1 (z ▸ List.mem_map.mpr ⟨x, hx, rfl⟩)
    rw [upd_ne this]; exact n.drop.ap x hx
  nd := n.drop.nd
theorem Now.exf (n : Now G ((a, o) :: L) H) : Ex G (upd G a o) := Ex.new (n.ap _ (List.mem_cons_self ..))
theorem Now.exn (n : Now G L H) (h : H p = none) : Ex G (upd G p o) := Ex.new (n.fr h)
end now
end MA
/-! MC: readings, step by step. -/
namespace MA
open PySem PySem.Spec PyProof.Rows L2
def partK (QO : Option Int → Hp → Prop) (x : V) (H : Hp) : Prop := ∃ i, x = .int i ∧ QO (some i) H
def lstK (Q : VK) (xs : List V) (H : Hp) : Prop := xs.length ≤ sizeLine ∧ ∀ p, H p = none → Q (.ref p) (upd H p (.lst xs))
def tupK (Q : VK) (xs : List V) (H : Hp) : Prop := xs.length ≤ sizeLine ∧ ∀ p, H p = none → Q (.ref p) (upd H p (.tup xs))
section w
variable {K : PySem.W.Frag} {σ : L2.St} {G H : Hp} {L : List (Addr × HO)} {Q : VK} {QA : List V → Hp → Prop} {QB : Bool → Hp → Prop} {QO : Option Int → Hp → Prop} {v x y z : V} {i : Nat} {ta tb tc te tr' : TE} {t1 t2 : TT} {tt : TA} {D : Ends} {ts tu : TS} {g : TG} {r r2 : R2} {a p : Addr} {xs ys : List V}
theorem w_var (h : σ[i]? = some (some v)) (q : Q v H) : tVar i σ H Q := ⟨v, h, q⟩
theorem w_c (q : Q v H) : tC v σ H Q := q
theorem w_op (h : ta σ H fun x H1 => tb σ H1 fun y H2 => r x y H2 Q) : tOp r ta tb σ H Q := h
theorem w_un {r : V → Hp → VK → Prop} (h : ta σ H fun x H1 => r x H1 Q) : tUn r ta σ H Q := h
theorem w_nil (q : QA [] H) : tNil σ H QA := q
theorem w_cons (h : ta σ H fun x H1 => tt σ H1 fun xs H2 => QA (x :: xs) H2) : tCons ta tt σ H QA := h
theorem w_cb {r : List V → Hp → VK → Prop} (h : tt σ H fun vs H1 => r vs H1 Q) : tCB r tt σ H Q := h
theorem w_call {sp : Sp} {dvs : List V} {E : XK} (h : tt σ H fun vs H1 => sp (vs ++ dvs) H1 Q E) : tCall sp dvs E tt σ H Q := h
theorem w_bm {T : String} {r : V → List V → Hp → VK → Prop} (h : ta σ H fun x H1 => tyV K T x H1 ∧ tt σ H1 fun xs H2 => r x xs H2 Q) : tBM K T r ta tt σ H Q := h
theorem w_bm0 {T : String} {r : V → List V → Hp → VK → Prop} (h : ta σ H fun x H1 => tyV K T x H1 ∧ r x [] H1 Q) : tBM0 K T r ta σ H Q := h
theorem w_if (h : t1 σ H fun c H1 => if c = true then ta σ H1 Q else tb σ H1 Q) : tIf t1 ta tb σ H Q := h
theorem w_test (h : te σ H fun x H' => ∃ k, x = .bl k ∧ QB k H') : tTest te σ H QB := h
theorem w_trth (h : te σ H fun x H' => ∃ k, TruV K x H' k ∧ QB k H') : tTrth K te σ H QB := h
theorem w_not (h : t1 σ H fun c H1 => QB (!c) H1) : tNot t1 σ H QB := h
theorem w_and (h : t1 σ H fun c H1 => if c = true then t2 σ H1 QB else QB false H1) : tAnd t1 t2 σ H QB := h
theorem w_or (h : t1 σ H fun c H1 => if c = true then QB true H1 else t2 σ H1 QB) : tOr t1 t2 σ H QB := h
theorem w_andT (h : ta σ H fun x H1 => ∃ k, TruV K x H1 k ∧ if k = true then tb σ H1 Q else Q x H1) : tAndT K ta tb σ H Q := h
theorem w_orT (h : ta σ H fun x H1 => ∃ k, TruV K x H1 k ∧ if k = true then Q x H1 else tb σ H1 Q) : tOrT K ta tb σ H Q := h
theorem w_notT (h : ta σ H fun x H1 => ∃ k, TruV K x H1 k ∧ Q (.bl (!k)) H1) : tNotT K ta σ H Q := h
theorem w_chain (h : ta σ H fun x H1 => tb σ H1 fun y H2 => r x y H2 fun z H3 => ∃ k, z = .bl k ∧ (if k = true then tc σ H3 fun w' H4 => r2 y w' H4 Q else Q (.bl false) H3)) : tChain r r2 ta tb tc σ H Q := h
theorem w_sl {r : V → Option Int → Option Int → Hp → VK → Prop} {tl th : TO} (h : te σ H fun x H1 => tl σ H1 fun l H2 => th σ H2 fun u H3 => r x l u H3 Q) : tSl r te tl th σ H Q := h
theorem w_nopart (q : QO none H) : tNoPart σ H QO := q
theorem w_part (h : te σ H (partK QO)) : tPart te σ H QO := h
theorem w_part1 {j : Int} (q : QO (some j) H) : partK QO (.int j) H := ⟨j, rfl, q⟩
theorem w_lst (h : tt σ H (lstK Q)) : tLst tt σ H Q := h
theorem w_tup (h : tt σ H (tupK Q)) : tTup tt σ H Q := h
theorem w_yes (q : QB true H) : tYes σ H QB := q
/-- statements -/
theorem w_seq (h : ts { D with nx := tu D } σ H) : tSeq ts tu D σ H := h
theorem w_next (q : D.nx σ H) : tNext D σ H := q
theorem w_asg (h : te σ H fun x H1 => g x σ H1 D.nx) : tAsg te g D σ H := h
theorem w_par {i j : Nat} (h : tt σ H fun vs H1 => ∃ v w, vs = [v, w] ∧ D.nx ((σ.set i (some v)).set j (some w)) H1) : tPar i j tt D σ H := h
theorem w_par3 {i j l : Nat} (h : tt σ H fun vs H1 => ∃ u v w, vs = [u, v, w] ∧ D.nx (((σ.set i (some u)).set j (some v)).set l (some w)) H1) : tPar3 i j l tt D σ H := h
theorem w_ret (h : te σ H D.rt) : tRet te D σ H := h
theorem w_drop (h : te σ H fun _ H1 => D.nx σ H1) : tDrop te D σ H := h
theorem w_ifs (h : t1 σ H fun b H1 => if b = true then ts D σ H1 else tu D σ H1) : tIfS t1 ts tu D σ H := h
theorem w_aug {ti : TIp} (hx : σ[i]? = some (some x)) (h : te σ H fun y H1 => ti x y H1 fun z H2 => D.nx (σ.set i (some z)) H2) : tAug i te ti D σ H := ⟨x, hx, h⟩
/-- targets -/
theorem w_gname {QS : L2.St → Hp → Prop} (q : QS (σ.set i (some v)) H) : gName i v σ H QS := q
theorem w_gsub {QS : L2.St → Hp → Prop} {ts : TSet} (h : ta σ H fun o H1 => tb σ H1 fun i H2 => ts o i v H2 fun H3 => QS σ H3) : gSub ta tb ts v σ H QS := h
theorem w_gtup {QS : L2.St → Hp → Prop} {n : Nat} {t : TGs} (h : SqT K H a xs) (hn : xs.length = n) (q : t xs σ H QS) : gTup K n t (.ref a) σ H QS := ⟨a, xs, rfl, h, hn, q⟩
theorem w_gnil {QS : L2.St → Hp → Prop} (q : QS σ H) : gNil [] σ H QS := ⟨rfl, q⟩
theorem w_gcons {QS : L2.St → Hp → Prop} {t : TG} {u : TGs} {r : List V} (q : t v σ H fun σ' H' => u r σ' H' QS) : gCons t u (v :: r) σ H QS := ⟨v, r, rfl, q⟩
/-- tests on truths -/
theorem w_bl {b : Bool} {QB : Bool → Prop} (q : QB b) : ∃ k, V.bl b = .bl k ∧ QB k := ⟨b, rfl, q⟩
theorem w_tbl {b : Bool} {QB : Bool → Prop} (q : QB b) : ∃ k, TruV K (.bl b) H k ∧ QB k := ⟨b, rfl, q⟩
theorem w_ite {b : Bool} {A B : Prop} (h1 : b = true → A) (h2 : b = false → B) : if b = true then A else B := by
  cases b with
  | true => exact h1 rfl
  | false => exact h2 rfl
theorem w_iteT {b : Bool} {A B : Prop} (h : b = true) (q : A) : if b = true then A else B := by rw [if_pos h]; exact q
theorem w_iteF {b : Bool} {A B : Prop} (h : b = false) (q : B) : if b = true then A else B := by rw [h]; exact q
/-- new objects -/
theorem w_lstL (n : Now G L H) (hz : xs.length ≤ 100000) (q : ∀ p H', Now G ((p, .lst xs) :: L) H' → H p = none → Q (.ref p) H') : lstK Q xs H :=
  ⟨Nat.le_trans hz (by decide), fun p hp => q p _ (n.newL hp) hp⟩
/-- operations by the kinds of their operands -/
theorem w_addI {i j : Int} (q : Q (.int (i + j)) H) : rAddU K (.int i) (.int j) H Q := .inl ⟨i, j, rfl, rfl, q⟩
theorem w_addS {i j : Str} (h : i.length + j.length ≤ sizeLine) (q : Q (.str (i ++ j)) H) : rAddU K (.str i) (.str j) H Q := .inr (.inl ⟨i, j, rfl, rfl, h, q⟩)
theorem w_subI {i j : Int} (q : Q (.int (i - j)) H) : rSubU (.int i) (.int j) H Q := .inl ⟨i, j, rfl, rfl, q⟩
theorem w_mulI {i j : Int} (h : (-(2 ^ 64) < i ∧ i < 2 ^ 64) ∨ (-(2 ^ 64) < j ∧ j < 2 ^ 64)) (q : Q (.int (i * j)) H) : rMulU K (.int i) (.int j) H Q := .inl ⟨i, j, rfl, rfl, h, q⟩
theorem log_small {j : Int} (h0 : 0 < j) (h : j < 1267650600228229401496703205376) : j.natAbs.log2 < 9000 := by
  have e : (j.natAbs : Int) = j := by omega
  have h1 : j.natAbs < 2 ^ 100 := by omega
  have h2 : j.natAbs ≠ 0 := by omega
  have := (Nat.log2_lt h2).mpr h1
  omega
theorem w_fdivI {i j : Int} (h0 : 0 < j) (h1 : j < 1267650600228229401496703205376) (q : Q (.int (i / j)) H) : rFdivU (.int i) (.int j) H Q := ⟨i, j, rfl, rfl, ⟨h0, log_small h0 h1⟩, q⟩
theorem w_modI {i j : Int} (h0 : 0 < j) (q : Q (.int (i % j)) H) : rModU (.int i) (.int j) H Q := ⟨i, j, rfl, rfl, h0, q⟩
theorem w_powI {i j : Int} (h : 0 ≤ j ∧ j ≤ 1000000 ∧ i.natAbs < 2 ^ 64) (q : Q (.int (i ^ j.toNat)) H) : rPowU (.int i) (.int j) H Q := ⟨i, j, rfl, rfl, h, q⟩
theorem bits1 : Builtin.Int.intBits 1 = 1 := by decide
theorem w_shl1 {j : Int} (h0 : 0 ≤ j) (h1 : j ≤ 1000000) (q : Q (.int (2 ^ j.toNat)) H) : rShlU (.int 1) (.int j) H Q := by
  refine ⟨1, j, rfl, rfl, ⟨h0, ?_⟩, by show Q (.int (1 * 2 ^ j.toNat)) H; rw [Int.one_mul]; exact q⟩
  rw [bits1]
  omega
theorem w_shrI {i j : Int} (h0 : 0 ≤ j) (q : Q (.int (i / 2 ^ j.toNat)) H) : rShrU (.int i) (.int j) H Q := ⟨i, j, rfl, rfl, h0, q⟩
theorem w_gtI {i j : Int} (q : Q (.bl (decide (j < i))) H) : rGtU (.int i) (.int j) H Q := ⟨i, j, rfl, rfl, q⟩
theorem w_geI {i j : Int} (q : Q (.bl (decide (j ≤ i))) H) : rGeU (.int i) (.int j) H Q := ⟨i, j, rfl, rfl, q⟩
theorem w_ltI {i j : Int} (q : Q (.bl (decide (i < j))) H) : rLtU K (.int i) (.int j) H Q := .inl ⟨i, j, rfl, rfl, q⟩
theorem w_leI {i j : Int} (q : Q (.bl (decide (i ≤ j))) H) : rLeU (.int i) (.int j) H Q := .inl ⟨i, j, rfl, rfl, q⟩
theorem w_eqI {i j : Int} (q : Q (.bl (decide (i = j))) H) : rEqU K (.int i) (.int j) H Q := .inl ⟨rfl, by rw [show decide (V.int i = V.int j) = decide (i = j) by simp]; exact q⟩
theorem w_neI {i j : Int} (q : Q (.bl (!decide (i = j))) H) : rNeU K (.int i) (.int j) H Q := .inl ⟨rfl, by rw [show decide (V.int i = V.int j) = decide (i = j) by simp]; exact q⟩
theorem w_eqS {i j : Str} (q : Q (.bl (decide (i = j))) H) : rEqU K (.str i) (.str j) H Q := .inl ⟨rfl, by rw [show decide (V.str i = V.str j) = decide (i = j) by simp]; exact q⟩
theorem w_neS {i j : Str} (q : Q (.bl (!decide (i = j))) H) : rNeU K (.str i) (.str j) H Q := .inl ⟨rfl, by rw [show decide (V.str i = V.str j) = decide (i = j) by simp]; exact q⟩
theorem w_eqB {i j : Bool} (q : Q (.bl (decide (i = j))) H) : rEqU K (.bl i) (.bl j) H Q := .inl ⟨rfl, by rw [show decide (V.bl i = V.bl j) = decide (i = j) by simp]; exact q⟩
theorem w_neB {i j : Bool} (q : Q (.bl (!decide (i = j))) H) : rNeU K (.bl i) (.bl j) H Q := .inl ⟨rfl, by rw [show decide (V.bl i = V.bl j) = decide (i = j) by simp]; exact q⟩
theorem w_eqV (h : scal x y = true) (q : Q (.bl (decide (x = y))) H) : rEqU K x y H Q := .inl ⟨h, q⟩
theorem w_neV (h : scal x y = true) (q : Q (.bl (!decide (x = y))) H) : rNeU K x y H Q := .inl ⟨h, q⟩
theorem w_isN (q : Q (.bl (decide (x = .non))) H) : rIsU x .non H Q := .inl ⟨rfl, q⟩
theorem w_isntN (q : Q (.bl (!decide (x = .non))) H) : rIsntU x .non H Q := .inl ⟨rfl, q⟩
theorem w_ixL {j : Int} (h : SqL K H a xs) (ha : atI xs j = some v) (q : Q v H) : rIx K (.ref a) (.int j) H Q := .inl ⟨a, xs, j, v, rfl, rfl, h, ha, q⟩
theorem w_ixT {j : Int} (h : SqT K H a xs) (ha : atI xs j = some v) (q : Q v H) : rIx K (.ref a) (.int j) H Q := .inr (.inl ⟨a, xs, j, v, rfl, rfl, h, ha, q⟩)
theorem w_ixS {j : Int} {z : Str} {c : Nat} (h : z.length ≤ sizeLine) (ha : atI z.cps.toList j = some c) (q : Q (.str ⟨#[c]⟩) H) : rIx K (.str z) (.int j) H Q := .inr (.inr ⟨z, j, c, rfl, rfl, h, ha, q⟩)
theorem w_abs {j : Int} (q : Q (.int (if j < 0 then -j else j)) H) : rAbs [.int j] H Q := ⟨j, rfl, q⟩
theorem w_intI {j : Int} (q : Q (.int j) H) : rIntU [.int j] H Q := .inl (.inl ⟨j, rfl, q⟩)
theorem w_intB {k : Bool} (q : Q (.int (if k then 1 else 0)) H) : rIntU [.bl k] H Q := .inl (.inr ⟨k, rfl, q⟩)
theorem w_intS {s : Str} {j : Int} (h : PySem.intText? s = some j) (hl : s.length ≤ 640) (q : Q (.int j) H) : rIntU [.str s] H Q := .inr ⟨s, j, rfl, h, hl, q⟩
theorem w_min2 {i j : Int} (q : Q (.int (if j < i then j else i)) H) : rMinU K [.int i, .int j] H Q := .inl ⟨i, j, rfl, q⟩
theorem w_max2 {i j : Int} (q : Q (.int (if j > i then j else i)) H) : rMaxU K [.int i, .int j] H Q := .inl ⟨i, j, rfl, q⟩
theorem w_lenL (h : SqL K H a xs) (q : Q (.int (xs.length : Nat)) H) : rLenU K [.ref a] H Q := ⟨_, _, rfl, .inl ⟨xs, h, rfl⟩, q⟩
theorem w_lenT (h : SqT K H a xs) (q : Q (.int (xs.length : Nat)) H) : rLenU K [.ref a] H Q := ⟨_, _, rfl, .inr ⟨xs, h, rfl⟩, q⟩
theorem w_lenS {z : Str} (h : z.length ≤ sizeLine) (q : Q (.int (z.length : Nat)) H) : rLenU K [.str z] H Q := ⟨_, _, rfl, ⟨h, rfl⟩, q⟩
theorem w_setL0 {j : Int} {k : Nat} (n : Now G ((a, .lst xs) :: L) H) (hj : ixN xs.length j = some k) {QH : Hp → Prop} (q : ∀ H', Now G ((a, .lst (xs.set k v)) :: L) H' → QH H') : rSetL (.ref a) (.int j) v H QH :=
  ⟨a, xs, j, k, rfl, rfl, n.get0, hj, q _ n.set0⟩
theorem w_setL1 {j : Int} {k : Nat} {e : Addr × HO} (n : Now G (e :: (a, .lst xs) :: L) H) (hj : ixN xs.length j = some k) {QH : Hp → Prop} (q : ∀ H', Now G (e :: (a, .lst (xs.set k v)) :: L) H' → QH H') : rSetL (.ref a) (.int j) v H QH :=
  ⟨a, xs, j, k, rfl, rfl, n.get1, hj, q _ n.set1⟩
theorem w_divmod {i j : Int} (n : Now G L H) (h0 : 0 < j) (h1 : j < 2 ^ 30) (q : ∀ p H', Now G L H' → H' p = some (.tup [.int (i / j), .int (i % j)]) → Q (.ref p) H') : rDivmod [.int i, .int j] H Q :=
  ⟨i, j, rfl, ⟨h0, PyProof.noPylong_small (by omega)⟩, fun p hp => q p _ (n.new hp) upd_same⟩
theorem sqT (h : H a = some (.tup xs)) : SqT K H a xs := .inl (.inl h)
theorem sqL (h : H a = some (.lst xs)) : SqL K H a xs := .inl (.inl h)
end w

/-! ### loops -/
theorem for_g {G : Hp → Prop} {n : Nat} {Y : Nat → Hp → V → Hp → Prop} {g : TG} {tb : TS} {D : Ends} {σ : L2.St} {H : Hp} (Pv : Nat → L2.St → Hp → Prop) (h0 : Pv 0 σ H) (hG : ∀ i σ H, Pv i σ H → G H)
    (hs : ∀ i x σ H H', i < n → Pv i σ H → Y i H x H' → g x σ H' fun σ2 H2 => tb { D with nx := Pv (i + 1), ct := Pv (i + 1), bk := D.nx } σ2 H2) (hd : ∀ σ H, Pv n σ H → D.nx σ H) :
    ∃ W : Nat → Nat → L2.St → Hp → Prop, (∃ m, W 0 m σ H) ∧ ∀ i m σ H, W i m σ H →
      ((Itg G n Y).stop i H ∧ D.nx σ H) ∨ ((Itg G n Y).go i H ∧ ∃ N : L2.St → Hp → Prop, (∀ σ' H', N σ' H' → ∃ m', m' < m ∧ W (i + 1) m' σ' H') ∧ ∀ x H', (Itg G n Y).yld i H x H' → g x σ H' fun σ2 H2 => tb { D with nx := N, ct := N, bk := D.nx } σ2 H2) := by
  refine ⟨fun i m σ H => m = n - i ∧ i ≤ n ∧ Pv i σ H, ⟨n, by simp, Nat.zero_le _, h0⟩, ?_⟩
  rintro i m σ H ⟨rfl, hi, p⟩
  by_cases hlt : i < n
  · exact .inr ⟨⟨hG i σ H p, hlt⟩, Pv (i + 1), fun σ' H' p' => ⟨n - (i + 1), by omega, rfl, hlt, p'⟩, fun x H' y => hs i x σ H H' hlt p y⟩
  · have e : i = n := by omega
    subst e
    exact .inl ⟨⟨hG i σ H p, Nat.le_refl _⟩, hd σ H p⟩
/-- a comprehension over n turns: Pv says what list stands at D -/
theorem lc_g {G : Hp → Prop} {n : Nat} {Y : Nat → Hp → V → Hp → Prop} {g : TG} {tt : TT} {te : TE} {vs : List Nat} {σ : L2.St} {D : Addr} {H0 : Hp} {Q : VK} (Pv : Nat → Hp → Prop) (h0 : Pv 0 (upd H0 D (.lst []))) (hG : ∀ i H, Pv i H → G H)
    (hs : ∀ i x H H', i < n → Pv i H → Y i H x H' → g x (wipe σ vs) H' fun σ2 H2 => wipe σ2 vs = wipe σ vs ∧ tt σ2 H2 fun b H3 => if b = true then te σ2 H3 fun y H4 => ∃ acc, H4 D = some (.lst acc) ∧ acc.length < sizeLine ∧ Pv (i + 1) (upd H4 D (.lst (acc ++ [y]))) else Pv (i + 1) H3)
    (hd : ∀ H, Pv n H → Q (.ref D) H) :
    ∃ W : Nat → Nat → Hp → Prop, (∃ m, W 0 m (upd H0 D (.lst []))) ∧ ∀ i m H, W i m H →
      ((Itg G n Y).stop i H ∧ Q (.ref D) H) ∨ ((Itg G n Y).go i H ∧ ∃ Nx : Hp → Prop, (∀ H', Nx H' → ∃ m', m' < m ∧ W (i + 1) m' H') ∧ ∀ x H', (Itg G n Y).yld i H x H' → g x (wipe σ vs) H' fun σ2 H2 => wipe σ2 vs = wipe σ vs ∧ tt σ2 H2 fun b H3 =>
        if b = true then te σ2 H3 fun y H4 => ∃ acc, H4 D = some (.lst acc) ∧ acc.length < sizeLine ∧ Nx (upd H4 D (.lst (acc ++ [y]))) else Nx H3) := by
  refine ⟨fun i m H => m = n - i ∧ i ≤ n ∧ Pv i H, ⟨n, by simp, Nat.zero_le _, h0⟩, ?_⟩
  rintro i m H ⟨rfl, hi, p⟩
  by_cases hlt : i < n
  · exact .inr ⟨⟨hG i H p, hlt⟩, Pv (i + 1), fun H' p' => ⟨n - (i + 1), by omega, rfl, hlt, p'⟩, fun x H' y => hs i x H H' hlt p y⟩
  · have e : i = n := by omega
    subst e
    exact .inl ⟨⟨hG i H p, Nat.le_refl _⟩, hd H p⟩
/-- range, as n turns -/
theorem Itr_g (lo : Int) (n : Nat) : Itr lo n = Itg (fun _ => True) n (fun i H x H' => H' = H ∧ x = .int (lo + i)) := by
  unfold Itr Itg
  congr 1
  · funext i H; simp
  · funext i H; simp

/-! ### comprehensions over the ledger -/
theorem Now.weak {G G' H : Hp} {L : List (Addr × HO)} (e : Ex G G') (n : Now G' L H) : Now G L H where
  ex := fun a o h => n.ex a o (e a o h)
  mu := n.mu
  ap := fun p hp => by
    cases h : G p.1 with
    | none => rfl
    | some u => rw [← e _ _ h]; exact n.ap p hp
  nd := n.nd
def lcK (J : It) (g : TG) (tt : TT) (te : TE) (vs : List Nat) (σ : L2.St) (Q : VK) (H : Hp) : Prop := ∀ D, H D = none → ∃ W : Nat → Nat → Hp → Prop, (∃ m, W 0 m (upd H D (.lst []))) ∧ ∀ i m H, W i m H →
  (J.stop i H ∧ Q (.ref D) H) ∨ (J.go i H ∧ ∃ Nx : Hp → Prop, (∀ H', Nx H' → ∃ m', m' < m ∧ W (i + 1) m' H') ∧ ∀ x H', J.yld i H x H' → g x (wipe σ vs) H' fun σ2 H2 => wipe σ2 vs = wipe σ vs ∧ tt σ2 H2 fun b H3 =>
    if b = true then te σ2 H3 fun y H4 => ∃ acc, H4 D = some (.lst acc) ∧ acc.length < sizeLine ∧ Nx (upd H4 D (.lst (acc ++ [y]))) else Nx H3)
def forK (J : It) (g : TG) (tb : TS) (D : Ends) (σ : L2.St) (H : Hp) : Prop := ∃ W : Nat → Nat → L2.St → Hp → Prop, (∃ m, W 0 m σ H) ∧ ∀ i m σ H, W i m σ H →
  (J.stop i H ∧ D.nx σ H) ∨ (J.go i H ∧ ∃ N : L2.St → Hp → Prop, (∀ σ' H', N σ' H' → ∃ m', m' < m ∧ W (i + 1) m' σ' H') ∧ ∀ x H', J.yld i H x H' → g x σ H' fun σ2 H2 => tb { D with nx := N, ct := N, bk := D.nx } σ2 H2)
theorem for_k {G : Hp → Prop} {n : Nat} {Y : Nat → Hp → V → Hp → Prop} {g : TG} {tb : TS} {D : Ends} {σ : L2.St} {H : Hp} (Pv : Nat → L2.St → Hp → Prop) (h0 : Pv 0 σ H) (hG : ∀ i σ H, Pv i σ H → G H)
    (hs : ∀ i x σ H H', i < n → Pv i σ H → Y i H x H' → g x σ H' fun σ2 H2 => tb { D with nx := Pv (i + 1), ct := Pv (i + 1), bk := D.nx } σ2 H2) (hd : ∀ σ H, Pv n σ H → D.nx σ H) : forK (Itg G n Y) g tb D σ H := for_g Pv h0 hG hs hd
abbrev LP := Nat → List V → Hp → List (Addr × HO) → Prop
def LcP (P : LP) (D : Addr) (i : Nat) (H : Hp) : Prop := ∃ acc G L, P i acc G L ∧ Now G ((D, .lst acc) :: L) H
theorem LcP.add {P : LP} {D : Addr} {i : Nat} {acc : List V} {y : V} {G H : Hp} {L : List (Addr × HO)} (n : Now G ((D, .lst acc) :: L) H) (hl : acc.length < 100000) (p : P (i + 1) (acc ++ [y]) G L) :
    ∃ acc, H D = some (.lst acc) ∧ acc.length < sizeLine ∧ LcP P D (i + 1) (upd H D (.lst (acc ++ [y]))) := ⟨acc, n.get0, Nat.lt_of_lt_of_le hl (by decide), acc ++ [y], G, L, p, n.set0⟩
theorem lc_now {Gp : Hp → Prop} {m : Nat} {Y : Nat → Hp → V → Hp → Prop} {g : TG} {tt : TT} {te : TE} {vs : List Nat} {σ : L2.St} {G H : Hp} {L : List (Addr × HO)} {Q : VK} (n : Now G L H) (P : LP) (p0 : P 0 [] G L)
    (hG : ∀ i acc G L H, P i acc G L → Now G L H → Gp H)
    (hs : ∀ D i x H H' acc G L, i < m → P i acc G L → Now G ((D, .lst acc) :: L) H → Y i H x H' → g x (wipe σ vs) H' fun σ2 H2 => wipe σ2 vs = wipe σ vs ∧ tt σ2 H2 fun b H3 => if b = true then te σ2 H3 fun y H4 => ∃ acc, H4 D = some (.lst acc) ∧ acc.length < sizeLine ∧ LcP P D (i + 1) (upd H4 D (.lst (acc ++ [y]))) else LcP P D (i + 1) H3)
    (hd : ∀ D H acc G L, P m acc G L → Now G ((D, .lst acc) :: L) H → Q (.ref D) H) :
    lcK (Itg Gp m Y) g tt te vs σ Q H := fun D hD =>
  lc_g (LcP P D) ⟨[], G, L, p0, n.newL hD⟩ (fun i H ⟨acc, G, L, p, n⟩ => hG i acc G L H p n.drop) (fun i x H H' hi ⟨acc, G, L, p, n⟩ y => hs D i x H H' acc G L hi p n y) (fun H ⟨acc, G, L, p, n⟩ => hd D H acc G L p n)
section w2
variable {K : PySem.W.Frag} {σ : L2.St} {G H : Hp} {L : List (Addr × HO)} {Q : VK} {v x y : V} {i : Nat} {xs : List V}
theorem w_lc {wi : TI} {g : TG} {tt : TT} {te : TE} {vs : List Nat} (h : wi σ H fun J H1 => lcK J g tt te vs σ Q H1) : tLc wi g tt te vs σ H Q := h
def rngK (R : It → Hp → Prop) (vs : List V) (H : Hp) : Prop := ∃ j : Int, vs = [.int j] ∧ -(2 ^ 62) ≤ j ∧ j < 2 ^ 62 ∧ R (Itr 0 j.toNat) H
theorem w_rng1 {tt : TA} {R : It → Hp → Prop} (h : tt σ H (rngK R)) : iRng1 tt σ H R := h
theorem w_rngI {R : It → Hp → Prop} {j : Int} (h1 : -(2 ^ 62) ≤ j) (h2 : j < 2 ^ 62) (q : R (Itg (fun _ => True) j.toNat (fun i H x H' => H' = H ∧ x = .int (0 + (i : Nat)))) H) : rngK R [.int j] H :=
  ⟨j, rfl, h1, h2, by rw [Itr_g]; exact q⟩
def rngK2 (R : It → Hp → Prop) (vs : List V) (H : Hp) : Prop := ∃ i j : Int, vs = [.int i, .int j] ∧ (-(2 ^ 62) ≤ i ∧ i < 2 ^ 62 ∧ -(2 ^ 62) ≤ j ∧ j < 2 ^ 62) ∧ R (Itr i (j - i).toNat) H
theorem w_rng2 {tt : TA} {R : It → Hp → Prop} (h : tt σ H (rngK2 R)) : iRng2 tt σ H R := h
theorem w_rngI2 {R : It → Hp → Prop} {i j : Int} (h1 : -(2 ^ 62) ≤ i ∧ i < 2 ^ 62 ∧ -(2 ^ 62) ≤ j ∧ j < 2 ^ 62) (q : R (Itg (fun _ => True) (j - i).toNat (fun k H x H' => H' = H ∧ x = .int (i + (k : Nat)))) H) : rngK2 R [.int i, .int j] H :=
  ⟨i, j, rfl, h1, by rw [Itr_g]; exact q⟩
def enumK (K : PySem.W.Frag) (R : It → Hp → Prop) (vs : List V) (H : Hp) : Prop := ∃ (k : Sk) (xs : List V), vs = [k.v] ∧ k.has K H xs ∧ R (ItE K k xs) H
theorem w_enum {tt : TA} {R : It → Hp → Prop} (h : tt σ H (enumK K R)) : iEnumS K tt σ H R := h
theorem w_enumI {R : It → Hp → Prop} (k : Sk) (xs : List V) (h : k.has K H xs) (q : R (ItE K k xs) H) : enumK K R [k.v] H := ⟨k, xs, rfl, h, q⟩
def seqK (K : PySem.W.Frag) (R : It → Hp → Prop) (x : V) (H : Hp) : Prop := rSeqIt K x H R
theorem w_seqIt {te : TE} {R : It → Hp → Prop} (h : te σ H (seqK K R)) : iSeq K te σ H R := h
theorem w_seqI {R : It → Hp → Prop} (k : Sk) (xs : List V) (h : k.has K H xs) (q : R (ItQ K k xs) H) : seqK K R k.v H := ⟨k, xs, rfl, h, q⟩
def zipK (K : PySem.W.Frag) (R : It → Hp → Prop) (vs zs : List V) (H : Hp) : Prop := ∃ (k1 k2 : Sk) (xs ys : List V), vs = [k1.v, k2.v] ∧ zs = [.bl true] ∧ k1.has K H xs ∧ k2.has K H ys ∧ xs.length = ys.length ∧ R (ItZ K k1 k2 xs ys) H
theorem w_zip {ta tk : TA} {R : It → Hp → Prop} (h : ta σ H fun vs H1 => tk σ H1 fun zs H2 => zipK K R vs zs H2) : iZipS K ta tk σ H R := h
theorem w_zipI {R : It → Hp → Prop} (k1 k2 : Sk) (xs ys : List V) (h1 : k1.has K H xs) (h2 : k2.has K H ys) (hl : xs.length = ys.length) (q : R (ItZ K k1 k2 xs ys) H) : zipK K R [k1.v, k2.v] [.bl true] H := ⟨k1, k2, xs, ys, rfl, rfl, h1, h2, hl, q⟩
def ezipK (K : PySem.W.Frag) (R : It → Hp → Prop) (vs zs : List V) (H : Hp) : Prop := ∃ (k1 k2 : Sk) (xs ys : List V), vs = [k1.v, k2.v] ∧ zs = [.bl true] ∧ k1.has K H xs ∧ k2.has K H ys ∧ xs.length = ys.length ∧ R (ItEZ K k1 k2 xs ys) H
theorem w_ezip {ta tk : TA} {R : It → Hp → Prop} (h : ta σ H fun vs H1 => tk σ H1 fun zs H2 => ezipK K R vs zs H2) : iEnumZipS K ta tk σ H R := h
theorem w_ezipI {R : It → Hp → Prop} (k1 k2 : Sk) (xs ys : List V) (h1 : k1.has K H xs) (h2 : k2.has K H ys) (hl : xs.length = ys.length) (q : R (ItEZ K k1 k2 xs ys) H) : ezipK K R [k1.v, k2.v] [.bl true] H := ⟨k1, k2, xs, ys, rfl, rfl, h1, h2, hl, q⟩
theorem w_lstG (n : Now G L H) (hz : xs.length ≤ 100000) (q : ∀ p G' H', Ex G G' → G' p = some (.lst xs) → Now G' L H' → Q (.ref p) H') : lstK Q xs H :=
  ⟨Nat.le_trans hz (by decide), fun p hp => q p _ _ (n.exn hp) upd_same (n.newG hp)⟩
theorem w_tupG (n : Now G L H) (hz : xs.length ≤ 100000) (q : ∀ p G' H', Ex G G' → G' p = some (.tup xs) → Now G' L H' → Q (.ref p) H') : tupK Q xs H :=
  ⟨Nat.le_trans hz (by decide), fun p hp => q p _ _ (n.exn hp) upd_same (n.newG hp)⟩
theorem w_for {wi : TI} {g : TG} {tb : TS} {D : Ends} (h : wi σ H fun J H1 => forK J g tb D σ H1) : tFor wi g tb D σ H := h
end w2
end MA
/-! MD: texts by their signs. -/
namespace MA
open PySem PySem.Spec PyProof.Rows L2 SX
section t
variable {K : PySem.W.Frag} {σ : L2.St} {G H : Hp} {L : List (Addr × HO)} {Q : VK} {a p : Addr}
abbrev sg (c : Nat) : V := .str (S [c])
theorem signs_S (l : List Nat) : signs (S l) = l.map sg := rfl
theorem sz {n : Nat} (h : n ≤ 100000) : n ≤ sizeLine := Nat.le_trans h (by decide)
theorem w_addT {l m : List Nat} (h : l.length + m.length ≤ 100000) (q : Q (.str (S (l ++ m))) H) : rAddU K (.str (S l)) (.str (S m)) H Q :=
  w_addS (by rw [S_len, S_len]; exact sz h) (by rw [S_cat]; exact q)
theorem sIx_take (n : Nat) (k : Int) (h : 0 ≤ k) : HT.sIx n n (some k) = min k.toNat n := by
  obtain ⟨j, rfl⟩ : ∃ j : Nat, k = j := ⟨k.toNat, by omega⟩
  exact HT.sIx_nat n n j
theorem sIx_drop (n : Nat) (k : Int) (h : 0 ≤ k) : HT.sIx n 0 (some k) = min k.toNat n := by
  obtain ⟨j, rfl⟩ : ∃ j : Nat, k = j := ⟨k.toNat, by omega⟩
  exact HT.sIx_nat n 0 j
theorem cut_take (l : List Nat) {k : Int} (h : 0 ≤ k) : cutS (S l) none (some k) = S (l.take k.toNat) := by
  unfold cutS
  rw [S_len, sIx_take _ _ h]
  show (⟨((l.drop 0).take (min k.toNat l.length - 0)).toArray⟩ : Str) = _
  rw [List.drop_zero, Nat.sub_zero]
  congr 2
  rw [List.take_eq_take_iff]
  omega
theorem cut_drop (l : List Nat) {k : Int} (h : 0 ≤ k) : cutS (S l) (some k) none = S (l.drop k.toNat) := by
  unfold cutS
  rw [S_len, sIx_drop _ _ h]
  show (⟨((l.drop (min k.toNat l.length)).take (l.length - min k.toNat l.length)).toArray⟩ : Str) = _
  congr 2
  by_cases hk : k.toNat ≤ l.length
  · rw [Nat.min_eq_left hk]
    apply List.take_of_length_le
    rw [List.length_drop]
    omega
  · rw [Nat.min_eq_right (by omega), List.drop_length, List.take_nil, List.drop_of_length_le (by omega)]
theorem w_slTake {l : List Nat} {k : Int} (hl : l.length ≤ 100000) (h : 0 ≤ k) (q : Q (.str (S (l.take k.toNat))) H) : rSlU K (.str (S l)) none (some k) H Q :=
  .inl ⟨S l, rfl, by rw [S_len]; exact sz hl, by rw [cut_take l h]; exact q⟩
theorem w_slDrop {l : List Nat} {k : Int} (hl : l.length ≤ 100000) (h : 0 ≤ k) (q : Q (.str (S (l.drop k.toNat))) H) : rSlU K (.str (S l)) (some k) none H Q :=
  .inl ⟨S l, rfl, by rw [S_len]; exact sz hl, by rw [cut_drop l h]; exact q⟩
theorem w_lenT' {l : List Nat} (h : l.length ≤ 100000) (q : Q (.int (l.length : Nat)) H) : rLenU K [.str (S l)] H Q := w_lenS (by rw [S_len]; exact sz h) (by rw [S_len]; exact q)
theorem w_ixSg {l : List Nat} {j : Int} {c : Nat} (h : l.length ≤ 100000) (ha : atI l j = some c) (q : Q (sg c) H) : rIx K (.str (S l)) (.int j) H Q := w_ixS (by rw [S_len]; exact sz h) ha q
theorem eqT (l m : List Nat) : decide (S l = S m) = decide (l = m) := by
  by_cases h : l = m
  · subst h; simp
  · rw [decide_eq_false h, decide_eq_false fun e => h (S_inj e)]
theorem w_eqT {l m : List Nat} (q : Q (.bl (decide (l = m))) H) : rEqU K (.str (S l)) (.str (S m)) H Q := w_eqS (by rw [eqT]; exact q)
theorem w_neT {l m : List Nat} (q : Q (.bl (!decide (l = m))) H) : rNeU K (.str (S l)) (.str (S m)) H Q := w_neS (by rw [eqT]; exact q)
theorem eqSg (c d : Nat) : decide (([c] : List Nat) = [d]) = decide (c = d) := by simp
/-- ''.join of signs -/
theorem join_nil : ∀ ls : List (List Nat), Txt.join (S []) (ls.map S) = S ls.flatten := by
  intro ls
  rw [TL.join_eq]
  apply TL.ext_tl
  rw [TL.tl_join, List.map_map]
  have e : (TL.tl ∘ S) = id := by funext l; rfl
  rw [e, List.map_id]
  show TL.joinL [] ls = ls.flatten
  induction ls with
  | nil => rfl
  | cons p r ih =>
    cases r with
    | nil => show p = [p].flatten; simp
    | cons q r => show p ++ ([] ++ TL.joinL [] (q :: r)) = _; rw [ih]; simp
theorem sum_len (l : List Nat) : ((l.map fun c => S [c]).map (·.length)).sum = l.length := by
  induction l with
  | nil => rfl
  | cons c l ih => simp only [List.map_cons, List.sum_cons, ih, List.length_cons, S_len]; simp; omega
theorem flat1 (l : List Nat) : (l.map fun c => [c]).flatten = l := by
  induction l with
  | nil => rfl
  | cons c l ih => rw [List.map_cons, List.flatten_cons, ih]; rfl
theorem w_joinSg {l : List Nat} (h : SqL K H p (l.map sg)) (hl : l.length ≤ 100000) (q : Q (.str (S l)) H) : rJoin K (.str (S [])) [.ref p] H Q := by
  refine ⟨S [], p, l.map fun c => S [c], rfl, rfl, .inl ?_, ?_, ?_⟩
  · rw [List.map_map]; exact h
  · rw [sum_len, List.length_map, S_len]
    show l.length + l.length * 0 ≤ _
    omega
  · have e := join_nil (l.map fun c => [c])
    rw [List.map_map] at e
    have e2 : (S ∘ fun c => [c]) = fun c : Nat => S [c] := rfl
    rw [e2] at e
    rw [e]
    rw [flat1]
    exact q
theorem tyV_str {s : Str} : tyV K "str" (.str s) H := rfl
theorem w_tys {s : Str} {B : Prop} (q : B) : tyV K "str" (.str s) H ∧ B := ⟨rfl, q⟩
theorem w_tyl {xs : List V} {B : Prop} (h : H a = some (.lst xs)) (q : B) : tyV K "list" (.ref a) H ∧ B := ⟨.inl ⟨rfl, _, .inl (.inl h)⟩, q⟩
theorem w_append0 {xs : List V} {v : V} (n : Now G ((a, .lst xs) :: L) H) (h : xs.length < 100000) (q : ∀ H', Now G ((a, .lst (xs ++ [v])) :: L) H' → Q .non H') : rAppend (.ref a) [v] H Q :=
  ⟨a, xs, v, rfl, rfl, n.get0, Nat.lt_of_lt_of_le h (by decide), q _ n.set0⟩
theorem w_append1 {e : Addr × HO} {xs : List V} {v : V} (n : Now G (e :: (a, .lst xs) :: L) H) (h : xs.length < 100000) (q : ∀ H', Now G (e :: (a, .lst (xs ++ [v])) :: L) H' → Q .non H') : rAppend (.ref a) [v] H Q :=
  ⟨a, xs, v, rfl, rfl, n.get1, Nat.lt_of_lt_of_le h (by decide), q _ n.set1⟩
/-- list(text) -/
theorem w_listS {l : List Nat} (n : Now G L H) (hl : l.length ≤ 100000) (q : ∀ p H', Now G ((p, .lst (l.map sg)) :: L) H' → H p = none → Q (.ref p) H') : rListU K [.str (S l)] H Q :=
  .inr ⟨S l, rfl, by rw [S_len]; exact sz hl, fun p hp => q p _ (n.newL hp) hp⟩
/-- in a pair of texts made here -/
theorem w_in2 {x u v : List Nat} (n : Now G L H) {p : Addr} (hp : H p = some (.tup [.str (S u), .str (S v)])) (q : Q (.bl (decide (u = x) || decide (v = x))) H) : rInU K (.str (S x)) (.ref p) H Q := by
  refine .inl ⟨p, _, rfl, .inr (sqT hp), rfl, rfl, ?_⟩
  have e : inV (.str (S x)) [.str (S u), .str (S v)] = (decide (u = x) || decide (v = x)) := by
    show ((S u == S x) || ((S v == S x) || false)) = _
    rw [Bool.or_false, S_beq_eq, S_beq_eq]
  show Q (.bl (if false = true then _ else _)) H
  rw [if_neg Bool.false_ne_true, e]
  exact q
theorem w_inSg {c : Nat} {l : List Nat} (q : Q (.bl (decide (c ∈ l))) H) : rInU K (.str (S [c])) (.str (S l)) H Q := .inr ⟨c, S l, rfl, rfl, q⟩
end t
end MA
/-! ME: data at any depth; the kinds of things. -/
namespace MA
open PySem PySem.Spec PyProof.Rows L2 SX
theorem rd_ex {G H : Hp} {a : Addr} {u : HO} (e : Ex G H) (h : Rd G a u) : Rd H a u := by
  rcases h with h | ⟨o, h⟩
  · exact .inl (e _ _ h)
  · exact .inr ⟨o, e _ _ h⟩
theorem sq_ex {K : PySem.W.Frag} {G H : Hp} {a : Addr} {xs : List V} (e : Ex G H) (h : SqL K G a xs) : SqL K H a xs := h.imp (rd_ex e) id
theorem st_ex {K : PySem.W.Frag} {G H : Hp} {a : Addr} {xs : List V} (e : Ex G H) (h : SqT K G a xs) : SqT K H a xs := h.imp (rd_ex e) id
theorem Now.Ex {G H : Hp} {L : List (Addr × HO)} (n : Now G L H) : Ex G H := n.ex
mutual
theorem dp_ex {K : PySem.W.Frag} {G H : Hp} (e : Ex G H) : ∀ (d : PyData) (v : V), Dp K G v d → Dp K H v d
  | .none, _, .non => .non
  | .bool b, _, .bl _ => .bl b
  | .int i, _, .int _ => .int i
  | .str x, _, .str _ => .str x
  | .list ds, _, .lst h hs => .lst (sq_ex e h) (dps_ex e ds _ hs)
  | .tuple ds, _, .tup h hs => .tup (st_ex e h) (dps_ex e ds _ hs)
theorem dps_ex {K : PySem.W.Frag} {G H : Hp} (e : Ex G H) : ∀ (ds : List PyData) (vs : List V), DpAll K G vs ds → DpAll K H vs ds
  | [], _, .nil => .nil
  | d :: ds, _, .cons h hs => .cons (dp_ex e d _ h) (dps_ex e ds _ hs)
end
theorem _root_.L2.Dp.ex {K : PySem.W.Frag} {G H : Hp} {v : V} {d : PyData} (h : Dp K G v d) (e : Ex G H) : Dp K H v d := dp_ex e d v h
theorem _root_.L2.DpAll.ex {K : PySem.W.Frag} {G H : Hp} {v : List V} {d : List PyData} (h : DpAll K G v d) (e : Ex G H) : DpAll K H v d := dps_ex e d v h
theorem _root_.L2.DpAll.len {K : PySem.W.Frag} {G : Hp} : ∀ {vs : List V} {ds : List PyData}, DpAll K G vs ds → vs.length = ds.length
  | _, _, .nil => rfl
  | _, _, .cons _ h => congrArg Nat.succ h.len
theorem _root_.L2.DpAll.get {K : PySem.W.Frag} {G : Hp} : ∀ {vs : List V} {ds : List PyData} {i : Nat} {x : V}, DpAll K G vs ds → vs[i]? = some x → ∃ d, ds[i]? = some d ∧ Dp K G x d
  | _, _, i, _, .nil, h => by simp at h
  | _, _, 0, _, .cons h _, e => by simp at e; subst e; exact ⟨_, rfl, h⟩
  | _, _, i + 1, _, .cons _ h, e => by
    obtain ⟨d, q1, q2⟩ := h.get (i := i) (by simpa using e)
    exact ⟨d, by simpa using q1, q2⟩
theorem dps_map {K : PySem.W.Frag} {G : Hp} {α : Type} {f : α → V} {g : α → PyData} (h : ∀ a, Dp K G (f a) (g a)) : ∀ l : List α, DpAll K G (l.map f) (l.map g)
  | [] => .nil
  | a :: l => .cons (h a) (dps_map h l)
/-- data of at most a depth, lists not too long -/
inductive Dn : Nat → PyData → Prop
  | non (n : Nat) : Dn n .none
  | bl (n : Nat) (b : Bool) : Dn n (.bool b)
  | int (n : Nat) (i : Int) : Dn n (.int i)
  | str (n : Nat) (x : Str) : Dn n (.str x)
  | lst {n : Nat} {ds : List PyData} (h : ∀ d ∈ ds, Dn n d) (hl : ds.length < 100000) : Dn (n + 1) (.list ds)
  | tup {n : Nat} {ds : List PyData} (h : ∀ d ∈ ds, Dn n d) (hl : ds.length < 100000) : Dn (n + 1) (.tuple ds)
/-! ### kinds -/
def tys : List String := ["NoneType", "bool", "int", "str", "list", "tuple", "dict"]
def isa (t c : String) : Bool := t == c || (t == "bool" && c == "int")
theorem kb_all : ∀ t ∈ tys, ∀ c ∈ tys, kitB t c = some (isa t c) := by decide +kernel
def tyN : PyData → String
  | .none => "NoneType" | .bool _ => "bool" | .int _ => "int" | .str _ => "str" | .list _ => "list" | .tuple _ => "tuple" | .dict _ => "dict"
section
variable {K : PySem.W.Frag} {H : Hp} {Q : VK} {x : V} {d : PyData} {a p : Addr} {xs : List V}
theorem tyX_lst (h : SqL K H a xs) : TyX K H (.ref a) (.type "list") := by
  rcases h with (h | ⟨o, h⟩) | ⟨o, its, n, h, c, _⟩
  · exact .base (.lst h)
  · exact .base (.frz h)
  · exact .kList h c
theorem tyX_tup (h : SqT K H a xs) : TyX K H (.ref a) (.type "tuple") := by
  rcases h with (h | ⟨o, h⟩) | ⟨o, its, n, h, c, _⟩
  · exact .base (.tup h)
  · exact .fTuple h
  · exact .kTuple h c
theorem tyX_dp (h : Dp K H x d) : TyX K H x (.type (tyN d)) := by
  cases h with
  | non => exact .base .non
  | bl b => exact .base (.bl b)
  | int i => exact .base (.int i)
  | str z => exact .base (.str z)
  | lst h _ => exact tyX_lst h
  | tup h _ => exact tyX_tup h
theorem tyN_mem (h : Dp K H x d) : tyN d ∈ tys := by
  cases h <;> simp [tyN, tys]
theorem w_isi {c : String} (h : Dp K H x d) (hc : c ∈ tys) (q : Q (.bl (isa (tyN d) c)) H) : rIsiU K [x, .ty c] H Q :=
  .inl ⟨x, .ty c, _, .type c, _, rfl, .ty c, tyX_dp h, kit_ty (kb_all _ (tyN_mem h) c hc), q⟩
theorem w_isi2 {c1 c2 : String} (h : Dp K H x d) (h1 : c1 ∈ tys) (h2 : c2 ∈ tys) (hp : H p = some (.tup [.ty c1, .ty c2])) (q : Q (.bl (isa (tyN d) c1 || isa (tyN d) c2)) H) : rIsiU K [x, .ref p] H Q := by
  refine .inr ⟨x, p, _, _, [.type c1, .type c2], _, rfl, hp, .cons (.ty c1) (.cons (.ty c2) .nil), tyX_dp h, ?_, q⟩
  refine kitAny_cons (kit_ty (kb_all _ (tyN_mem h) c1 h1)) (fun e => ?_) (fun e => by rw [e]; rfl)
  refine kitAny_cons (kit_ty (kb_all _ (tyN_mem h) c2 h2)) (fun e2 => ?_) (fun e2 => by rw [e2, Bool.or_true])
  rw [e, e2]
  exact kitAny_nil
end
end MA
/-! MF: == of data, in, += -/
namespace MA
open PySem PySem.Spec PyProof.Rows L2 SX
/-- data with no truths (or with truths and no numbers), texts of true signs, at most a depth -/
inductive Pn (k : Bool) : Nat → PyData → Prop
  | non (n : Nat) : Pn k n .none
  | bl (n : Nat) (b : Bool) (h : k = true) : Pn k n (.bool b)
  | int (n : Nat) (i : Int) (h : k = false) : Pn k n (.int i)
  | str (n : Nat) (x : Str) (h : x.cps.all (· < 0x110000) = true) : Pn k n (.str x)
  | lst {n : Nat} {ds : List PyData} (h : ∀ d ∈ ds, Pn k n d) : Pn k (n + 1) (.list ds)
  | tup {n : Nat} {ds : List PyData} (h : ∀ d ∈ ds, Pn k n d) : Pn k (n + 1) (.tuple ds)
theorem eqv_all {p : PyData → Prop} (hp : ∀ d e, p d → p e → (PyData.eqv d e = true ↔ d = e)) : ∀ (ds es : List PyData), (∀ d ∈ ds, p d) → (∀ e ∈ es, p e) → (PyData.eqvAll ds es = true ↔ ds = es)
  | [], [], _, _ => by simp [PyData.eqvAll]
  | [], _ :: _, _, _ => by simp [PyData.eqvAll]
  | _ :: _, [], _, _ => by simp [PyData.eqvAll]
  | d :: ds, e :: es, h1, h2 => by
    rw [PyData.eqvAll, Bool.and_eq_true, hp d e (h1 _ (List.mem_cons_self ..)) (h2 _ (List.mem_cons_self ..)), eqv_all hp ds es (fun x hx => h1 x (List.mem_cons_of_mem _ hx)) (fun x hx => h2 x (List.mem_cons_of_mem _ hx)), List.cons.injEq]
theorem str_beq (x y : Str) : (x == y) = true ↔ x = y := by
  have e : x = S x.cps.toList := by cases x; simp [S]
  have e2 : y = S y.cps.toList := by cases y; simp [S]
  rw [e, e2, S_beq_eq, decide_eq_true_eq]
  exact ⟨fun h => by rw [h], fun h => S_inj h⟩
theorem eqv_iff {k : Bool} (n : Nat) : ∀ (d e : PyData), Pn k n d → Pn k n e → (PyData.eqv d e = true ↔ d = e) := by
  induction n with
  | zero =>
    intro d e hd he
    cases hd <;> cases he <;> simp_all [PyData.eqv, str_beq]
  | succ n ih =>
    intro d e hd he
    cases hd with
    | lst h1 =>
      cases he with
      | lst h2 => rw [PyData.eqv, PyData.list.injEq]; exact eqv_all ih _ _ h1 h2
      | _ => simp [PyData.eqv]
    | tup h1 =>
      cases he with
      | tup h2 => rw [PyData.eqv, PyData.tuple.injEq]; exact eqv_all ih _ _ h1 h2
      | _ => simp [PyData.eqv]
    | _ => cases he <;> simp_all [PyData.eqv, str_beq]
theorem lay_all : ∀ ds : List PyData, (∀ d ∈ ds, d.canLay0 = true) → PyData.canLayAll0 ds = true
  | [], _ => by simp [PyData.canLayAll0]
  | d :: ds, h => by rw [PyData.canLayAll0, h d (List.mem_cons_self ..), lay_all ds fun x hx => h x (List.mem_cons_of_mem _ hx)]; rfl
theorem dep_all {n : Nat} : ∀ ds : List PyData, (∀ d ∈ ds, d.depth ≤ n) → PyData.depthAll ds ≤ n
  | [], _ => by simp [PyData.depthAll]
  | d :: ds, h => by
    rw [PyData.depthAll]
    have h1 := h d (List.mem_cons_self ..)
    have h2 := dep_all ds fun x hx => h x (List.mem_cons_of_mem _ hx)
    omega
theorem Pn.lay {k : Bool} {n : Nat} {d : PyData} (h : Pn k n d) : d.canLay0 = true := by
  induction h with
  | str n x h => rw [PyData.canLay0]; exact h
  | lst h ih => rw [PyData.canLay0]; exact lay_all _ ih
  | tup h ih => rw [PyData.canLay0]; exact lay_all _ ih
  | _ => simp [PyData.canLay0]
theorem Pn.dep {k : Bool} {n : Nat} {d : PyData} (h : Pn k n d) : d.depth ≤ n := by
  induction h with
  | lst h ih => rw [PyData.depth]; have := dep_all _ ih; omega
  | tup h ih => rw [PyData.depth]; have := dep_all _ ih; omega
  | _ => simp [PyData.depth]
theorem Pn.shaped {k : Bool} {n : Nat} {d : PyData} (h : Pn k n d) (hn : n ≤ 64) : SeqAt.shaped d = true := by
  show (d.canLay0 && decide (d.depth ≤ 64)) = true
  rw [h.lay, Bool.true_and]
  exact decide_eq_true (Nat.le_trans h.dep hn)
theorem fr_yes {p : Nat → Bool} {i : Nat} (h : p i = true) : (List.range (i + 1)).filter p = (List.range i).filter p ++ [i] := by
  rw [List.range_succ, List.filter_append, List.filter_cons, if_pos h]; rfl
theorem fr_no {p : Nat → Bool} {i : Nat} (h : p i = false) : (List.range (i + 1)).filter p = (List.range i).filter p := by
  rw [List.range_succ, List.filter_append, List.filter_cons, h]; simp
theorem fr_len {p : Nat → Bool} {i : Nat} : ((List.range i).filter p).length ≤ i := by
  have := List.length_filter_le p (List.range i)
  rw [List.length_range] at this
  exact this
theorem at_get {l : List Nat} {p : Nat} {c : Nat} (h : l[p]? = some c) : atI l (p : Int) = some c := atI_nat h
theorem take_snoc {α : Type} {xs : List α} {i : Nat} {a : α} (h : xs[i]? = some a) : xs.take (i + 1) = xs.take i ++ [a] := by
  rw [List.take_succ, h]; rfl
theorem w_seqH {ts tu : TS} {D : Ends} {σ : L2.St} {H : Hp} (N : L2.St → Hp → Prop) (h2 : ∀ σ' H', N σ' H' → tu D σ' H') (h1 : ∀ R : L2.St → Hp → Prop, (∀ σ' H', N σ' H' → R σ' H') → ts { D with nx := R } σ H) : tSeq ts tu D σ H := h1 _ h2
abbrev nums (l : List Nat) : List V := l.map fun k => V.int (k : Nat)
abbrev numD (l : List Nat) : PyData := .list (l.map fun k => PyData.int (k : Nat))
section
variable {K : PySem.W.Frag} {σ : L2.St} {G H : Hp} {L : List (Addr × HO)} {Q : VK} {x y : V} {d e : PyData} {a b p : Addr}
theorem w_eqD {k : Bool} {n : Nat} (t : Bool) (hx : Dp K H x d) (hy : Dp K H y e) (pd : Pn k n d) (pe : Pn k n e) (hn : n ≤ 64) (ht : t = true ↔ d = e) (q : Q (.bl t) H) : rEqU K x y H Q := by
  refine .inr ⟨d, e, hx, hy, pd.shaped hn, pe.shaped hn, ?_⟩
  have : PyData.eqv d e = t := by rw [Bool.eq_iff_iff, ht]; exact eqv_iff n d e pd pe
  rw [this]; exact q
theorem w_neD {k : Bool} {n : Nat} (t : Bool) (hx : Dp K H x d) (hy : Dp K H y e) (pd : Pn k n d) (pe : Pn k n e) (hn : n ≤ 64) (ht : t = true ↔ d = e) (q : Q (.bl (!t)) H) : rNeU K x y H Q := by
  refine .inr ⟨d, e, hx, hy, pd.shaped hn, pe.shaped hn, ?_⟩
  have : PyData.eqv d e = t := by rw [Bool.eq_iff_iff, ht]; exact eqv_iff n d e pd pe
  rw [this]; exact q
theorem dp_nums {l : List Nat} (h : SqL K H a (nums l)) : Dp K H (.ref a) (numD l) := .lst h (dps_map (fun _ => .int _) l)
theorem pn_nums (l : List Nat) : Pn false 1 (numD l) := .lst fun d hd => by
  obtain ⟨k, _, rfl⟩ := List.mem_map.mp hd
  exact .int _ _ rfl
theorem numD_inj {l m : List Nat} : numD l = numD m ↔ l = m := by
  constructor
  · intro h
    have := PyData.list.inj h
    exact List.map_inj_right (fun x y h => by have := PyData.int.inj h; omega) |>.mp this
  · rintro rfl; rfl
theorem w_eqNums {l m : List Nat} (h1 : SqL K H a (nums l)) (h2 : SqL K H b (nums m)) (q : Q (.bl (decide (l = m))) H) : rEqU K (.ref a) (.ref b) H Q :=
  w_eqD _ (dp_nums h1) (dp_nums h2) (pn_nums l) (pn_nums m) (by decide) (by rw [decide_eq_true_eq, numD_inj]) q
theorem w_neNums {l m : List Nat} (h1 : SqL K H a (nums l)) (h2 : SqL K H b (nums m)) (q : Q (.bl (!decide (l = m))) H) : rNeU K (.ref a) (.ref b) H Q :=
  w_neD _ (dp_nums h1) (dp_nums h2) (pn_nums l) (pn_nums m) (by decide) (by rw [decide_eq_true_eq, numD_inj]) q
theorem flat_nums (l : List Nat) : (nums l).all flatV = true := by
  rw [List.all_eq_true]
  intro x hx
  obtain ⟨k, _, rfl⟩ := List.mem_map.mp hx
  rfl
theorem inV_nums (n : Nat) (l : List Nat) : inV (.int (n : Nat)) (nums l) = decide (n ∈ l) := by
  unfold inV
  rw [Bool.eq_iff_iff, List.any_eq_true, decide_eq_true_eq]
  constructor
  · rintro ⟨x, hx, e⟩
    obtain ⟨k, hk, rfl⟩ := List.mem_map.mp hx
    have : ((k : Int) == (n : Int)) = true := e
    rw [beq_iff_eq] at this
    have : k = n := by omega
    exact this ▸ hk
  · intro h
    exact ⟨.int (n : Nat), List.mem_map.mpr ⟨n, h, rfl⟩, by show ((n : Int) == (n : Int)) = true; exact beq_self_eq_true _⟩
theorem w_inNum {n : Nat} {l : List Nat} (h : SqL K H a (nums l)) (q : Q (.bl (decide (n ∈ l))) H) : rInU K (.int (n : Nat)) (.ref a) H Q :=
  .inl ⟨a, _, rfl, .inl h, rfl, flat_nums l, by rw [if_neg Bool.false_ne_true, inV_nums]; exact q⟩
theorem w_notin2 {x u v : List Nat} (n : Now G L H) {p : Addr} (hp : H p = some (.tup [.str (S u), .str (S v)])) (q : Q (.bl (!(decide (u = x) || decide (v = x)))) H) : rNiU K (.str (S x)) (.ref p) H Q := by
  refine .inl ⟨p, _, rfl, .inr (sqT hp), rfl, rfl, ?_⟩
  have e : inV (.str (S x)) [.str (S u), .str (S v)] = (decide (u = x) || decide (v = x)) := by
    show ((S u == S x) || ((S v == S x) || false)) = _
    rw [Bool.or_false, S_beq_eq, S_beq_eq]
  show Q (.bl (if true = true then _ else _)) H
  rw [if_pos rfl, e]
  exact q
theorem w_notinSg {c : Nat} {l : List Nat} (q : Q (.bl (!decide (c ∈ l))) H) : rNiU K (.str (S [c])) (.str (S l)) H Q := .inr ⟨c, S l, rfl, rfl, q⟩
theorem w_ipaddI {i j : Int} (q : Q (.int (i + j)) H) : ipAddU K (.int i) (.int j) H Q := .inl ⟨i, j, rfl, rfl, q⟩
theorem w_ipaddT {l m : List Nat} (h : l.length + m.length ≤ 100000) (q : Q (.str (S (l ++ m))) H) : ipAddU K (.str (S l)) (.str (S m)) H Q :=
  .inr ⟨_, _, rfl, rfl, by rw [S_len, S_len]; exact sz h, by rw [S_cat]; exact q⟩
end
end MA
/-! MG: a dict of the module's top, by texts; a list back in the ledger. -/
namespace MA
open PySem PySem.Spec PyProof.Rows L2 SX
def KD (K : PySem.W.Frag) (w : World) (a : Addr) (kvs : List (List Nat × V)) : Prop := ∀ kv ∈ kvs, KDct K w a (S kv.1) kv.2
def tKD (kvs : List (List Nat × V)) (ty : TE) : TE := fun σ H Q => ty σ H fun y H1 => ∃ kv ∈ kvs, y = .str (S kv.1) ∧ Q kv.2 H1
theorem pe_kd {X : Cx} {nm : Str} {a : Addr} {kvs : List (List Nat × V)} {i : Expr} {p pos : Pos} {ty : TE} (hg : Gl X nm) (hm : X.mg nm = some (.ref a)) (D : KD X.K X.w a kvs) (hi : PE X i ty) (hs : NoSl i) (hd : (nm == ("__debug__" : Str)) = false := by decide) : PE X (.Subscript (.Name nm p) i pos) (tKD kvs ty) := by
  have hp := pe_glob (v := .ref a) (pos := p) hg hm rfl hd
  refine ⟨fun pins s σ H Q I h => ?_⟩
  exact Subscript_ (binT (R := fun x y H2 => x = .ref a ∧ ∃ kv ∈ kvs, y = .str (S kv.1) ∧ Q kv.2 H2) hp hi I (by
    show ty σ H fun y H2 => V.ref a = .ref a ∧ ∃ kv ∈ kvs, y = .str (S kv.1) ∧ Q kv.2 H2
    have e : (fun (y : V) (H2 : Hp) => V.ref a = .ref a ∧ ∃ kv ∈ kvs, y = .str (S kv.1) ∧ Q kv.2 H2) = fun y H2 => ∃ kv ∈ kvs, y = .str (S kv.1) ∧ Q kv.2 H2 := by
      funext y H2
      exact propext ⟨fun h => h.2, fun h => ⟨rfl, h⟩⟩
    rw [e]
    exact h) fun v u s2 x y H2 I2 rx ry q => by
      obtain ⟨rfl, kv, hm2, rfl, q⟩ := q
      exact ix_kdict (.Name nm p) i pins s2 σ H2 _ _ v u Q I2 rx ry ⟨a, _, kv.2, rfl, rfl, D kv hm2, q⟩ (hs _ _))
section
variable {G H : Hp} {L : List (Addr × HO)} {p : Addr} {o : HO}
theorem Now.thaw (n : Now (upd G p o) L H) (h : G p = none) : Now G ((p, o) :: L) H where
  ex := fun a u e => n.ex a u (by rw [upd_ne (ne_of_none e h)]; exact e)
  mu := fun x hx => by
    rcases List.mem_cons.mp hx with e | hx
    · rw [e]; exact n.ex _ _ upd_same
    · exact n.mu x hx
  ap := fun x hx => by
    rcases List.mem_cons.mp hx with e | hx
    · rw [e]; exact h
    · have h1 := n.ap x hx
      by_cases hp : x.1 = p
      · rw [hp]; exact h
      · rw [upd_ne hp] at h1; exact h1
  nd := by
    show (p :: L.map (·.1)).Nodup
    refine List.nodup_cons.mpr ⟨fun hm => ?_, n.nd⟩
    obtain ⟨x, hx, rfl⟩ := List.mem_map.mp hm
    have := n.ap x hx
    rw [upd_same] at this
    cases this
end
theorem rep_fold (c : Nat) : ∀ (n : Nat) (acc : Array Nat), (List.replicate n #[c]).foldl (· ++ ·) acc = acc ++ (List.replicate n c).toArray
  | 0, acc => by simp
  | n + 1, acc => by
    rw [List.replicate_succ, List.foldl_cons, rep_fold c n, List.replicate_succ]
    apply Array.ext'
    simp
theorem mul1 (c : Nat) {j : Int} (h : 1 ≤ j) : Txt.mul (S [c]) j = S (List.replicate j.toNat c) := by
  unfold Txt.mul
  rw [if_neg (by omega)]
  by_cases h1 : j = 1
  · subst h1; rfl
  · have e : (j == 1 || (S [c]).length == 0) = false := by
      rw [Bool.or_eq_false_iff]
      exact ⟨beq_eq_false_iff_ne.mpr h1, rfl⟩
    rw [e, if_neg Bool.false_ne_true]
    show (⟨(List.replicate j.toNat #[c]).foldl (· ++ ·) #[]⟩ : Str) = _
    rw [rep_fold]
    simp [S]
theorem w_rep1 {K : PySem.W.Frag} {H : Hp} {Q : VK} {c : Nat} {j : Int} (h0 : 1 ≤ j) (h1 : j ≤ 1000) (q : Q (.str (S (List.replicate j.toNat c))) H) : rMulU K (.str (S [c])) (.int j) H Q := by
  refine .inr (.inr (.inl ⟨S [c], j, rfl, rfl, ⟨?_, fun _ _ => ?_, fun _ _ => ?_⟩, by rw [mul1 c h0]; exact q⟩))
  · rw [Bool.or_eq_false_iff]
    exact ⟨decide_eq_false (by omega), decide_eq_false (by omega)⟩
  · have e : ((S [c]).length : Int) = 1 := rfl
    rw [e]
    have : (1 : Int) ≤ (2 ^ 63 - 1) / j := by
      rw [Int.le_ediv_iff_mul_le (by omega)]
      omega
    omega
  · have e : (S [c]).length * j.toNat = j.toNat := by show 1 * j.toNat = _; omega
    rw [e]
    exact decide_eq_false (show ¬ j.toNat > 16777216 by omega)
end MA
/-! ZR: for x in reversed(text). -/
namespace RS
open PySem PySem.Spec PyProof.Rows L2 RT MA
theorem norev_str : typeLookup (.type "str") "__reversed__" = pure none := by rw [typeLookup_type, builtinLookup_eq_fast]; kernel_rfl
theorem get_str : typeLookup (.type "str") "__getitem__" = pure (some (.builtin "str.__getitem__")) := by rw [typeLookup_type, builtinLookup_eq_fast]; kernel_rfl
theorem sub_str_dict : isSubtype (.type "str") (.type "dict") = pure false := by rw [isSubtype_type]; kernel_rfl
def rsObj (z : Str) (t : Tok) (i : Int) : Obj := { cls := .type "reversed", data := .fields #[.str z t, rawInt i] }
/-- reversed(z), the next place i -/
def IsRs (h : Heap) (a : Addr) (z : Str) (t : Tok) (i : Int) : Prop := ∃ o, h.get? a = some o ∧ o.cls = .type "reversed" ∧ o.data = .fields #[.str z t, rawInt i]
theorem IsRs.at {h h' : Heap} {a : Addr} {z : Str} {t : Tok} {i : Int} (x : IsRs h a z t i) (e : ∀ o, h.get? a = some o → h'.get? a = some o) : IsRs h' a z t i := let ⟨o, ho, r⟩ := x; ⟨o, e _ ho, r⟩
section
variable {prog : Program} {w : World} {A : Around} {E : Value → Shared → Prop} {s : Shared} {z : Str} {t : Tok}
theorem IsRs.typeIs {a : Addr} {i : Int} (x : IsRs s.heap a z t i) : s.TypeIs (.ref a) "reversed" := let ⟨o, ho, hc, _⟩ := x; ⟨o, ho, hc⟩
theorem code_reversed_str {Q₁ : Value → Shared → Prop} (hz : ¬ (z.length : Int) ≥ 2 ^ 63)
    (h : Q₁ (.ref s.heap.objs.size) { s with heap := s.heap.push (rsObj z t ((z.length : Int) - 1)), toks := s.toks + 1 + 1 }) :
    codeAny (model prog w) A (.call (.builtin "reversed.__new__") ⟨[.type "reversed", .str z t], []⟩) (wants Q₁ E) s := by
  have hT : s.TypeIs (.str z t) "str" := typeIs_str s z t
  refine codeAny_of_tree ?_
  show wpAny _ A.in1 (do checkBuiltinCall "reversed.__new__" ⟨[.type "reversed", .str z t], []⟩; again (.builtin "reversed.__new__" ⟨[.type "reversed", .str z t], []⟩)) _ _ s
  refine wpAny_bind (wpAny_of_eq (F.newCall_reversed_1 _) (wpAny_pure ⟨plainId_quiet F.plain_reversed_new _, codeAny_builtin F.entry_reversed_new ?_⟩))
  rw [Around.under_plainId F.plain_reversed_new _]
  unfold Builtin.«reversed.__new__»
  refine wpAny_bind (wpAny_of_eq (newClass_reversed _) ?_)
  try dsimp only
  refine wpAny_bind (wpAny_of_eq (a := ()) (by first | rfl | kernel_rfl) ?_)
  try dsimp only
  refine wpAny_bind (wpAny_of_eq (a := ()) (by first | rfl | kernel_rfl) ?_)
  try dsimp only
  refine wpAny_bind (wpAny_specialOf hT norev_str ?_)
  try dsimp only
  refine wpAny_bind ?_
  wp_delta
  refine wpAny_bind (wpAny_isInstance (T := "str") (U := "dict") (b := false) hT sub_str_dict ?_)
  try dsimp only
  try rw [if_neg Bool.false_ne_true]
  try dsimp only
  refine wpAny_bind (wpAny_specialOf hT get_str ?_)
  try dsimp only
  try rw [if_pos (by decide +kernel)]
  refine wpAny_pure ?_
  try dsimp only
  try rw [if_neg (by decide)]
  try dsimp only
  refine wpAny_bind (P.len_str hz ?_)
  refine wpAny_bind (wpAny_of_eq (a := some ((z.length : Nat) : Int)) rfl ?_)
  try dsimp only
  refine wpAny_bind ?_
  show wpAny _ _ (newObj (.type "reversed") (.fields #[.str z t, rawInt ((z.length : Int) - 1)])) _ _ _
  refine wpAny_newObj_type ?_
  exact wpAny_pure h
theorem call_reversed_str {Q : Value → Shared → Prop} (hz : ¬ (z.length : Int) ≥ 2 ^ 63)
    (h : Q (.ref s.heap.objs.size) { s with heap := s.heap.push (rsObj z t ((z.length : Int) - 1)), toks := s.toks + 1 + 1 }) : wpAny (model prog w) A (call (.type "reversed") [.str z t]) Q E s := by
  refine callType_codes (Q₁ := fun obj s₁ => s₁.TypeIs obj "reversed" ∧ Q obj s₁) called_rt (F.typeCall_reversed_1 _) F.entry_object_init
    (code_reversed_str (A := A.in1) hz ⟨⟨_, Heap.get?_push_size _ rfl, rfl⟩, h⟩) fun obj s₁ h₁ => ?_
  exact ⟨h₁.1, F.args_object_init_2 obj _, object_init_meets called_rt.init.lookup called_rt.made (by decide) prog w A.in1 _ s₁ ⟨h₁.1, rfl, h₁.2⟩⟩
theorem next_rs_item {it : Addr} {i c : Nat} {Q : Option Value → Shared → Prop} (hit : IsRs s.heap it z t (i : Int)) (hx : z.cps[i]? = some c) (hsz : z.length ≤ sizeLine)
    (hQ : ∀ h', IsRs h' it z t ((i : Int) - 1) → Heap.SameBut it s.heap h' → Q (some (.str ⟨#[c]⟩ (s.toks + 1))) { s with heap := h', toks := s.toks + 1 + 1 }) : wpAny (model prog w) A (pyNext (.ref it)) Q E s := by
  obtain ⟨o, ho, hc, hd⟩ := id hit
  have hi : i < z.length := (Array.getElem?_eq_some_iff.mp hx).1
  have hT : s.TypeIs (.str z t) "str" := typeIs_str s z t
  rw [sizeLine_eq] at hsz
  unfold pyNext
  refine wpAny_bind (wpAny_attempt (wpAny_callSpecial?_slot (name := Str.ofString "__next__") hit.typeIs slot_rt_next
    (wpAny_call_entry slot_rt_next hit.typeIs entry_rt_next ?_ (args_rt_next _))))
  unfold Builtin.«reversed.__next__»
  refine wpAny_bind (wpAny_of_eq (a := (Value.ref it, [])) rfl ?_)
  try dsimp only
  refine wpAny_bind (wpAny_field ho hd (x := .str z t) rfl ?_)
  try dsimp only
  refine wpAny_bind (wpAny_field ho hd (x := rawInt (i : Int)) rfl ?_)
  show wpAny _ _ (if (i : Int) < 0 then _ else _) _ _ s
  rw [if_neg (by omega)]
  try dsimp only
  refine wpAny_bind (wpAny_specialOf hT get_str ?_)
  try dsimp only
  try rw [if_neg (by decide)]
  try dsimp only
  refine wpAny_bind (wpAny_mkInt ?_)
  refine wpAny_bind (wpAny_attempt ?_)
  have fin : seqIndex? (i : Int) z.length = some i := seqIndex_of (by omega) (by omega)
  refine P.getItem_str (s := { s with toks := s.toks + 1 }) (c := c) (by
    have e1 : decide ((i : Int) < -(2 ^ 63 : Int)) = false := decide_eq_false (by omega)
    have e2 : decide ((i : Int) ≥ 2 ^ 63) = false := decide_eq_false (by omega)
    rw [e1, e2, Bool.or_false]) (by rw [fin]; exact hx) ?_
  try dsimp only
  refine wpAny_bind (wpAny_field (s := { s with toks := s.toks + 1 + 1 }) ho hd (x := rawInt (i : Int)) rfl ?_)
  try dsimp only
  refine wpAny_bind (wpAny_setField (s := { s with toks := s.toks + 1 + 1 }) ho hd (by simp) ?_)
  first
  | refine wpAny_pure ⟨_, rfl, wpAny_pure (hQ _ ?_ (Heap.SameBut.update ..))⟩
  | refine wpAny_bind (wpAny_pure (wpAny_pure ⟨_, rfl, wpAny_pure (hQ _ ?_ (Heap.SameBut.update ..))⟩))
  exact ⟨_, Heap.get?_update_self _ ho (Obj.isFreed_of_fields (Obj.data_mapFields hd _)), (Obj.cls_mapFields ..).trans hc, by
    rw [Obj.data_mapFields hd]; simp⟩
theorem next_rs_end {it : Addr} {Q : Option Value → Shared → Prop} (hh : A.handled = none) (hit : IsRs s.heap it z t (-1))
    (hQ : ∀ h', Heap.ExtBut it s.heap h' → Q none { s with heap := h' }) : wpAny (model prog w) A (pyNext (.ref it)) Q E s := by
  obtain ⟨o, ho, hc, hd⟩ := id hit
  unfold pyNext
  refine wpAny_bind (wpAny_attempt (wpAny_callSpecial?_slot (name := Str.ofString "__next__") hit.typeIs slot_rt_next
    (wpAny_call_entry slot_rt_next hit.typeIs entry_rt_next ?_ (args_rt_next _))))
  unfold Builtin.«reversed.__next__»
  refine wpAny_bind (wpAny_of_eq (a := (Value.ref it, [])) rfl ?_)
  try dsimp only
  refine wpAny_bind (wpAny_field ho hd (x := .str z t) rfl ?_)
  try dsimp only
  refine wpAny_bind (wpAny_field ho hd (x := rawInt (-1)) rfl ?_)
  show wpAny _ _ (if (-1 : Int) < 0 then _ else _) _ _ s
  rw [if_pos (by decide)]
  try dsimp only
  refine wpAny_bind (wpAny_rule ?_)
  refine wpAny_bind ?_
  wp_delta
  refine wpAny_bind (wpAny_setField ho hd (by simp) ?_)
  have ho2 := Heap.get?_update_self (Obj.mapFields (·.setIfInBounds 1 (rawInt (-1)))) ho (Obj.isFreed_of_fields (Obj.data_mapFields hd _))
  refine wpAny_setField (s := { s with heap := s.heap.update it (Obj.mapFields (·.setIfInBounds 1 (rawInt (-1)))) }) ho2 (Obj.data_mapFields hd _) (by simp) ?_
  try dsimp only
  first
  | show wpAny _ _ (newExc (.type "StopIteration") [] >>= _) _ _ _
  | (refine wpAny_bind ?_; show wpAny _ _ (newExc (.type "StopIteration") [] >>= _) _ _ _)
  | (refine wpAny_bind ?_; wp_delta; show wpAny _ _ (newExc (.type "StopIteration") [] >>= _) _ _ _)
  refine wpAny_bind ?_
  simp only [newExc, newTuple]
  refine wpAny_bind (wpAny_newObj_type ?_ (by size_fits))
  refine wpAny_bind (m := firstArgMember _ _) (wpAny_of_eq (a := Value.none) (by first | rfl | (simp only [firstArgMember]; rfl)) ?_)
  refine wpAny_newObj_type ?_ (by size_fits)
  simp only [raiseNew]
  refine wpAny_bind (wpAny_handled ?_)
  first | rw [show A.in1.handled = none from hh] | rw [hh]
  refine wpAny_bind (wpAny_pure (wpAny_throw ?_))
  refine wpAny_bind (wpAny_isInstance (T := "StopIteration") (b := true) ⟨_, Heap.get?_push_size _ rfl, rfl⟩ isSubtype_stop ?_)
  refine wpAny_pure (hQ _ ?_)
  refine ((?_ : Heap.ExtBut it s.heap _).push _).push _
  exact fun b ob hb e => (Heap.get?_update_other _ _ (Ne.symm hb)).trans ((Heap.get?_update_other _ _ (Ne.symm hb)).trans e)
theorem iter_rs {it : Addr} {i : Int} {Q : Value → Shared → Prop} (hit : IsRs s.heap it z t i) (h : Q (.ref it) s) : wpAny (model prog w) A (pyIter (.ref it)) Q E s := by
  refine wpAny_pyIter_slot hit.typeIs slot_rt_iter (wpAny_call_entry slot_rt_iter hit.typeIs entry_rt_iter ?_ (args_rt_iter _))
  show wpAny _ _ (ret (.ref it)) _ _ s
  exact wpAny_pure ⟨_, rfl, "reversed", _, hit.typeIs, slot_rt_next.lookup, h⟩
end
/-- the signs of a text, from its end -/
def ItRS (z : Str) : It := Itg (fun _ => True) z.length (fun i H x H' => H' = H ∧ (MA.signs z)[z.length - 1 - i]? = some x)
theorem turn_rs {P : Program} {w : World} {K : PySem.W.Frag} {tg : Expr} (z : Str) (t : Tok) (hz : z.length ≤ sizeLine) (it : Addr) : Turn P w K tg (ItRS z) [it] it (fun i h => i ≤ z.length ∧ IsRs h it z t ((z.length : Int) - 1 - (i : Nat))) where
  mem := by simp
  obj := fun i h st b hb => by
    have e : b = it := by simpa using hb
    subst e
    obtain ⟨_, o, e, c, d⟩ := st
    exact ⟨o, e, fun v z => by rw [d] at z; cases z⟩
  keep := fun i h h' st k => ⟨st.1, st.2.at fun o e => k it (by simp) o e⟩
  item := by
    intro X hP hw hK hc i pins s σ H E I hf st hg
    subst hP hw hK
    obtain ⟨_, hin⟩ := hg
    obtain ⟨f0, f1, f2, f3, f4, f5⟩ := hf it (by simp)
    obtain ⟨_, hit⟩ := st
    have e1 : (z.length : Int) - 1 - ((i : Nat) : Int) = ((z.length - 1 - i : Nat) : Int) := by omega
    rw [e1] at hit
    have hlt : z.length - 1 - i < z.cps.size := by have : z.length = z.cps.size := rfl; omega
    have hx : z.cps[z.length - 1 - i]? = some z.cps[z.length - 1 - i] := Array.getElem?_eq_getElem hlt
    refine next_rs_item hit hx hz fun h' st' sb => ?_
    have e2 : ((z.length - 1 - i : Nat) : Int) - 1 = (z.length : Int) - 1 - ((i + 1 : Nat) : Int) := by omega
    rw [e2] at st'
    have I1 : Inv X pins σ H { s with heap := h', toks := s.toks + 1 + 1 } := I.turned (t' := s.toks + 1 + 1) (fun b o hb e => (sb.2 b hb).trans e) f0 f1 f3 f4 f5
    obtain ⟨o, e, c, d⟩ := id st'
    refine ⟨_, rfl, go_of (s := { s with heap := h', toks := s.toks + 1 + 1 }) e c d (by decide) ⟨.str ⟨#[z.cps[z.length - 1 - i]]⟩, H, I1, ⟨_, rfl⟩, ⟨rfl, ?_⟩, ⟨hin, st'⟩, fun b hb => (hf b hb).1⟩⟩
    show (z.cps.toList.map fun c => V.str ⟨#[c]⟩)[z.length - 1 - i]? = _
    rw [List.getElem?_map, Array.getElem?_toList, hx]
    rfl
  done := by
    intro X hP hw hK hc i pins s σ H E I hf st hg
    subst hP hw hK
    obtain ⟨f0, f1, f2, f3, f4, f5⟩ := hf it (by simp)
    obtain ⟨hin, hit⟩ := st
    have hge : z.length ≤ i := hg.2
    have e1 : (z.length : Int) - 1 - ((i : Nat) : Int) = -1 := by omega
    rw [e1] at hit
    exact next_rs_end (I.ok.hd hc) hit fun h' eb => ⟨rfl, I.turned (t' := s.toks) (fun b o hb e => eb b o hb e) f0 f1 f3 f4 f5⟩
  self := fun A i s Q E st h => iter_rs st.2 h
/-- reversed(text) -/
def iRevS (te : TE) : TI := fun σ H R => te σ H fun v H1 => ∃ z : Str, v = .str z ∧ z.length ≤ sizeLine ∧ R (ItRS z) H1
theorem pi_revS {X : Cx} {tg e : Expr} {te : TE} {p pos : Pos} (hg : Gl X "reversed") (hm : X.mg "reversed" = none) (he : PE X e te) (hs : starEach [e] X.env = (false, eval e X.env) :: starEach [] X.env := by rfl) : PI X tg (.Call (.Name "reversed" p) [e] [] pos) (iRevS te) := by
  refine ⟨fun pins s σ H R I h => ?_⟩
  refine Call_ (ld_blt I hg hm PyProof.Rows.boot_reversed (PyProof.Rows.callWith_type1 (args_cons (thn (he.run pins s σ H _ I h) fun u s1 ⟨v, H1, I1, r1, q1⟩ => args_nil ?_) hs) hs rfl))
  obtain ⟨z, ev, hz, q⟩ := q1
  subst ev
  obtain ⟨t, rfl⟩ := r1
  have hz2 : ¬ (z.length : Int) ≥ 2 ^ 63 := by rw [sizeLine_eq] at hz; omega
  have e1 : (z.length : Int) - 1 = (z.length : Int) - 1 - ((0 : Nat) : Int) := by omega
  refine call_reversed_str hz2 (iter_rs (z := z) (t := t) (i := (z.length : Int) - 1) ⟨_, Heap.get?_push_size _ rfl, rfl, rfl⟩ ?_)
  refine pi_one (tk := s1.toks + 1 + 1) I1 _ (turn_rs z t hz _) ⟨Nat.zero_le _, ?_⟩ q
  rw [← e1]
  exact ⟨_, Heap.get?_push_size _ rfl, rfl, rfl⟩
end RS
/-! MH: while; str(n); x[::-1]; reversed(text); bits. -/
namespace MA
open PySem PySem.Spec PyProof.Rows L2 SX
section
variable {X : Cx}
def rStrU (K : PySem.W.Frag) : List V → Hp → VK → Prop := fun xs H Q => (∃ i, xs = [.int i] ∧ i.natAbs.log2 < 1920 ∧ Q (.str (toString i)) H) ∨ (∃ a, xs = [.str a] ∧ Q (.str a) H) ∨ ∃ b, xs = [.bl b] ∧ Q (.str (if b then "True" else "False")) H
theorem call_str_bool : CallR X (.type "str") (fun xs H Q => ∃ b, xs = [.bl b] ∧ Q (.str (if b then "True" else "False")) H) := by
  intro pins s σ H xs us Q I r h
  obtain ⟨b, rfl, q⟩ := h
  obtain ⟨u, rfl, ru⟩ := vals1 r
  cases ru
  exact PySem.P.str_of_bool ⟨.str _, H, I.tok _, ⟨_, rfl⟩, q⟩
theorem u_str : CallR X (.type "str") (rStrU X.K) := call_str_int.or (SkE.call_str_str.or call_str_bool)
def tRevU (K : PySem.W.Frag) (te : TE) : TE := fun σ H Q => te σ H fun x H1 => ∃ a xs, x = .ref a ∧ SqL K H1 a xs ∧ ∀ p, H1 p = none → Q (.ref p) (upd H1 p (.lst xs.reverse))
theorem u_rev {e : Expr} {te : TE} {k : Nat} {p1 p2 p3 pos : Pos} (he : PE X e te) : PE X (.Subscript e (.Slice none none (some (.UnaryOp .USub (.Constant (.int 1) k p1) p2)) p3) pos) (tRevU X.K te) := pe_revL he
end
section
variable {K : PySem.W.Frag} {σ : L2.St} {G H : Hp} {L : List (Addr × HO)} {Q : VK} {a p : Addr} {xs : List V}
def whC (tb : TS) (D : Ends) (m : Nat) (W : Nat → L2.St → Hp → Prop) (σ : L2.St) (b : Bool) (H1 : Hp) : Prop := if b = true then ∃ N : L2.St → Hp → Prop, (∀ σ' H', N σ' H' → ∃ m', m' < m ∧ W m' σ' H') ∧ tb { D with nx := N, ct := N, bk := D.nx } σ H1 else D.nx σ H1
theorem w_while {c : TT} {tb : TS} {D : Ends} (W : Nat → L2.St → Hp → Prop) (m0 : Nat) (h0 : W m0 σ H) (hs : ∀ m σ H, W m σ H → c σ H (whC tb D m W σ)) : tWhile c tb D σ H := ⟨W, ⟨m0, h0⟩, hs⟩
theorem w_whC {tb : TS} {D : Ends} {m : Nat} {W : Nat → L2.St → Hp → Prop} {b : Bool} (h1 : b = true → tb { D with nx := fun σ' H' => ∃ m', m' < m ∧ W m' σ' H', ct := fun σ' H' => ∃ m', m' < m ∧ W m' σ' H', bk := D.nx } σ H) (h2 : b = false → D.nx σ H) : whC tb D m W σ b H := by
  unfold whC
  cases b with
  | true => rw [if_pos rfl]; exact ⟨_, fun _ _ h => h, h1 rfl⟩
  | false => rw [if_neg Bool.false_ne_true]; exact h2 rfl
theorem w_strI {i : Int} (h : i.natAbs.log2 < 1920) (q : Q (.str (toString i)) H) : rStrU K [.int i] H Q := .inl ⟨i, rfl, h, q⟩
theorem str0 : ((toString (0 : Int) : String) : Str) = S [48] := by decide +kernel
theorem str1 : ((toString (1 : Int) : String) : Str) = S [49] := by decide +kernel
/-- str of a bit -/
theorem w_strB {i : Int} {k : Nat} (hk : i = k) (h : k = 0 ∨ k = 1) (q : Q (sg (48 + k)) H) : rStrU K [.int i] H Q := by
  subst hk
  refine w_strI (by rcases h with rfl | rfl <;> decide) ?_
  rcases h with rfl | rfl
  · show Q (.str ((toString (0 : Int) : String) : Str)) H; rw [str0]; exact q
  · show Q (.str ((toString (1 : Int) : String) : Str)) H; rw [str1]; exact q
theorem w_rev {te : TE} (h : te σ H fun x H1 => ∃ a xs, x = .ref a ∧ SqL K H1 a xs ∧ ∀ p, H1 p = none → Q (.ref p) (upd H1 p (.lst xs.reverse))) : tRevU K te σ H Q := h
def revK (R : It → Hp → Prop) (v : V) (H : Hp) : Prop := ∃ z : Str, v = .str z ∧ z.length ≤ sizeLine ∧ R (RS.ItRS z) H
theorem w_revS {te : TE} {R : It → Hp → Prop} (h : te σ H (revK R)) : RS.iRevS te σ H R := h
theorem w_revI {R : It → Hp → Prop} {l : List Nat} (hl : l.length ≤ 100000) (q : R (Itg (fun _ => True) l.length (fun i H x H' => H' = H ∧ (l.map sg)[l.length - 1 - i]? = some x)) H) : revK R (.str (S l)) H :=
  ⟨S l, rfl, by rw [S_len]; exact sz hl, q⟩
/-! ### bits -/
theorem bor_nat (a b : Nat) : Builtin.bitOr (a : Int) (b : Int) = ((a ||| b : Nat) : Int) := by
  have e1 : Builtin.bitNot (a : Int) = -(a : Int) - 1 := rfl
  have e2 : Builtin.bitNot (b : Int) = -(b : Int) - 1 := rfl
  unfold Builtin.bitOr
  rw [e1, e2]
  unfold Builtin.bitAnd
  rw [decide_eq_false (show ¬ (0 : Int) ≤ -(a : Int) - 1 by omega), decide_eq_false (show ¬ (0 : Int) ≤ -(b : Int) - 1 by omega)]
  show Builtin.bitNot (Builtin.bitNot (((Builtin.bitNot (-(a : Int) - 1)).toNat ||| (Builtin.bitNot (-(b : Int) - 1)).toNat : Nat) : Int)) = _
  have e3 : ∀ n : Nat, (Builtin.bitNot (-(n : Int) - 1)).toNat = n := fun n => by show (-(-(n : Int) - 1) - 1).toNat = n; omega
  rw [e3, e3]
  show -(-((a ||| b : Nat) : Int) - 1) - 1 = _
  omega
theorem band_nat (a b : Nat) : Builtin.bitAnd (a : Int) (b : Int) = ((a &&& b : Nat) : Int) := by
  unfold Builtin.bitAnd
  rw [decide_eq_true (show (0 : Int) ≤ (a : Int) by omega), decide_eq_true (show (0 : Int) ≤ (b : Int) by omega)]
  rfl
theorem band_neg {s : Nat} (h : 0 < s) : Builtin.bitAnd (s : Int) (-(s : Int)) = ((s - (s &&& (s - 1)) : Nat) : Int) := by
  unfold Builtin.bitAnd
  rw [decide_eq_true (show (0 : Int) ≤ (s : Int) by omega), decide_eq_false (show ¬ (0 : Int) ≤ -(s : Int) by omega)]
  show (s : Int) - ((Int.toNat (s : Int) &&& (Builtin.bitNot (-(s : Int))).toNat : Nat) : Int) = _
  have e : (Builtin.bitNot (-(s : Int))).toNat = s - 1 := by show (-(-(s : Int)) - 1).toNat = s - 1; omega
  have e2 : Int.toNat (s : Int) = s := by omega
  have : s &&& (s - 1) ≤ s := Nat.and_le_left
  rw [e, e2]
  omega
theorem bits_pow (k : Nat) : (Builtin.Int.intBits ((2 ^ k : Nat) : Int) : Nat) = k + 1 := by
  unfold Builtin.Int.intBits
  have hp : 0 < 2 ^ k := Nat.pow_pos (by decide)
  have h0 : ¬ 2 ^ k = 0 := by omega
  simp [Nat.log2_two_pow]
  exact_mod_cast h0
theorem bits_le {s N : Nat} (h : s < 2 ^ N) : (Builtin.Int.intBits (s : Int) : Nat) ≤ N := by
  unfold Builtin.Int.intBits
  by_cases h0 : s = 0
  · subst h0; simp
  · have := (Nat.log2_lt h0).mpr h
    simp
    split <;> omega
theorem w_shlN {s j N : Nat} (h : s < 2 ^ N) (hN : N + j ≤ 100000) (q : Q (.int ((s <<< j : Nat) : Int)) H) : rShlU (.int (s : Int)) (.int (j : Int)) H Q := by
  refine ⟨_, _, rfl, rfl, ⟨by omega, ?_⟩, ?_⟩
  · have := bits_le h
    omega
  · have e : ((s <<< j : Nat) : Int) = (s : Int) * 2 ^ ((j : Int)).toNat := by rw [Nat.shiftLeft_eq]; push_cast; rw [show ((j : Int)).toNat = j by omega]
    show Q (.int ((s : Int) * 2 ^ ((j : Int)).toNat)) H
    rw [← e]; exact q
theorem w_ipshlN {s j N : Nat} (h : s < 2 ^ N) (hN : N + j ≤ 100000) (q : Q (.int ((s <<< j : Nat) : Int)) H) : ipShlU (.int (s : Int)) (.int (j : Int)) H Q := w_shlN h hN q
theorem w_iporN {s t : Nat} (q : Q (.int ((s ||| t : Nat) : Int)) H) : ipOrU (.int (s : Int)) (.int (t : Int)) H Q := ⟨_, _, rfl, rfl, by show Q (.int (Builtin.bitOr (s : Int) (t : Int))) H; rw [bor_nat]; exact q⟩
theorem w_ipshrN {s : Nat} (q : Q (.int ((s >>> 1 : Nat) : Int)) H) : ipShrU (.int (s : Int)) (.int 1) H Q := ⟨_, _, rfl, rfl, (by show (0 : Int) ≤ 1; decide), by
  have e : ((s >>> 1 : Nat) : Int) = (s : Int) / 2 ^ ((1 : Int)).toNat := by rw [Nat.shiftRight_eq_div_pow]; push_cast; rfl
  show Q (.int ((s : Int) / 2 ^ ((1 : Int)).toNat)) H
  rw [← e]; exact q⟩
theorem w_and1 {s : Nat} (q : Q (.int ((s % 2 : Nat) : Int)) H) : rAndU (.int (s : Int)) (.int 1) H Q := ⟨_, _, rfl, rfl, by
  have := band_nat s 1
  rw [Nat.and_one_is_mod] at this
  show Q (.int (Builtin.bitAnd (s : Int) ((1 : Nat) : Int))) H
  rw [this]; exact q⟩
theorem w_ipmul2 {s : Nat} (h : s < 2 ^ 60) (q : Q (.int ((2 * s : Nat) : Int)) H) : ipMulU K (.int (s : Int)) (.int 2) H Q := ⟨_, _, rfl, rfl, by
  first
  | exact ⟨by omega, by omega⟩
  | exact .inl ⟨by omega, by omega⟩, by
  have e : ((2 * s : Nat) : Int) = (s : Int) * 2 := by push_cast; omega
  show Q (.int ((s : Int) * 2)) H
  rw [← e]; exact q⟩
end
end MA
/-! ZG: defs where no repr is under way around them. -/
namespace MA
open PySem PySem.Spec PyProof.Rows L2
/-- a def's promise, asked where nothing is being shown -/
structure FnG (P : Program) (w : World) (K : PySem.W.Frag) (mg : Str → Option Value) (bs : Heap) (CX : CXT) (n : Nat) (f : Addr) (fd : FuncData) (ps : List Str) (sp : Sp) : Prop where
  ln : ∀ vs H Q E, sp vs H Q E → vs.length = ps.length
  go : ∀ (A : Around) (fr : List PySem.Env) (t : Shared) (H : Hp) (args : Args) (us : List Value) (vs : List V) (Q : VK) (E : XK), Room n A → A.guards = some [] → Env0 P w K mg bs A fr t H → BindsTo t fd args (ps.zip us) → Vals vs us → sp vs H Q E →
    codeAny (model P w) A (.call (.ref f) args) (CR CX fr P w H t Q E) t
section
variable {P : Program} {w : World} {K : PySem.W.Frag} {mg : Str → Option Value} {bs : Heap} {CX : CXT} {n : Nat} {f : Addr} {fd : FuncData} {ps ks : List Str} {sp : Sp}
/-- how a call's end lies for the caller -/
def EndG (X : Cx) (pins : List (Addr × Obj)) (σ : L2.St) (Q : VK) : Result → Shared → Prop
  | .ok (.ret u), t' => EP X pins σ Q u t'
  | .ok _, _ => False
  | .error e, t' => X.xe e t'
theorem cr_ep {X : Cx} {pins : List (Addr × Obj)} {σ : L2.St} {H : Hp} {t t' : Shared} {Q : VK} {E : XK} {r : Result} (hx : Passes CX X E) (I : Inv X pins σ H t) (h : CR CX X.stack X.prog X.w H t Q E r t') : EndG X pins σ Q r t' := by
  cases r with
  | error e => exact hx pins σ H t e t' I h
  | ok fl => cases fl <;> first | exact I.after h | exact h.elim
theorem FnG.runP {X : Cx} {pins : List (Addr × Obj)} {σ : L2.St} {H : Hp} {t : Shared} {Q : VK} {E : XK} {us ds : List Value} {vs dvs : List V} (F : FnG X.prog X.w X.K X.mg X.base CX n f fd ps sp) (hr : Room n X.A) (hg : X.A.guards = some []) (hb : Binds X.K fd ps ds) (hd : Vals dvs ds) (hx : Passes CX X E)
    (I : Inv X pins σ H t) (r : Vals vs us) (h : sp (vs ++ dvs) H Q E) : wpAny (model X.prog X.w) X.A (call (.ref f) us) (EP X pins σ Q) X.xe t := by
  have rr : Vals (vs ++ dvs) (us ++ ds) := r.append hd
  have hl : (us ++ ds).length = ps.length := rr.length.symm.trans (F.ln _ _ _ _ h)
  refine wpAny_call (codeAny_mono (F.go X.A X.stack t H ⟨us, []⟩ (us ++ ds) (vs ++ dvs) Q E hr hg I.env0 (hb t us I.kIn hl) rr h) fun z t' q => ?_)
  have q' := cr_ep hx I q
  cases z with
  | error e => exact q'
  | ok fl => cases fl <;> first | exact q' | exact q'.elim
theorem pe_callG {X : Cx} {E : XK} {x : Str} {p pos : Pos} {e : Expr} {es : List Expr} {t : TA} {dvs : List V} {ds : List Value} (F : FnG X.prog X.w X.K X.mg X.base CX n f fd ps sp) (hr : Room n X.A) (hgd : X.A.guards = some []) (hg : Gl X x) (hm : X.mg x = some (.ref f))
    (hk : PySem.W.keepIn X.K (.ref f) = true) (hb : Binds X.K fd ps ds) (hd : Vals dvs ds) (hx : Passes CX X E) (ha : PA X (e :: es) t) (h1 : (x == ("__debug__" : Str)) = false := by decide)
    (h2 : starEach (e :: es) X.env = (false, eval e X.env) :: starEach es X.env := by rfl) (h3 : (backTo pos (starEach es X.env)).any (·.1) = false := by rfl) : PE X (.Call (.Name x p) (e :: es) [] pos) (tCall sp dvs E t) where
  run := fun pins t0 σ H Q I h => wpAny_Call_Name_kw (ld_glob I hg hm (PySem.W.callWith_K (h₀ := X.base) I.ok.mod.kin hk (thn (ha.run pos pins t0 σ H _ I h) fun _ _ ⟨_, _, I1, r, q⟩ => ⟨I1.kIn, F.runP hr hgd hb hd hx I1 r q⟩) h2 h3) h1)
theorem pe_callG0 {X : Cx} {E : XK} {x : Str} {p pos : Pos} {dvs : List V} {ds : List Value} (F : FnG X.prog X.w X.K X.mg X.base CX n f fd ps sp) (hr : Room n X.A) (hgd : X.A.guards = some []) (hg : Gl X x) (hm : X.mg x = some (.ref f))
    (hk : PySem.W.keepIn X.K (.ref f) = true) (hb : Binds X.K fd ps ds) (hd : Vals dvs ds) (hx : Passes CX X E) (h1 : (x == ("__debug__" : Str)) = false := by decide) : PE X (.Call (.Name x p) [] [] pos) (tCall sp dvs E tNil) where
  run := fun pins t0 σ H Q I h => wpAny_Call_Name_kw (ld_glob I hg hm (PySem.W.callWith_K0 I.kIn hk (F.runP (us := []) hr hgd hb hd hx I .nil h)) h1)
/-- a def by its body -/
theorem fnG_of {name qual : Str} {params : Arguments} {body : List Stmt} {scope : Scope} {dV kV doc pm cdv ct oc : Value} {an od : Option Addr} {osl : Array (Option Value)} {N : List Str}
    (lk : K.lookup f = some ⟨oc, od, .func (PySem.W.fnOf name qual params body scope dV kV doc pm an cdv ct), osl⟩) (hcd : PySem.W.codeIn K cdv qual = true) (S : FnScope N ps scope) (len : ∀ vs H Q E, sp vs H Q E → vs.length = ps.length)
    (hbody : ∀ (A : Around) (fr : List PySem.Env) (t : Shared) (H : Hp) (vs : List V) (Q : VK) (E : XK), Room n (A.deeper (envOfC qual scope t.heap.objs.size f cdv)) → A.guards = some [] → sp vs H Q E →
      ∃ tr, PSs (cxOf CX P w K mg bs N qual scope f cdv A fr t H E) body tr ∧ tr { nx := fun _ H' => Q .non H', rt := Q } (L2.start N vs) H) :
    FnG P w K mg bs CX (n + 1) f (PySem.W.fnOf name qual params body scope dV kV doc pm an cdv ct) ps sp where
  ln := len
  go := fun A fr t H args us vs Q E hr hgd e0 hb r hs => by
    have kin : K.In t.heap := e0.mod.kin.keeps fun b o e => (e0.bs b o e).1
    have nol : t.heap.NoLimit := e0.mod.nolimit.keeps fun b o e => (e0.bs b o e).1
    have vis : ∀ y ∈ ps.zip us, scope.names.lookup y.1 = some .local ∨ (scope.names.lookup y.1 = some .cell ∧ ((cellsFrom (t.heap.objs.size + 1) scope.names []).lookup y.1).isSome = true) := by
      rintro ⟨y, v⟩ hy
      exact (S.par y (List.of_mem_zip hy).1).imp id fun z => ⟨z, PySem.W.cellsFrom_some _ _ _ (.inl z)⟩
    refine codeAny_call_function hr.depth (kin _ _ lk) rfl S.co S.gen rfl (PySem.W.codeRec_of kin hcd) (hb _ _ _ _ (wpAny_newFunctionEnv_cells S.kind vis fun env he t1 x => ?_))
    subst he
    obtain ⟨tr, ht, hq⟩ := hbody A fr t H vs Q E (hr.deeper _) hgd hs
    have I0 := inv_start (CX := CX) (P := P) (w := w) (mg := mg) (base := bs) (qual := qual) (f := f) (cd := cdv) (E := E) S hr.hd e0 (len _ _ _ _ hs) r x
    refine ⟨nol.keeps x.toInCall.keep, codeAny_func (wpAny_mono (ht.run [] t1 _ H _ I0 hq) (fun fl t' z => ?_) fun _ _ z => z)⟩
    match fl, z with
    | .ret u, ⟨v, _, H', J, rv, q⟩ => exact ⟨v, H', J.os, J.bare, J.base, J.hok, rv, q⟩
    | .next, ⟨_, H', J, q⟩ => exact ⟨.non, H', J.os, J.bare, J.base, J.hok, rfl, q⟩
    | .brk, ⟨_, _, _, q⟩ => exact q.elim
    | .cont, ⟨_, _, _, q⟩ => exact q.elim
theorem okG {x qual : Str} {st : Stmt} {N : List Str} (F : Fun K x qual st f fd) (S : FnScope N ps (defScope st)) (len : ∀ vs H Q E, sp vs H Q E → vs.length = ps.length)
    (hbody : ∀ (cdv : Value) (A : Around) (fr : List PySem.Env) (t : Shared) (H : Hp) (vs : List V) (Q : VK) (E : XK), Room n (A.deeper (envOfC qual (defScope st) t.heap.objs.size f cdv)) → A.guards = some [] → sp vs H Q E →
      ∃ tr, PSs (cxOf CX0 P w K mg bs N qual (defScope st) f cdv A fr t H E).nox (defBody st) tr ∧ tr { nx := fun _ H' => Q .non H', rt := Q } (L2.start N vs) H) : FnG P w K mg bs CX0 (n + 1) f fd ps sp := by
  obtain ⟨_, _, _, _, _, _, cdv, _, _, rfl, lk, hcd⟩ := F.ex
  refine fnG_of lk hcd S len fun A fr t H vs Q E hr hgd hs => ?_
  obtain ⟨tr, h, q⟩ := hbody cdv A fr t H vs Q E hr hgd hs
  exact ⟨tr, h.nox, q⟩
end
/-! ### the law's call -/
section
variable {P : Program} {w : World} {K : PySem.W.Frag} {mg mb : Str → Option Value} {n : Nat} {fa a : Addr} {fd : FuncData} {x : Str} {sp : Sp} {t : Shared} {vs : List Value} {ns : List Int}
/-- over a heap of which the script alone may be known -/
theorem law_one {H : Hp} (kin : K.In t.heap) (hns : t.heap.Ns mainGlobals mg) (hb : t.heap.Ns builtinsNs mb) (hbb : ∀ y : Str, y ≠ "__name__" → mb y = bootBuiltins y) (lim : t.heap.NoLimit) (gn : t.gens = #[])
    (ha : t.heap.get? a = some { cls := .type "list", data := .seq vs.toArray }) (hr : Room n callerA) (F : ∀ bs : Heap, K.In bs → bs.Ns mainGlobals mg → FnG P w K mg bs CX0 n fa fd [x] sp)
    (bnd : ∀ (s : Shared) (u : Value), BindsTo s fd ⟨[u], []⟩ [(x, u)]) (hO : Only H) (hs : sp [.ref a] H (fun v _ => v = .bl true) fun _ _ _ => False) (hok : HOk P w H t.heap) (only : ∀ b, H b ≠ none → b = a) (hk : H a ≠ none → K.lookup a = none) :
    codeAny (model P w) callerA (.call (.ref fa) ⟨[.ref a], []⟩) (fun r t' => r = .ok (.ret (.bool true)) ∧ OldK t.heap t'.heap ∧ t'.os = t.os ∧ AllBare t'.gens) t := by
  have free : ∀ {b : Addr}, b ≠ a → H b = none := fun {b} hn => by
    cases e : H b with
    | none => rfl
    | some u => exact absurd (only b (by rw [e]; exact Option.some_ne_none _)) hn
  have keepNs : ∀ {b : Addr} {m : Str → Option Value}, t.heap.Ns b m → (hidT t.heap H).Ns b m := by
    rintro b m ⟨o, es, ep, e, d, r⟩
    refine ⟨o, es, ep, hidT_get e (free fun z => ?_), d, r⟩
    rw [z, ha] at e
    cases e
    cases (show Data.seq vs.toArray _ = Data.dict es ep from d)
  have kinB : K.In (hidT t.heap H) := fun b o e => hidT_get (kin b o e) (by
    by_cases hn : b = a
    · cases e2 : H b with
      | none => rfl
      | some u => rw [hn] at e e2; rw [hk (by rw [e2]; exact Option.some_ne_none _)] at e; cases e
    · exact free hn)
  have md : Mod K mg (hidT t.heap H) := ⟨kinB, keepNs hns, ⟨mb, keepNs hb, hbb⟩, by obtain ⟨mc, h1, h2⟩ := lim; exact ⟨mc, keepNs h1, h2⟩⟩
  have env : Env0 P w K mg (hidT t.heap H) callerA [] t H := { frames := rfl, mod := md, bs := fun _ _ e => of_hidT e, bsz := Nat.le_of_eq (hidT_size _ _), funs := trivial, frf := (fun _ z => nomatch z), hok := hok, bare := .of_eq gn }
  refine codeAny_mono ((F _ kinB (keepNs hns)).go callerA [] t H _ [.ref a] [.ref a] _ _ hr rfl env (bnd t (.ref a)) (.cons rfl .nil) hs) fun r t' z => ?_
  match r, z with
  | .ok (.ret u), ⟨v, H', os, bare, un, ok', rv, q⟩ =>
    cases (show v = V.bl true from q)
    cases (show u = Value.bool true from rv)
    refine ⟨rfl, OldK.of_keep fun b o e => ?_, os, bare⟩
    rcases hO b with z | ⟨ob, ys, z⟩
    · exact un.keep b o e z (fun y => nomatch y) (fun y => nomatch y)
    · have e1 := (hok b _ z).1
      have e2 := (ok' b _ (un.frzs b ob _ z)).1
      rw [e] at e1
      cases e1
      exact e2
theorem law_callG (kin : K.In t.heap) (hns : t.heap.Ns mainGlobals mg) (hb : t.heap.Ns builtinsNs mb) (hbb : ∀ y : Str, y ≠ "__name__" → mb y = bootBuiltins y) (lim : t.heap.NoLimit) (gn : t.gens = #[])
    (ha : t.heap.get? a = some { cls := .type "list", data := .seq vs.toArray }) (hi : IntsAre vs ns) (hl : ns.length ≤ sizeLine) (hr : Room n callerA) (F : ∀ bs : Heap, K.In bs → bs.Ns mainGlobals mg → FnG P w K mg bs CX0 n fa fd [x] sp)
    (bnd : ∀ (s : Shared) (u : Value), BindsTo s fd ⟨[u], []⟩ [(x, u)]) (hs : ∀ H : Hp, SqL K H a (ns.map V.int) → sp [.ref a] H (fun v _ => v = .bl true) fun _ _ _ => False) :
    codeAny (model P w) callerA (.call (.ref fa) ⟨[.ref a], []⟩) (fun r t' => r = .ok (.ret (.bool true)) ∧ OldK t.heap t'.heap ∧ t'.os = t.os ∧ AllBare t'.gens) t := by
  have rv := vals_ints hi
  have lv := hi.length
  by_cases hk : K.lookup a = none
  · let o : Obj := { cls := .type "list", data := .seq vs.toArray }
    let H : Hp := fun b => if b = a then some (.frz o (.lst (ns.map V.int))) else none
    have at_a : H a = some (.frz o (.lst (ns.map V.int))) := if_pos rfl
    have off : ∀ b, b ≠ a → H b = none := fun b hn => if_neg hn
    refine law_one (H := H) kin hns hb hbb lim gn ha hr F bnd (fun b => ?_) (hs H (.inl (.inr ⟨o, at_a⟩))) (fun b u z => ?_) (fun b z => ?_) fun _ => hk
    · by_cases hn : b = a
      · exact .inr ⟨_, _, by rw [hn]; exact at_a⟩
      · exact .inl (off b hn)
    · by_cases hn : b = a
      · subst hn
        rw [at_a] at z
        cases z
        exact ⟨ha, by rw [List.length_map]; exact hl, vs, _, rv, ha⟩
      · rw [off b hn] at z; cases z
    · by_cases hn : b = a
      · exact hn
      · exact absurd (off b hn) z
  · obtain ⟨o, ho⟩ : ∃ o, K.lookup a = some o := by
      cases e : K.lookup a with
      | none => exact absurd e hk
      | some o => exact ⟨o, rfl⟩
    have e := kin a o ho
    rw [ha] at e
    cases e
    exact law_one (H := fun _ => none) kin hns hb hbb lim gn ha hr F bnd (fun _ => .inl rfl) (hs _ (.inr ⟨_, vs.toArray, _, ho, rfl, rfl, rfl, by rw [List.size_toArray, lv]; exact hl, by simpa using rv⟩)) (fun _ _ z => nomatch z) (fun _ z => absurd rfl z) fun z => absurd rfl z
end
/-- what k_head leaves, from the law's promise -/
theorem walkG {l : PySem.W.OpenLaw} {m n : Nat} {q : Program} {loose : List Str} {XP : (Str → Option Value) → Heap → Prop} {YP : World → Heap → Prop} {d : DefRec} {K : Params → PySem.W.Frag} {sp : World → Sp} {x : Str}
    (h1 : l.most = some m) (h2 : m ≤ sizeLine) (h3 : d.params.defaults = []) (hr : Room n callerA) (hY : ∀ (w : World) (h : Heap), YP w h → (K w.params).In h)
    (F : ∀ (w : World) (mg : Str → Option Value) (fa : Addr) (h : Heap), (K w.params).In h → h.Ns mainGlobals mg → mg d.name = some (.ref fa) →
      ∃ fd : FuncData, (∀ (s : Shared) (u : Value), BindsTo s fd ⟨[u], []⟩ [(x, u)]) ∧ ∀ bs : Heap, (K w.params).In bs → bs.Ns mainGlobals mg → FnG l.prog w (K w.params) mg bs CX0 n fa fd [x] (sp w))
    (hs : ∀ (w : World) (H : Hp) (a : Addr) (ns : List Int), ns.length ≤ m → SqL (K w.params) H a (ns.map V.int) → sp w [.ref a] H (fun v _ => v = .bl true) fun _ _ _ => False) :
    PySem.W.WalkO q loose XP YP l.row.toRowW d [] (fun f vs => PySem.call f vs) := by
  refine Att.attach_call h1 h3 fun w _ t mg mb fa _ _ _ _ a vs ns G Y _ _ _ hmg hobj hints hlen gn => ?_
  obtain ⟨fd, bnd, hF⟩ := F w mg fa _ (hY w _ Y) G.T.g hmg
  exact law_callG (hY w _ Y) G.T.g G.T.b G.T.builtins G.T.nolimit gn hobj hints (Nat.le_trans hlen h2) hr hF bnd fun H hS => hs w H a ns hlen hS
end MA
/-! ZH: what is laid out over several targets: tuples and lists, with a star too. -/
namespace MA
open PySem PySem.Spec PyProof.Rows L2
theorem tuit_slot : Slot "tuple_iterator" "__iter__" "tuple_iterator.__iter__" := Slot.of (owner := "tuple_iterator") (n := "__iter__") (by rw [typeLookup_type, builtinLookup_eq_fast]; kernel_rfl) (by decide +kernel) (by decide +kernel) (by decide +kernel) (by first | exact .inl (by decide +kernel) | exact .inr (by decide +kernel)) (by rw [isSubtype_type]; kernel_rfl)
theorem tuit_entry : entryFor table "tuple_iterator.__iter__" = some Builtin.«dict_keyiterator.__iter__» := entryFor_alias (id' := "dict_keyiterator.__iter__") (by kernel_rfl) rfl (by decide +kernel) (by kernel_rfl)
theorem tuit_args (a : Value) : argsOk "tuple_iterator.__iter__" ⟨[a], []⟩ := by unfold argsOk; kernel_rfl
section
variable {prog : Program} {w : World} {A : Around} {E : Value → Shared → Prop} {s : Shared}
theorem tuit_self {it l : Addr} {i : Nat} {Q : Value → Shared → Prop} (hit : IsTupIter s.heap it l i) (h : Q (.ref it) s) : wpAny (model prog w) A (pyIter (.ref it)) Q E s := by
  refine wpAny_pyIter_slot hit.typeIs tuit_slot (wpAny_call_entry tuit_slot hit.typeIs tuit_entry ?_ (tuit_args _))
  show wpAny _ _ (ret (.ref it)) _ _ s
  exact wpAny_pure ⟨_, rfl, "tuple_iterator", _, hit.typeIs, slot_tupleiter_next.lookup, h⟩
def AtT (items : Array Value) (it t : Addr) (i : Nat) (s : Shared) : Prop := i ≤ items.size ∧ IsTupIter s.heap it t i ∧ IsTup s.heap t items
def AtL (items : Array Value) (it t : Addr) (i : Nat) (s : Shared) : Prop := i ≤ items.size ∧ s.heap.IsListIter it t i ∧ s.heap.IsList t items
abbrev Wk (prog : Program) (w : World) (A : Around) (items : Array Value) (it t : Addr) (St : Nat → Shared → Prop) : Prop := WalksS prog w A it [it, t] [it] (fun a b => a = b) items.size (fun i v => items[i]? = some v) St
theorem walkT (hh : A.handled = none) {it t : Addr} {items : Array Value} (hne : t ≠ it) : Wk prog w A items it t (AtT items it t) where
  sub := fun b h => by simp only [List.mem_singleton] at h; subst h; simp
  grefl := fun _ => rfl
  gtrans := fun _ _ _ h1 h2 => h1.trans h2
  frame := fun i s h' tk ⟨hi, ⟨o, e1, r1⟩, ⟨o', e2, r2⟩⟩ _ hk => ⟨hi, ⟨o, hk _ (by simp) _ e1, r1⟩, ⟨o', hk _ (by simp) _ e2, r2⟩⟩
  item := fun i s Q E hi ⟨_, hit, ht⟩ hQ => next_tuple_item hit ht (x := items[i]'hi) (Array.getElem?_eq_getElem _) fun h' hit' hs =>
    hQ _ _ (Array.getElem?_eq_getElem _) ⟨hi, hit', ht.extBut hs.extBut hne⟩ ⟨fun b o hb e => hs.extBut b o (by simpa using hb) e, rfl, rfl, rfl, Nat.le_refl _⟩
  done := fun s Q E ⟨_, hit, ht⟩ hQ => next_tuple_end hh hit ht (by simp) fun h' hs =>
    hQ _ ⟨fun b o hb e => hs b o (by simpa using hb) e, rfl, rfl, rfl, Nat.le_refl _⟩
  self := fun i s Q E ⟨_, hit, _⟩ hQ => tuit_self hit hQ
theorem walkL (hh : A.handled = none) {it t : Addr} {items : Array Value} (hne : t ≠ it) : Wk prog w A items it t (AtL items it t) where
  sub := fun b h => by simp only [List.mem_singleton] at h; subst h; simp
  grefl := fun _ => rfl
  gtrans := fun _ _ _ h1 h2 => h1.trans h2
  frame := fun i s h' tk ⟨hi, ⟨o, e1, r1⟩, ⟨o', e2, r2⟩⟩ _ hk => ⟨hi, ⟨o, hk _ (by simp) _ e1, r1⟩, ⟨o', hk _ (by simp) _ e2, r2⟩⟩
  item := fun i s Q E hi ⟨_, hit, ht⟩ hQ => wpAny_pyNext_list_item hit ht (x := items[i]'hi) (Array.getElem?_eq_getElem _) fun h' hit' hs =>
    hQ _ _ (Array.getElem?_eq_getElem _) ⟨hi, hit', ht.extBut hs.extBut hne⟩ ⟨fun b o hb e => hs.extBut b o (by simpa using hb) e, rfl, rfl, rfl, Nat.le_refl _⟩
  done := fun s Q E ⟨_, hit, ht⟩ hQ => wpAny_pyNext_list_end hh hit ht (by simp) fun h' hs =>
    hQ _ ⟨fun b o hb e => hs b o (by simpa using hb) e, rfl, rfl, rfl, Nat.le_refl _⟩
  self := fun i s Q E ⟨_, hit, _⟩ hQ => wpAny_pyIter_listiter hit hQ
theorem Wk.shift {items : Array Value} {it t : Addr} {St : Nat → Shared → Prop} (W : Wk prog w A items it t St) (k : Nat) (hk : k ≤ items.size) :
    WalksS prog w A it [it, t] [it] (fun a b => a = b) (items.size - k) (fun i v => items[k + i]? = some v) (fun i s => St (k + i) s) where
  sub := W.sub
  grefl := W.grefl
  gtrans := W.gtrans
  frame := fun i s h' tk st => W.frame (k + i) s h' tk st
  item := fun i s Q E hi st hQ => W.item (k + i) s Q E (by omega) st hQ
  done := fun s Q E st hQ => W.done s Q E (by have : k + (items.size - k) = items.size := by omega
                                              rw [this] at st; exact st) hQ
  self := fun i s Q E st hQ => W.self (k + i) s Q E st hQ
theorem drawW {items : Array Value} {it t : Addr} {St : Nat → Shared → Prop} (W : Wk prog w A items it t St) : ∀ (n i : Nat) (s : Shared) (Q : List Value → Shared → Prop), i + n ≤ items.size → St i s →
    (∀ s', Moved [it] (fun a b => a = b) s s' → St (i + n) s' → Q ((items.toList.drop i).take n) s') → wpAny (model prog w) A (draw (.ref it) n) Q E s
  | 0, i, s, Q, _, st, hQ => by
    unfold draw
    exact wpAny_pure (by simpa using hQ s (Moved.refl fun _ => rfl) st)
  | n + 1, i, s, Q, hl, st, hQ => by
    unfold draw
    refine wpAny_bind (W.item i s _ _ (by omega) st fun v s1 hv st1 m1 => ?_)
    refine wpAny_bind (wpAny_holding (drawW W n (i + 1) s1 _ (by omega) st1 fun s2 m2 st2 => wpAny_pure ?_))
    have e : v :: (items.toList.drop (i + 1)).take n = (items.toList.drop i).take (n + 1) := by
      have hi : i < items.toList.length := by rw [Array.length_toList]; omega
      rw [List.drop_eq_getElem_cons hi, List.take_succ_cons]
      have : items[i]? = some (items.toList[i]) := by rw [← Array.getElem?_toList, List.getElem?_eq_getElem hi]
      rw [hv] at this
      cases this
      rfl
    rw [e]
    exact hQ s2 (m1.trans (fun _ _ _ h1 h2 => h1.trans h2) m2) (by rw [show i + (n + 1) = i + 1 + n by omega]; exact st2)
/-- a thing whose walk is known -/
structure Laid (prog : Program) (w : World) (A : Around) (s : Shared) (v : Value) (items : Array Value) : Prop where
  yes : ∀ (Q : Bool → Shared → Prop) (E : Value → Shared → Prop), Q false s → wpAny (model prog w) A (notIterableAtAll v) Q E s
  go : ∀ (Q : Value → Shared → Prop) (E : Value → Shared → Prop), (∀ (it t : Addr) (T : String) (St : Nat → Shared → Prop) (s1 : Shared), Wk prog w A items it t St → Wk prog w A.in1 items it t St → (T = "list_iterator" ∨ T = "tuple_iterator") → (∀ i s, St i s → s.TypeIs (.ref it) T) → St 0 s1 → t < it → it = s.heap.objs.size → it < s1.heap.objs.size → (∀ b o, s.heap.get? b = some o → s1.heap.get? b = some o) → s1 = { s with heap := s1.heap } → (∀ i s, St i s → it < s.heap.objs.size ∧ t < s.heap.objs.size) → Q (.ref it) s1) → wpAny (model prog w) A (pyIter v) Q E s
theorem laidT (hh : A.handled = none) {t : Addr} {items : Array Value} (ht : IsTup s.heap t items) : Laid prog w A s (.ref t) items where
  yes := fun Q E q => by
    unfold notIterableAtAll
    exact wpAny_bind (wpAny_specialOf ht.typeIs slot_tuple_iter.lookup (wpAny_pure q))
  go := fun Q E q => by
    have hlt : t < s.heap.objs.size := ht.lt
    refine iter_tuple ht (q s.heap.objs.size t "tuple_iterator" (AtT items s.heap.objs.size t) _ (walkT hh (Nat.ne_of_lt hlt)) (walkT (A := A.in1) hh (Nat.ne_of_lt hlt)) (.inr rfl) (fun i s h => h.2.1.typeIs) ⟨Nat.zero_le _, ⟨_, Heap.get?_push_size _ rfl, rfl, rfl⟩, ht.push _⟩ hlt rfl ?_ (fun b o e => Heap.get?_push_of_some _ e) rfl ?_)
    · exact Heap.lt_size (Heap.get?_push_size s.heap (o := { cls := .type "tuple_iterator", data := .fields #[.ref t, .int 0 0] }) rfl)
    · rintro i s ⟨_, ⟨o, ho, _⟩, ⟨o', ho', _⟩⟩
      exact ⟨Heap.lt_size ho, Heap.lt_size ho'⟩
theorem laidL (hh : A.handled = none) {t : Addr} {items : Array Value} (ht : s.heap.IsList t items) : Laid prog w A s (.ref t) items where
  yes := fun Q E q => by
    unfold notIterableAtAll
    exact wpAny_bind (wpAny_specialOf ht.typeIs slot_list_iter.lookup (wpAny_pure q))
  go := fun Q E q => by
    have hlt : t < s.heap.objs.size := by obtain ⟨o, ho, _⟩ := ht; exact Heap.lt_size ho
    refine wpAny_pyIter_list ht (q s.heap.objs.size t "list_iterator" (AtL items s.heap.objs.size t) _ (walkL hh (Nat.ne_of_lt hlt)) (walkL (A := A.in1) hh (Nat.ne_of_lt hlt)) (.inl rfl) (fun i s h => h.2.1.typeIs) ⟨Nat.zero_le _, ⟨_, Heap.get?_push_size _ rfl, rfl, rfl⟩, ht.push _⟩ hlt rfl ?_ (fun b o e => Heap.get?_push_of_some _ e) rfl ?_)
    · exact Heap.lt_size (Heap.get?_push_size s.heap (o := { cls := .type "list_iterator", data := .fields #[.ref t, .int 0 0] }) rfl)
    · rintro i s ⟨_, ⟨o, ho, _⟩, ⟨o', ho', _⟩⟩
      exact ⟨Heap.lt_size ho, Heap.lt_size ho'⟩
theorem same_of {s s' : Shared} (m2 : s.gens = s'.gens) (m3 : s'.drawn = s.drawn) (m4 : s'.os = s.os) : s' = { s with heap := s'.heap, toks := s'.toks } := by
  cases s'
  cases s
  simp only at m2 m3 m4 ⊢
  subst m2 m3 m4
  rfl
/-- all of it, over as many targets -/
theorem lo_all {v : Value} {items : Array Value} {Q : List Value → Shared → Prop} (L : Laid prog w A s v items)
    (hQ : ∀ h' tk, (∀ b o, s.heap.get? b = some o → h'.get? b = some o) → s.toks ≤ tk → Q items.toList { s with heap := h', toks := tk }) : wpAny (model prog w) A (unpackItems v items.size none) Q E s := by
  unfold unpackItems
  refine wpAny_bind (L.yes _ _ ?_)
  simp only [Bool.false_eq_true, if_false]
  refine wpAny_bind (wpAny_holding (L.go _ _ fun it t T St s1 W W1 hT hty st hlt hit hsz hk hs1 hpos => ?_))
  refine wpAny_bind (wpAny_holding (drawW W items.size 0 _ _ (by omega) st fun s2 m st2 => ?_))
  rw [List.drop_zero, List.take_of_length_le (by simp), if_neg (by simp)]
  rw [Nat.zero_add] at st2
  refine wpAny_bind (wpAny_holding (W.done _ _ _ st2 fun s3 m' => ?_))
  simp only [Option.isSome_none, Bool.false_eq_true, if_false]
  refine wpAny_pure ?_
  have mm := m.trans (fun _ _ _ h1 h2 => h1.trans h2) m'
  have e : s3 = { s with heap := s3.heap, toks := s3.toks } := by
    refine same_of ?_ ?_ ?_
    · rw [← mm.gens, hs1]
    · rw [mm.drawn, hs1]
    · rw [mm.os, hs1]
  rw [e]
  refine hQ _ _ (fun b o hb => mm.heap b o ?_ (hk b o hb)) ?_
  · rw [List.mem_singleton]
    exact Nat.ne_of_lt (hit ▸ Heap.lt_size hb)
  · have := mm.toks
    rw [hs1] at this
    exact this
/-- with one star among n targets, at place i -/
theorem lo_star {v : Value} {items : Array Value} {n i : Nat} {Q : List Value → Shared → Prop} (L : Laid prog w A s v items) (hi : i < n) (hn : n ≤ items.size + 1) (hz : items.size ≤ sizeLine)
    (hQ : ∀ (h' : Heap) tk, (∀ b o, s.heap.get? b = some o → h'.get? b = some o) → s.toks ≤ tk →
      Q (items.toList.take i ++ [.ref h'.objs.size] ++ items.toList.drop (i + (items.size + 1 - n))) { s with heap := h'.push { cls := .type "list", data := .seq ((items.toList.drop i).take (items.size + 1 - n)).toArray }, toks := tk }) :
    wpAny (model prog w) A (unpackItems v n (some i)) Q E s := by
  unfold unpackItems
  refine wpAny_bind (L.yes _ _ ?_)
  simp only [Bool.false_eq_true, if_false]
  refine wpAny_bind (wpAny_holding (L.go _ _ fun it t T St s1 W W1 hT hty st hlt hit hsz hk hs1 hpos => ?_))
  refine wpAny_bind (wpAny_holding (drawW W i 0 _ _ (by omega) st fun s2 m st2 => ?_))
  rw [List.drop_zero, if_neg (by simp; omega)]
  rw [Nat.zero_add] at st2
  refine wpAny_bind (wpAny_holding (wpAny_collect_iter (T := T) (hT.elim (fun e => .inr (.inr (.inl e))) fun e => .inr (.inr (.inr e))) (W1.shift i (by omega)) (fun j s h => hty _ _ h) st2 ?_ (by simp) (fun s' acc mv io => ?_) (by omega)))
  · intro b hb
    have := hpos _ _ st2
    simp only [List.mem_cons, List.mem_nil_iff, or_false] at hb
    rcases hb with rfl | rfl
    · exact this.1
    · exact this.2
  have hacc : acc.toList = items.toList.drop i := by
    refine List.ext_getElem? fun j => ?_
    rw [List.getElem?_drop, Array.getElem?_toList, Array.getElem?_toList]
    by_cases hj : j < acc.size
    · have := io.2 j _ (Array.getElem?_eq_getElem hj)
      rw [this, Array.getElem?_eq_getElem hj]
    · rw [Array.getElem?_eq_none_iff.mpr (by omega), Array.getElem?_eq_none_iff.mpr (by have := io.1; omega)]
  rw [hacc]
  have hl : (items.toList.drop i).length = items.size - i := by simp
  simp only [hl]
  rw [if_neg (by omega)]
  have e1 : items.size - i - (n - 1 - i) = items.size + 1 - n := by omega
  rw [e1]
  have mm := m.trans (fun _ _ _ h1 h2 => h1.trans h2) mv
  have e : s' = { s with heap := s'.heap, toks := s'.toks } := by
    refine same_of ?_ ?_ ?_
    · rw [← mm.gens, hs1]
    · rw [mm.drawn, hs1]
    · rw [mm.os, hs1]
  have hx : ∀ b o, s.heap.get? b = some o → s'.heap.get? b = some o := fun b o hb => mm.heap b o (by rw [List.mem_singleton]; exact Nat.ne_of_lt (hit ▸ Heap.lt_size hb)) (hk b o hb)
  have ht : s.toks ≤ s'.toks := by
    have := mm.toks
    rw [hs1] at this
    exact this
  have := hQ s'.heap s'.toks hx ht
  rw [List.drop_drop]
  refine wpAny_bind ?_
  simp only [newList]
  refine wpAny_newObj_type (wpAny_pure ?_) (Nat.le_trans (List.length_take_le _ _) (by omega))
  rw [e]
  exact this
theorem lo_go {env : PySem.Env} {elts : List Expr} {x1} {pos : Pos} {v : Value} {Q : Unit → Shared → Prop} (h : wpAny (model prog w) A (unpackItems v (assignEach elts env).length ((assignEach elts env).findIdx? (·.1))) (fun l s => wpAny (model prog w) A (assignInOrder ((assignEach elts env).map (·.2)) l) Q E s) E s) :
    wpAny (model prog w) A (assign (.Tuple elts x1 pos) env v) Q E s := by
  rw [assign_Tuple]
  refine wpAny_bind (wpAny_standAt ?_)
  unfold unpack
  exact wpAny_bind (wpAny_holding h)
end
section
variable {X : Cx} {pos : Pos}
/-- a, b = a tuple or a list of that length -/
def gSq (K : PySem.W.Frag) (n : Nat) (t : TGs) : TG := fun v σ H Q => ∃ a xs, v = .ref a ∧ (SqT K H a xs ∨ SqL K H a xs) ∧ xs.length = n ∧ t xs σ H Q
theorem pg_sq {es : List Expr} {k : Nat} {t : TGs} {n : Nat} (hc : X.calm = true) (h : PGs X es t)
    (hn : (assignEach es X.env).length = n := by rfl) (hst : (assignEach es X.env).findIdx? (·.1) = none := by rfl) : PG X (.Tuple es k pos) (gSq X.K n t) := by
  refine ⟨fun pins s σ H v u Q I r hw => ?_⟩
  obtain ⟨a, xs, e1, hq, hl, hw⟩ := hw
  subst e1
  cases r
  refine lo_go ?_
  rw [hst, hn]
  rcases hq with hq | hq
  · obtain ⟨its, rv, ht, hz⟩ := I.tuple hq
    have en : n = its.toArray.size := by rw [List.size_toArray, ← hl, rv.length]
    rw [en]
    refine lo_all (laidT (I.ok.hd hc) ht) fun h' tk hk _ => ?_
    exact h.run pins _ σ H xs _ Q (I.kept (t' := tk) hk) rv hw
  · obtain ⟨its, rv, ⟨o, m, ho, hcl, _, hd⟩, hz⟩ := I.list hq
    have en : n = its.toArray.size := by rw [List.size_toArray, ← hl, rv.length]
    rw [en]
    refine lo_all (laidL (I.ok.hd hc) ⟨o, ho, hcl, m, hd⟩) fun h' tk hk _ => ?_
    exact h.run pins _ σ H xs _ Q (I.kept (t' := tk) hk) rv hw
theorem pgs_star {e : Expr} {p : Pos} {es : List Expr} {t : TG} {u : TGs} (h1 : PG X e t) (h2 : PGs X es u)
    (hs : (assignEach (.Starred e p :: es) X.env).map (·.2) = assign e X.env :: (assignEach es X.env).map (·.2) := by rfl) : PGs X (.Starred e p :: es) (gCons t u) := by
  refine ⟨fun pins s σ H vs us Q I r ⟨v, vr, e1, h⟩ => ?_⟩
  subst e1
  cases r with
  | cons r rr =>
    rw [hs]
    exact assignInOrder_cons (thn (h1.run pins s σ H _ _ _ I r h) fun _ s1 ⟨σ1, H1, I1, q1⟩ => h2.run pins s1 σ1 H1 _ _ Q I1 rr q1)
/-- n targets, one with a star, at place i -/
def gStar (K : PySem.W.Frag) (n i : Nat) (t : TGs) : TG := fun v σ H Q => ∃ a xs, v = .ref a ∧ (SqT K H a xs ∨ SqL K H a xs) ∧ n ≤ xs.length + 1 ∧ ∀ p, H p = none → t (xs.take i ++ [.ref p] ++ xs.drop (i + (xs.length + 1 - n))) σ (upd H p (.lst ((xs.drop i).take (xs.length + 1 - n)))) Q
theorem Vals.takeV {xs : List V} {us : List Value} (h : Vals xs us) (n : Nat) : Vals (xs.take n) (us.take n) := by
  induction h generalizing n with
  | nil => rw [List.take_nil, List.take_nil]; exact .nil
  | cons h t ih => cases n with
    | zero => exact .nil
    | succ n => exact .cons h (ih n)
theorem Vals.dropV {xs : List V} {us : List Value} (h : Vals xs us) (n : Nat) : Vals (xs.drop n) (us.drop n) := by
  induction h generalizing n with
  | nil => rw [List.drop_nil, List.drop_nil]; exact .nil
  | cons h t ih => cases n with
    | zero => exact .cons h t
    | succ n => exact ih n
theorem Vals.appV {xs ys : List V} {us vs : List Value} (h : Vals xs us) (h2 : Vals ys vs) : Vals (xs ++ ys) (us ++ vs) := by
  induction h with
  | nil => exact h2
  | cons h t ih => exact .cons h ih
theorem pg_star {es : List Expr} {k : Nat} {t : TGs} {n i : Nat} (hc : X.calm = true) (hi : i < n) (h : PGs X es t)
    (hn : (assignEach es X.env).length = n := by rfl) (hst : (assignEach es X.env).findIdx? (·.1) = some i := by rfl) : PG X (.Tuple es k pos) (gStar X.K n i t) := by
  refine ⟨fun pins s σ H v u Q I r hw => ?_⟩
  obtain ⟨a, xs, e1, hq, hl, hw⟩ := hw
  subst e1
  cases r
  refine lo_go ?_
  rw [hst, hn]
  have fin : ∀ (its : List Value), Vals xs its → xs.length ≤ sizeLine → Laid X.prog X.w X.A s (.ref a) its.toArray → wpAny (model X.prog X.w) X.A (unpackItems (.ref a) n (some i)) (fun l s => wpAny (model X.prog X.w) X.A (assignInOrder ((assignEach es X.env).map (·.2)) l) (fun _ s' => ∃ σ' H', Inv X pins σ' H' s' ∧ Q σ' H') X.xe s) X.xe s := fun its rv hz L => by
    have el : its.toArray.size = xs.length := by rw [List.size_toArray, rv.length]
    refine lo_star L hi (by rw [el]; exact hl) (by rw [el]; exact hz) fun h' tk hk _ => ?_
    have I1 : Inv X pins σ H { s with heap := h', toks := tk } := I.kept (t' := tk) hk
    have hf : H h'.objs.size = none := I1.hok.fresh (Nat.le_refl _)
    have I2 := I1.laid (a := h'.objs.size) (o := .lst ((xs.drop i).take (xs.length + 1 - n))) (t' := tk) (h' := h'.push { cls := .type "list", data := .seq ((its.toArray.toList.drop i).take (its.toArray.size + 1 - n)).toArray }) (fun b u e => Heap.get?_push_of_some _ e) (Nat.le_refl _) ⟨by rw [List.length_take, List.length_drop]; omega, (its.drop i).take (xs.length + 1 - n), 0, Vals.takeV (Vals.dropV rv i) _, by rw [el]; exact Heap.get?_push_size _ rfl⟩
    refine h.run pins _ σ _ _ _ Q I2 ?_ (hw _ hf)
    rw [el]
    exact Vals.appV (Vals.appV (Vals.takeV rv i) (.cons rfl .nil)) (Vals.dropV rv _)
  rcases hq with hq | hq
  · obtain ⟨its, rv, ht, hz⟩ := I.tuple hq
    exact fin its rv hz (laidT (I.ok.hd hc) ht)
  · obtain ⟨its, rv, ⟨o, m, ho, hcl, _, hd⟩, hz⟩ := I.list hq
    exact fin its rv hz (laidL (I.ok.hd hc) ⟨o, ho, hcl, m, hd⟩)
end
end MA
/-! ZK: calls by the parameters' names. -/
namespace MA
open PySem PySem.Spec PyProof.Rows L2
/-- the parameters' values: places among those by place and, behind them, those by name -/
def byIx (ix : List Nat) (us ws : List Value) : List Value := ix.map fun i => (us ++ ws).getD i .none
def byIxV (ix : List Nat) (vs zs : List V) : List V := ix.map fun i => (vs ++ zs).getD i .non
theorem Vals.getDV {xs : List V} {us : List Value} (h : Vals xs us) : ∀ i : Nat, RelV (xs.getD i .non) (us.getD i .none) := by
  induction h with
  | nil => intro i; exact rfl
  | cons h t ih => intro i; cases i with
    | zero => exact h
    | succ i => exact ih i
theorem byIx_rel {vs zs : List V} {us ws : List Value} (r1 : Vals vs us) (r2 : Vals zs ws) : ∀ ix : List Nat, Vals (byIxV ix vs zs) (byIx ix us ws)
  | [] => .nil
  | i :: ix => .cons (Vals.getDV (Vals.appV r1 r2) i) (byIx_rel r1 r2 ix)
section
variable {P : Program} {w : World} {K : PySem.W.Frag} {mg : Str → Option Value} {bs : Heap} {CX : CXT} {n k : Nat} {f : Addr} {fd : FuncData} {ps ks : List Str} {sp : Sp} {ix : List Nat}
theorem kb_mk {x qual : Str} {st : Stmt} (F : Fun K x qual st f fd)
    (h : ∀ (kV doc pm : Value) (an : Option Addr) (cdv ct : Value) (us ws : List Value), us.length = n → ws.length = ks.length → bindArgs (PySem.W.fnOf x qual (defArgs st) (defBody st) (defScope st) .none kV doc pm an cdv ct) ⟨us, ks.zip ws⟩ = pure (ps.zip (byIx ix us ws))) : KBn K fd ps n ks (byIx ix) (byIxV ix) := by
  obtain ⟨oc, od, kV, doc, pm, an, cdv, ct, osl, rfl, lk, hcd⟩ := F.ex
  exact ⟨fun s us ws X l1 l2 => .of_eq (h kV doc pm an cdv ct us ws l1 l2), fun r1 r2 => byIx_rel r1 r2 ix⟩
variable {X : Cx} {E : XK} {x : Str} {p pos : Pos} {e : Expr} {es : List Expr} {kws : List Keyword} {t tk : TA} {g : List Value → List Value → List Value} {gV : List V → List V → List V}
theorem FnG.runK {pins : List (Addr × Obj)} {σ : L2.St} {H : Hp} {t : Shared} {Q : VK} {us ws : List Value} {vs zs : List V} (F : FnG X.prog X.w X.K X.mg X.base CX k f fd ps sp) (hr : Room k X.A) (hg : X.A.guards = some []) (hb : KBn X.K fd ps n ks g gV) (hx : Passes CX X E)
    (I : Inv X pins σ H t) (r : Vals vs us) (rz : Vals zs ws) (l1 : vs.length = n) (l2 : zs.length = ks.length) (h : sp (gV vs zs) H Q E) : wpAny (model X.prog X.w) X.A (call (.ref f) us (ks.zip ws)) (EP X pins σ Q) X.xe t := by
  refine wpAny_call (codeAny_mono (F.go X.A X.stack t H ⟨us, ks.zip ws⟩ (g us ws) (gV vs zs) Q E hr hg I.env0 (hb.to t us ws I.kIn (r.length.symm.trans l1) (rz.length.symm.trans l2)) (hb.rel r rz) h) fun z t' q => ?_)
  have q' := cr_ep hx I q
  cases z with
  | error e => exact q'
  | ok fl => cases fl <;> first | exact q' | exact q'.elim
theorem pe_callNG (F : FnG X.prog X.w X.K X.mg X.base CX k f fd ps sp) (hr : Room k X.A) (hgd : X.A.guards = some []) (hg : Gl X x) (hm : X.mg x = some (.ref f)) (hk : PySem.W.keepIn X.K (.ref f) = true) (hb : KBn X.K fd ps n ks g gV) (hx : Passes CX X E)
    (ha : PA X (e :: es) t) (hkw : PK X kws tk) (q1 : (backToKw pos (keywordEach kws X.env)).all (·.1.isSome) = true := by rfl) (q2 : (backToKw pos (keywordEach kws X.env)).filterMap (·.1) = ks := by rfl)
    (q3 : (x == ("__debug__" : Str)) = false := by decide) (q4 : starEach (e :: es) X.env = (false, eval e X.env) :: starEach es X.env := by rfl)
    (q5 : ((backTo pos (starEach (e :: es) X.env)).any (·.1) || (backToKw pos (keywordEach kws X.env)).any (·.1.isNone)) = false := by rfl) :
    PE X (.Call (.Name x p) (e :: es) kws pos) (tCallN n ks.length sp gV E t tk) where
  run := fun pins s σ H Q I h => by
    refine wpAny_Call_Name_kw (ld_glob I hg hm (PySem.W.callWith_KW (h₀ := X.base) I.ok.mod.kin hk q1 (thn (ha.run pos pins s σ H _ I h) fun us s1 ⟨vs, H1, I1, r, q⟩ => ?_) q5 q4) q3)
    refine thn (hkw.run pos pins s1 σ H1 _ I1 q) fun ws s2 ⟨zs, H2, I2, rz, l1, l2, q'⟩ => ⟨I2.kIn, ?_⟩
    rw [q2]
    exact F.runK hr hgd hb hx I2 r rz l1 l2 q'
theorem pe_callNG0 (F : FnG X.prog X.w X.K X.mg X.base CX k f fd ps sp) (hr : Room k X.A) (hgd : X.A.guards = some []) (hg : Gl X x) (hm : X.mg x = some (.ref f)) (hk : PySem.W.keepIn X.K (.ref f) = true) (hb : KBn X.K fd ps 0 ks g gV) (hx : Passes CX X E)
    (hkw : PK X kws tk) (q1 : (backToKw pos (keywordEach kws X.env)).all (·.1.isSome) = true := by rfl) (q2 : (backToKw pos (keywordEach kws X.env)).filterMap (·.1) = ks := by rfl)
    (q3 : (x == ("__debug__" : Str)) = false := by decide) (q5 : ((backTo pos (starEach [] X.env)).any (·.1) || (backToKw pos (keywordEach kws X.env)).any (·.1.isNone)) = false := by rfl) :
    PE X (.Call (.Name x p) [] kws pos) (tCallN 0 ks.length sp gV E tNil tk) where
  run := fun pins s σ H Q I h => by
    refine wpAny_Call_Name_kw (ld_glob I hg hm (PySem.W.callWith_KW0 (h₀ := X.base) I.ok.mod.kin hk q1 ?_ q5) q3)
    refine thn (hkw.run pos pins s σ H _ I h) fun ws s2 ⟨zs, H2, I2, rz, l1, l2, q'⟩ => ⟨I2.kIn, ?_⟩
    rw [q2]
    exact F.runK (us := []) (vs := []) hr hgd hb hx I2 .nil rz rfl l2 q'
theorem pe_callN0 (F : FnOk X.prog X.w X.K X.mg X.base CX k f fd ps sp) (hr : Room k X.A) (hg : Gl X x) (hm : X.mg x = some (.ref f)) (hk : PySem.W.keepIn X.K (.ref f) = true) (hb : KBn X.K fd ps 0 ks g gV) (hx : Passes CX X E)
    (hkw : PK X kws tk) (q1 : (backToKw pos (keywordEach kws X.env)).all (·.1.isSome) = true := by rfl) (q2 : (backToKw pos (keywordEach kws X.env)).filterMap (·.1) = ks := by rfl)
    (q3 : (x == ("__debug__" : Str)) = false := by decide) (q5 : ((backTo pos (starEach [] X.env)).any (·.1) || (backToKw pos (keywordEach kws X.env)).any (·.1.isNone)) = false := by rfl) :
    PE X (.Call (.Name x p) [] kws pos) (tCallN 0 ks.length sp gV E tNil tk) where
  run := fun pins s σ H Q I h => by
    refine wpAny_Call_Name_kw (ld_glob I hg hm (PySem.W.callWith_KW0 (h₀ := X.base) I.ok.mod.kin hk q1 ?_ q5) q3)
    refine thn (hkw.run pos pins s σ H _ I h) fun ws s2 ⟨zs, H2, I2, rz, l1, l2, q'⟩ => ⟨I2.kIn, ?_⟩
    rw [q2]
    exact run_fnN (us := []) (vs := []) F hr hb hx I2 .nil rz rfl l2 q'
end
end MA
/-! MI: int(t, 2); sum. -/
namespace MA
open PySem PySem.Spec PyProof.Rows L2 SX
namespace Bn
open PySem.NumText PySem.Calls L2.Hx
def IsBin (c : Nat) : Prop := c = 48 ∨ c = 49
def binNum (l : List Nat) : Nat := l.foldl (fun a c => a * 2 + (c - 48)) 0
theorem hex {c : Nat} (h : IsBin c) : IsHex c := by unfold IsBin at h; unfold IsHex; omega
theorem hv_bin {c : Nat} (h : IsBin c) : hv c = c - 48 := by
  rcases h with rfl | rfl <;> rfl
theorem step_bin {ds : Array Nat} {b : Bool} {c : Nat} (h : IsBin c) : PySem.NumText.step 2 (ds, b) c = some (ds.push (c - 48), true) := by
  rcases h with rfl | rfl <;> rfl
theorem foldl_bin : ∀ (cs : List Nat) (ds : Array Nat), (∀ c ∈ cs, IsBin c) → cs.foldlM (PySem.NumText.step 2) (ds, true) = some (cs.foldl (fun acc c => acc.push (c - 48)) ds, true)
  | [], _, _ => rfl
  | c :: cs, ds, h => by
    rw [List.foldlM_cons, step_bin (h c (List.mem_cons_self ..))]
    exact foldl_bin cs (ds.push (c - 48)) fun d hd => h d (List.mem_cons_of_mem _ hd)
theorem digits_bin {cs : List Nat} (h : ∀ c ∈ cs, IsBin c) (hne : cs ≠ []) : digits? 2 cs = some (cs.foldl (fun acc c => acc.push (c - 48)) #[]) := by
  cases cs with
  | nil => exact absurd rfl hne
  | cons c cs =>
    unfold digits?
    rw [List.foldlM_cons, step_bin (h c (List.mem_cons_self ..))]
    show (cs.foldlM (PySem.NumText.step 2) ((#[] : Array Nat).push (c - 48), true)).bind _ = _
    rw [foldl_bin cs _ fun d hd => h d (List.mem_cons_of_mem _ hd)]
    rfl
theorem push_bin : ∀ (cs : List Nat) (ds : Array Nat), (cs.foldl (fun acc c => acc.push (c - 48)) ds).foldl (fun acc d => acc * 2 + d) 0 = cs.foldl (fun a c => a * 2 + (c - 48)) (ds.foldl (fun acc d => acc * 2 + d) 0)
  | [], _ => rfl
  | c :: cs, ds => by
    rw [List.foldl_cons, push_bin cs (ds.push (c - 48)), List.foldl_cons]
    congr 1
    simp
theorem based_bin {cs : List Nat} (h : ∀ c ∈ cs, IsBin c) : based 2 cs = (2, false, cs) := by
  match cs, h with
  | [], _ => rfl
  | [a], h => rcases h a (List.mem_cons_self ..) with rfl | rfl <;> rfl
  | a :: c :: r, h =>
    rcases h a (List.mem_cons_self ..) with rfl | rfl <;> rcases h c (List.mem_cons_of_mem _ (List.mem_cons_self ..)) with rfl | rfl <;> rfl
theorem read_bin {cs : List Nat} (h : ∀ c ∈ cs, IsBin c) (hne : cs ≠ []) : (int_private% "readNumeral") 0 2 cs = (int_private% "Numeral.value") ((binNum cs : Nat) : Int) := by
  have hx : ∀ c ∈ cs, IsHex c := fun c m => hex (h c m)
  have hr : ∀ c ∈ cs.reverse, IsHex c := fun c hc => hx c (List.mem_reverse.mp hc)
  refine (readNumeral_eq 0 2 cs).trans ?_
  rw [dropB hx, signH hx]
  show judge 0 false (based 2 cs).1 (based 2 cs).2.1 (digits? (based 2 cs).1 (((based 2 cs).2.2.reverse.dropWhile blank).reverse)) = _
  rw [based_bin h]
  show judge 0 false 2 false (digits? 2 ((cs.reverse.dropWhile blank).reverse)) = _
  rw [dropB hr, List.reverse_reverse, digits_bin h hne]
  show (int_private% "Numeral.value") (((cs.foldl (fun acc c => acc.push (c - 48)) (#[] : Array Nat)).foldl (fun acc d => acc * 2 + d) 0 : Nat) : Int) = _
  have z : (#[] : Array Nat).foldl (fun acc d => acc * 2 + d) 0 = 0 := by first | rfl | simp
  rw [push_bin, z] <;> rfl
set_option maxHeartbeats 4000000 in
theorem gives_bin {x : PySem.Str} {u t : Tok} (hl : x.length ≤ 640) (h : ∀ c ∈ x.cps.toList, IsBin c) (hne : x.cps.toList ≠ []) :
    Gives (Builtin.«int.__new__» ⟨[.type "int", .str x u, .int 2 t], []⟩) (.int ((binNum x.cps.toList : Nat) : Int)) :=
  .of_wp fun M A E s Q hQ => by
    obtain ⟨hp, g, d, tk, os⟩ := s
    have f1 := F.conv_sub_int
    have f2 := F.madeHere_int
    have f6 : typeOf (.str x u) = pure (.type "str") := rfl
    obtain ⟨e1, e2⟩ := seen_hex fun c m => hex (h c m)
    have hk : Hid ((numSeenOf x).length ≤ 640 ∧ (int_private% "readNumeral") 0 2 (numSeenOf x) = (int_private% "Numeral.value") ((binNum x.cps.toList : Nat) : Int) ∧ ((numSeenOf x).length == (numTextOf x).length) = true) := by
      refine ⟨?_, ?_, ?_⟩
      · rw [e2, Array.length_toList]; exact hl
      · rw [e2]; exact read_bin h hne
      · rw [e1, e2]; exact beq_self_eq_true _
    clear e1 e2 hl hne h
    repeat (any_goals (first
      | assumption
      | ((with_reducible show wpAny _ _ ((int_private% "intFromText") _ _ _) _ _ _); refine wp_textB hk.out.1 hk.out.2.1 hk.out.2.2 ?_)
      | wp_step))
    all_goals first | exact ⟨_, rfl, hQ⟩ | skip
theorem call_bin {prog : Program} {w : World} {A : Around} {E : Value → Shared → Prop} {s : Shared} {Q : Value → Shared → Prop} {x : PySem.Str} {u t : Tok} (hl : x.length ≤ 640) (h : ∀ c ∈ x.cps.toList, IsBin c) (hne : x.cps.toList ≠ [])
    (hQ : Q (.int ((binNum x.cps.toList : Nat) : Int) s.toks) { s with toks := s.toks + 1 }) : wpAny (model prog w) A (call (.type "int") [.str x u, .int 2 t]) Q E s :=
  callType_new F.called_int F.newNe_int (typeCall_int_2 _ _) (newCall_int_2 _ _) (fun obj => F.initArgs_range_2 obj _ _) F.entry_int_new (gives_bin hl h hne).meets (show (Made.int ((binNum x.cps.toList : Nat) : Int)).post _ s from ⟨rfl, hQ⟩)
end Bn
/-- int(t, 2) -/
def rIntBin : List V → Hp → VK → Prop := fun xs H Q => ∃ l : List Nat, xs = [.str (SX.S l), .int 2] ∧ l ≠ [] ∧ l.length ≤ 640 ∧ (∀ c ∈ l, Bn.IsBin c) ∧ Q (.int ((Bn.binNum l : Nat) : Int)) H
theorem call_int_bin {X : Cx} : CallR X (.type "int") rIntBin := by
  intro pins s σ H xs us Q I r h
  obtain ⟨l, rfl, hne, hl, hx, q⟩ := h
  obtain ⟨u, w', rfl, r1, r2⟩ := vals2 r
  obtain ⟨t1, rfl⟩ := r1
  obtain ⟨t2, rfl⟩ := r2
  exact Bn.call_bin (x := SX.S l) (by rw [SX.S_len]; exact hl) hx hne ⟨.int ((Bn.binNum l : Nat) : Int), H, I.tok _, ⟨_, rfl⟩, q⟩
/-- sum of a tuple of numbers -/
def rSumT (K : PySem.W.Frag) : List V → Hp → VK → Prop := fun vs H Q => ∃ (a : Addr) (ns : List Int), vs = [V.ref a] ∧ SqT K H a (ns.map V.int) ∧ Q (.int ns.sum) H
theorem cr_sumT {X : Cx} (hc : X.calm = true) : CallR X (.builtin "sum") (rSumT X.K) := by
  intro pins s σ H vs us Q I r h
  obtain ⟨a, ns, rfl, hs, q⟩ := h
  obtain ⟨its, rv, hl, _⟩ := I.tuple hs
  rw [Vals.ref1 r]
  have hi := rv.ints
  obtain ⟨xs, e⟩ := hi.allInts.items
  have hn : numsOf (intItems xs).toList = ns := by rw [← e]; exact hi.numsOf
  rw [nums_intItems] at hn
  have hl' : s.heap.IsTuple a its.toArray := hl
  rw [e] at hl'
  refine PySem.W.ktm_sumG (I.ok.hd hc) hl' fun h' tk t' hk => ⟨.int _, H, I.kept hk, ?_, q⟩
  rw [preSum_eq, List.take_of_length_le (by simp), hn]
  exact ⟨_, rfl⟩
def rSumU (K : PySem.W.Frag) : List V → Hp → VK → Prop := fun vs H Q => rSum K vs H Q ∨ rSumT K vs H Q
theorem u_sum {X : Cx} (hc : X.calm = true) : CallR X (.builtin "sum") (rSumU X.K) := (cr_sum hc).or (cr_sumT hc)
end MA
/-! MJ: sorted: numbers, tuples of numbers, any number of them. -/
namespace MA
open PySem PySem.Spec PyProof.Rows L2 SX
namespace So
open SrtO Srt
section
variable {prog : Program} {w : World} {A : Around} {E : Value → Shared → Prop} {s : Shared}
theorem lex_kat {P : Bool → Prop} : ∀ (ns ms : List Int) (xs ys : List Value) (i : Nat), IntsAre xs ns → IntsAre ys ms → ns.length = ms.length → P (HT.lexLt ns ms) → PySem.W.KatLex prog w A true false (fun r s' => s' = s ∧ P r) (xs.zip ys) i s
  | [], [], _, _, i, .nil, .nil, _, h => PySem.W.kat_nil ⟨rfl, h⟩
  | n :: ns, m :: ms, _, _, i, .cons _ t r1, .cons _ u r2, hl, h => by
    refine PySem.W.kat_cons (SeqAt.EqAt.int_int n t m u prog w _ _ ?_)
    rw [HT.lexLt_cons] at h
    refine PySem.W.kat_go (fun e1 => ?_) (fun e1 => ?_)
    · have ex : n = m := by simpa using e1
      rw [if_pos ex] at h
      exact PySem.W.kat_yes (lex_kat ns ms _ _ (i + 1) r1 r2 (by simpa using hl) h)
    · have ex : ¬ n = m := by simpa using e1
      rw [if_neg ex] at h
      exact PySem.W.kat_no (TS.oneLt_ints _ ⟨rfl, h⟩)
theorem tups_cmp {vs : List Value} {d : Nat} {k : Value → List Int} (hp : ∀ v ∈ vs, TS.TupInts s.heap v (k v) ∧ (k v).length = d) : Cmp prog w A s (tuples' true) (fun p => p.1 ∈ vs) (lt2 fun v u => HT.lexLt (k v) (k u)) := by
  intro p q hm hm'
  obtain ⟨⟨a, xs, e, ⟨o, ho, hc, n, hd⟩, i1⟩, l1⟩ := hp _ hm
  obtain ⟨⟨a', xs', e', ⟨o', ho', hc', n', hd'⟩, i2⟩, l2⟩ := hp _ hm'
  show wpAny (model prog w) A (keyLt' (tuples' true) p.1 q.1) (fun r s' => s' = s ∧ r = HT.lexLt (k p.1) (k q.1)) (fun _ _ => False) s
  generalize k p.1 = kp at i1 l1 ⊢
  generalize k q.1 = kq at i2 l2 ⊢
  rw [e, e']
  refine PySem.W.kat_lt ho hd ho' hd' ?_
  have ef : decide (xs.size < xs'.size) = false := by
    have h1 := i1.length
    have h2 := i2.length
    rw [Array.length_toList] at h1 h2
    exact decide_eq_false (by omega)
  rw [ef]
  exact lex_kat (P := fun r => r = HT.lexLt kp kq) kp kq _ _ 0 i1 i2 (by omega) rfl
theorem tups_firsts {h : Heap} {d : Nat} {k : Value → List Int} (hd : 1 ≤ d) : ∀ vs : List Value, (∀ v ∈ vs, TS.TupInts h v (k v) ∧ (k v).length = d) → ∃ fs, PySem.W.KatTups h vs fs ∧ fs.length = vs.length ∧ ∀ f, f ∈ fs → ∃ n t, f = Value.int n t
  | [], _ => ⟨[], PySem.W.KatTups.nil, rfl, fun f hf => nomatch hf⟩
  | v :: vs, x => by
    obtain ⟨fs, kt, hl, hi⟩ := tups_firsts hd vs fun u hu => x u (List.mem_cons_of_mem _ hu)
    obtain ⟨⟨a, xs, rfl, ⟨o, ho, hc, n, hdt⟩, i⟩, hn⟩ := x v (List.mem_cons_self ..)
    generalize k (.ref a) = kv at i hn
    obtain ⟨y, ys, e⟩ : ∃ y ys, xs.toList = y :: ys := by
      cases q : xs.toList with
      | nil =>
        rw [q] at i
        have l := i.length
        rw [List.length_nil, hn] at l
        omega
      | cons y ys => exact ⟨y, ys, rfl⟩
    obtain ⟨m, t, hy⟩ := i.all y (by rw [e]; exact List.mem_cons_self ..)
    refine ⟨y :: fs, PySem.W.KatTups.cons ho hc hdt ?_ kt, by simp [hl], fun f hf => ?_⟩
    · rw [← Array.getElem?_toList, e]; rfl
    · rcases List.mem_cons.mp hf with rfl | hf
      · exact ⟨m, t, hy⟩
      · exact hi f hf
theorem tups_sortable {a : Addr} {vs : List Value} {d : Nat} {k : Value → List Int} (h0 : 0 < vs.length) (hd : 1 ≤ d) (hp : ∀ v ∈ vs, TS.TupInts s.heap v (k v) ∧ (k v).length = d) (ha : ∀ o, s.heap.get? a = some o → o.cls ≠ .type "tuple") :
    SortableO prog w A s a vs fun v u => HT.lexLt (k v) (k u) := by
  intro h' keep
  have hp' : ∀ v ∈ vs, TS.TupInts h' v (k v) ∧ (k v).length = d := fun v hm => ⟨(hp v hm).1.keeps fun b o e c => keep b o (fun z => by subst z; exact ha o e c) e, (hp v hm).2⟩
  obtain ⟨fs, h1, h2, h3⟩ := tups_firsts hd vs hp'
  refine ⟨tuples' true, fun Q E hq => ?_, tups_cmp hp'⟩
  refine PySem.W.kat_kind (T := .type "int") h1 (by omega) (fun f hm => ?_) (by rfl) ?_
  · obtain ⟨x, t, rfl⟩ := h3 f hm
    exact PySem.W.Looks.now
  · have e : (Value.type "int" != Value.type "tuple") = true := by first | decide +kernel | rfl | decide
    rw [e]
    exact hq
end
end So
/-- sorted(xs), xs tuples of so many numbers each, any number of them -/
def rSortTO (K : PySem.W.Frag) : List V → Hp → VK → Prop := fun vs H Q => ∃ (a : Addr) (xs : List V) (d : Nat), vs = [V.ref a] ∧ SqL K H a xs ∧ 1 ≤ d ∧ (∀ x ∈ xs, ∃ n, TupI K H x n ∧ n.length = d) ∧
  ∀ (k : V → List Int) (ys : List V) (p : Addr), (∀ x ∈ xs, ∀ n, TupI K H x n → k x = n) → ys.Perm xs → ys.Pairwise (fun x y => HT.lexLt (k y) (k x) = false) → H p = none → Q (.ref p) (upd H p (.lst ys))
theorem cr_sortTO {X : Cx} : CallR X (.builtin "sorted") (rSortTO X.K) := by
  intro pins s σ H vs us Q I r h
  obtain ⟨a, xs, d, rfl, hs, hd, hx0, q⟩ := h
  have inj : ∀ x n m, TupI X.K H x n → TupI X.K H x m → n = m := fun x n m h1 h2 => by
    obtain ⟨t, rfl, h1⟩ := h1
    obtain ⟨t', e, h2⟩ := h2
    cases e
    exact (List.map_inj_right fun a b e => V.int.inj e).mp (I.tuple_inj h1 h2)
  obtain ⟨k, hx⟩ : ∃ k : V → List Int, ∀ x ∈ xs, TupI X.K H x (k x) ∧ (k x).length = d := by
    classical
    refine ⟨fun x => if h : ∃ n, TupI X.K H x n ∧ n.length = d then h.choose else [], fun x m => ?_⟩
    have h := hx0 x m
    dsimp only
    rw [dif_pos h]
    exact h.choose_spec
  obtain ⟨its, rv, hl, hz⟩ := I.list hs
  rw [Vals.ref1 r]
  obtain ⟨e1, e2⟩ := bkV_refs rv fun x m => by
    obtain ⟨⟨t, e, _⟩, _⟩ := hx x m
    exact ⟨t, e⟩
  have hp : ∀ v ∈ its, TS.TupInts s.heap v (k (bkV v)) ∧ (k (bkV v)).length = d := fun v hv => by
    obtain ⟨t, rfl⟩ := e2 v hv
    have hm : V.ref t ∈ xs := by
      rw [e1]
      exact List.mem_map.mpr ⟨_, hv, rfl⟩
    obtain ⟨⟨t', e, ht⟩, hn⟩ := hx _ hm
    cases e
    exact ⟨tupI_raw I ht, hn⟩
  refine SrtO.sorted_ord (NtL.swo_lexL fun u => k (bkV u)) hl.isList (by rw [← rv.length]; exact hz) (fun h2 h₁ a' ha kk => ?_) fun out h1 h2 => ?_
  · refine So.tups_sortable (s := { s with heap := h₁ }) (by omega) hd (fun v hm => ⟨(hp v hm).1.keeps fun b o e _ => (kk b o e).2, (hp v hm).2⟩) fun o e => ?_
    have e' : some o = some (seqObj "list" its.toArray 0) := e.symm.trans ha
    cases e'
    intro c
    exact absurd (Value.type.inj c) (by decide)
  · obtain ⟨ep, he'⟩ := PyProof.Rows.sortedAll_at s.heap its out.toArray
    have h3 : ∀ u ∈ out, ∃ a, u = Value.ref a := fun u hu => e2 u (h2.perm.mem_iff.mp hu)
    have hpm : (out.map bkV).Perm xs := by
      rw [e1]
      exact h2.perm.map bkV
    have hlen : (out.map bkV).length ≤ sizeLine := by
      rw [hpm.length_eq]
      exact hz
    refine ⟨.ref _, upd H (s.heap.objs.size + 1) (.lst (out.map bkV)), I.laid (t' := s.toks) (fun _ _ => PyProof.Rows.sortedAll_old) (Nat.le_succ _) ⟨hlen, out, ep, bkV_vals h3, he'⟩, rfl, q k _ _ (fun x m n hn => inj x _ _ (hx x m).1 hn) hpm ?_ (I.hok.fresh (Nat.le_succ _))⟩
    rw [List.pairwise_map]
    exact h1
/-! pairs of a number and a text, no two numbers alike -/
namespace So
open SrtO Srt
def PrIS (h : Heap) (v : Value) (n : Int) (z : Str) : Prop := ∃ a xs t u, v = .ref a ∧ IsTup h a xs ∧ xs.toList = [Value.int n t, Value.str z u]
theorem PrIS.keeps {h h' : Heap} {v : Value} {n : Int} {z : Str} (x : PrIS h v n z) (k : ∀ b o, h.get? b = some o → o.cls = .type "tuple" → h'.get? b = some o) : PrIS h' v n z := by
  obtain ⟨a, xs, t, u, e, ⟨o, ho, hc, r⟩, el⟩ := x
  exact ⟨a, xs, t, u, e, ⟨o, k _ _ ho hc, hc, r⟩, el⟩
section
variable {prog : Program} {w : World} {A : Around} {E : Value → Shared → Prop} {s : Shared}
theorem prs_cmp {vs : List Value} {k : Value → Int} {z : Value → Str} (hp : ∀ v ∈ vs, PrIS s.heap v (k v) (z v)) (hi : ∀ v ∈ vs, ∀ u ∈ vs, k v = k u → z v = z u) : Cmp prog w A s (tuples' true) (fun p => p.1 ∈ vs) (lt2 fun v u => HT.lexLt [k v] [k u]) := by
  intro p q hm hm'
  have hz := hi _ hm _ hm'
  obtain ⟨a, xs, t, u, e, ⟨o, ho, hc, n, hd⟩, el⟩ := hp _ hm
  obtain ⟨a', xs', t', u', e', ⟨o', ho', hc', n', hd'⟩, el'⟩ := hp _ hm'
  show wpAny (model prog w) A (keyLt' (tuples' true) p.1 q.1) (fun r s' => s' = s ∧ r = HT.lexLt [k p.1] [k q.1]) (fun _ _ => False) s
  generalize k p.1 = kp at el hz ⊢
  generalize k q.1 = kq at el' hz ⊢
  generalize z p.1 = zp at el hz
  generalize z q.1 = zq at el' hz
  rw [e, e']
  refine PySem.W.kat_lt ho hd ho' hd' ?_
  have ef : decide (xs.size < xs'.size) = false := by
    have h1 := congrArg List.length el
    have h2 := congrArg List.length el'
    rw [Array.length_toList] at h1 h2
    rw [h1, h2]
    rfl
  rw [ef, el, el']
  refine PySem.W.kat_cons (SeqAt.EqAt.int_int kp t kq t' prog w _ _ ?_)
  refine PySem.W.kat_go (fun e1 => ?_) (fun e1 => ?_)
  · have ex : kp = kq := by simpa using e1
    have ez := hz ex
    subst ex ez
    refine PySem.W.kat_yes (PySem.W.kat_cons (SeqAt.EqAt.str_str zp u zp u' prog w _ _ ?_))
    refine PySem.W.kat_go (fun _ => PySem.W.kat_yes (PySem.W.kat_nil ⟨rfl, ?_⟩)) (fun e2 => by simp at e2)
    rw [HT.lexLt_cons, if_pos rfl]
    rfl
  · have ex : ¬ kp = kq := by simpa using e1
    refine PySem.W.kat_no (TS.oneLt_ints _ ⟨rfl, ?_⟩)
    rw [HT.lexLt_cons, if_neg ex]
theorem prs_firsts {h : Heap} {k : Value → Int} {z : Value → Str} : ∀ vs : List Value, (∀ v ∈ vs, PrIS h v (k v) (z v)) → ∃ fs, PySem.W.KatTups h vs fs ∧ fs.length = vs.length ∧ ∀ f, f ∈ fs → ∃ n t, f = Value.int n t
  | [], _ => ⟨[], PySem.W.KatTups.nil, rfl, fun f hf => nomatch hf⟩
  | v :: vs, x => by
    obtain ⟨fs, kt, hl, hi⟩ := prs_firsts vs fun u hu => x u (List.mem_cons_of_mem _ hu)
    obtain ⟨a, xs, t, u, rfl, ⟨o, ho, hc, n, hdt⟩, el⟩ := x v (List.mem_cons_self ..)
    refine ⟨Value.int (k (.ref a)) t :: fs, PySem.W.KatTups.cons ho hc hdt ?_ kt, by simp [hl], fun f hf => ?_⟩
    · rw [← Array.getElem?_toList, el]; rfl
    · rcases List.mem_cons.mp hf with rfl | hf
      · exact ⟨_, t, rfl⟩
      · exact hi f hf
theorem prs_sortable {a : Addr} {vs : List Value} {k : Value → Int} {z : Value → Str} (h0 : 0 < vs.length) (hp : ∀ v ∈ vs, PrIS s.heap v (k v) (z v)) (hi : ∀ v ∈ vs, ∀ u ∈ vs, k v = k u → z v = z u) (ha : ∀ o, s.heap.get? a = some o → o.cls ≠ .type "tuple") :
    SortableO prog w A s a vs fun v u => HT.lexLt [k v] [k u] := by
  intro h' keep
  have hp' : ∀ v ∈ vs, PrIS h' v (k v) (z v) := fun v hm => (hp v hm).keeps fun b o e c => keep b o (fun y => by subst y; exact ha o e c) e
  obtain ⟨fs, h1, h2, h3⟩ := prs_firsts vs hp'
  refine ⟨tuples' true, fun Q E hq => ?_, prs_cmp hp' hi⟩
  refine PySem.W.kat_kind (T := .type "int") h1 (by omega) (fun f hm => ?_) (by rfl) ?_
  · obtain ⟨x, t, rfl⟩ := h3 f hm
    exact PySem.W.Looks.now
  · have e : (Value.type "int" != Value.type "tuple") = true := by first | decide +kernel | rfl | decide
    rw [e]
    exact hq
end
end So
def PairIS (K : PySem.W.Frag) (H : Hp) (x : V) (n : Int) (z : Str) : Prop := ∃ t, x = .ref t ∧ SqT K H t [.int n, .str z]
def rSortPr (K : PySem.W.Frag) : List V → Hp → VK → Prop := fun vs H Q => ∃ (a : Addr) (xs : List V) (F : Int → Str), vs = [V.ref a] ∧ SqL K H a xs ∧ (∀ x ∈ xs, ∃ n, PairIS K H x n (F n)) ∧
  ∀ (k : V → Int) (ys : List V) (p : Addr), (∀ x ∈ xs, ∀ n w, PairIS K H x n w → k x = n) → ys.Perm xs → ys.Pairwise (fun x y => k x ≤ k y) → H p = none → Q (.ref p) (upd H p (.lst ys))
theorem cr_sortPr {X : Cx} : CallR X (.builtin "sorted") (rSortPr X.K) := by
  intro pins s σ H vs us Q I r h
  obtain ⟨a, xs, F, rfl, hs, hx0, q0⟩ := h
  have inj : ∀ x n z m w, PairIS X.K H x n z → PairIS X.K H x m w → n = m := fun x n z m w h1 h2 => by
    obtain ⟨t, rfl, h1⟩ := h1
    obtain ⟨t', e, h2⟩ := h2
    cases e
    have e := I.tuple_inj h1 h2
    cases e
    rfl
  obtain ⟨k, hx1⟩ : ∃ (k : V → Int), ∀ x ∈ xs, PairIS X.K H x (k x) (F (k x)) := by
    classical
    refine ⟨fun x => if h : ∃ n, PairIS X.K H x n (F n) then h.choose else 0, fun x m => ?_⟩
    have h := hx0 x m
    dsimp only
    rw [dif_pos h]
    exact h.choose_spec
  obtain ⟨z, hzF⟩ : ∃ z : V → Str, ∀ x, z x = F (k x) := ⟨fun x => F (k x), fun _ => rfl⟩
  have hx : ∀ x ∈ xs, PairIS X.K H x (k x) (z x) := fun x m => by rw [hzF]; exact hx1 x m
  have hin : ∀ x ∈ xs, ∀ y ∈ xs, k x = k y → z x = z y := fun x _ y _ e => by rw [hzF, hzF, e]
  have q : ∀ (ys : List V) (p : Addr), ys.Perm xs → ys.Pairwise (fun x y => k x ≤ k y) → H p = none → Q (.ref p) (upd H p (.lst ys)) := fun ys p h1 h2 h3 => q0 k ys p (fun x hxm n w hp => inj x _ _ _ _ (hx x hxm) hp) h1 h2 h3
  obtain ⟨its, rv, hl, hz⟩ := I.list hs
  rw [Vals.ref1 r]
  obtain ⟨e1, e2⟩ := bkV_refs rv fun x m => by
    obtain ⟨t, e, _⟩ := hx x m
    exact ⟨t, e⟩
  have mem : ∀ v ∈ its, bkV v ∈ xs := fun v hv => by rw [e1]; exact List.mem_map.mpr ⟨_, hv, rfl⟩
  have hp : ∀ v ∈ its, So.PrIS s.heap v (k (bkV v)) (z (bkV v)) := fun v hv => by
    obtain ⟨t', e, ht⟩ := hx _ (mem v hv)
    obtain ⟨t, rfl⟩ := e2 v hv
    cases e
    obtain ⟨us, ru, hT, _⟩ := I.tuple ht
    cases ru with
    | cons r1 ru => cases ru with
      | cons r2 ru =>
        cases ru
        obtain ⟨t1, rfl⟩ := r1
        obtain ⟨t2, rfl⟩ := r2
        exact ⟨_, _, t1, t2, rfl, hT, rfl⟩
  have hin' : ∀ v ∈ its, ∀ u ∈ its, k (bkV v) = k (bkV u) → z (bkV v) = z (bkV u) := fun v hv u hu => hin _ (mem v hv) _ (mem u hu)
  refine SrtO.sorted_ord (NtL.swo_lexL fun u => [k (bkV u)]) hl.isList (by rw [← rv.length]; exact hz) (fun h2 h₁ a' ha kk => ?_) fun out h1 h2 => ?_
  · refine So.prs_sortable (s := { s with heap := h₁ }) (by omega) (fun v hm => (hp v hm).keeps fun b o e _ => (kk b o e).2) hin' fun o e => ?_
    have e' : some o = some (seqObj "list" its.toArray 0) := e.symm.trans ha
    cases e'
    intro c
    exact absurd (Value.type.inj c) (by decide)
  · obtain ⟨ep, he'⟩ := PyProof.Rows.sortedAll_at s.heap its out.toArray
    have h3 : ∀ u ∈ out, ∃ a, u = Value.ref a := fun u hu => e2 u (h2.perm.mem_iff.mp hu)
    have hpm : (out.map bkV).Perm xs := by
      rw [e1]
      exact h2.perm.map bkV
    have hlen : (out.map bkV).length ≤ sizeLine := by
      rw [hpm.length_eq]
      exact hz
    refine ⟨.ref _, upd H (s.heap.objs.size + 1) (.lst (out.map bkV)), I.laid (t' := s.toks) (fun _ _ => PyProof.Rows.sortedAll_old) (Nat.le_succ _) ⟨hlen, out, ep, bkV_vals h3, he'⟩, rfl, q _ _ hpm ?_ (I.hok.fresh (Nat.le_succ _))⟩
    rw [List.pairwise_map]
    refine h1.imp fun {x y} hxy => ?_
    replace hxy : HT.lexLt [k (bkV y)] [k (bkV x)] = false := hxy
    rw [HT.lexLt_cons] at hxy
    by_cases e : k (bkV y) = k (bkV x)
    · omega
    · rw [if_neg e] at hxy
      have := of_decide_eq_false hxy
      omega
def rSortedU (K : PySem.W.Frag) : List V → Hp → VK → Prop := fun vs H Q => ((rSortedI K vs H Q ∨ rSortTO K vs H Q) ∨ rSortedS K vs H Q) ∨ rSortPr K vs H Q
theorem u_sorted {X : Cx} (hc : X.calm = true) : CallR X (.builtin "sorted") (rSortedU X.K) := ((cr_sortedI.or cr_sortTO).or cr_sortedS).or cr_sortPr
end MA
/-! MK: repr of lists and tuples. -/
namespace MA
open PySem PySem.Spec PyProof.Rows L2 SX
/-- repr(x) -/
def rRepr (K : PySem.W.Frag) : List V → Hp → VK → Prop := fun vs H Q => ∃ (a : Addr) (d : PyData), vs = [V.ref a] ∧ Dp K H (.ref a) d ∧ d.canLay0 = true ∧ d.showable = true ∧ d.depth ≤ 60 ∧ d.shown.length ≤ sizeLine ∧ Q (.str d.shown) H
theorem u_repr {X : Cx} (hu : X.A.units + 64 < cLine) (hg : X.A.guards = some []) : CallR X (.builtin "repr") (rRepr X.K) := by
  intro pins s σ H vs us Q I r h
  obtain ⟨a, d, rfl, hd, hc, hs, hp, hl, q⟩ := h
  rw [Vals.ref1 r]
  obtain ⟨as, rd⟩ := Dp.reads I d (.ref a) (.ref a) hd rfl
  exact repr_of_reads' rd hs (PyData.noDict_hsm (PyData.hasDict_of_canLay d hc)) hg (by omega) (fun _ _ e => e) (fun h' u tk hk => ⟨.str d.shown, H, I.kept hk, ⟨_, rfl⟩, q⟩) hl
end MA
/-! QA: data without a heap; what a reading comes to, as a plain function of data. -/
namespace MA
open PySem PySem.Spec PyProof.Rows L2 SX
/-- keys of dicts -/
abbrev DK := Int ⊕ List Nat
def dkey : DK → Key
  | .inl i => .inl i
  | .inr l => .inr (S l)
inductive D where
  | non | bl (b : Bool) | int (i : Int) | str (l : List Nat) | lst (l : List D) | tup (l : List D) | scr (l : List Int) | dic (ks : List DK) (vs : List D)
mutual
def R (K : PySem.W.Frag) (G : Hp) : D → V → Prop
  | .non, v => v = .non
  | .bl b, v => v = .bl b
  | .int i, v => v = .int i
  | .str l, v => v = .str (S l)
  | .lst ds, v => ∃ a xs, v = .ref a ∧ G a = some (.lst xs) ∧ RA K G ds xs
  | .tup ds, v => ∃ a xs, v = .ref a ∧ SqT K G a xs ∧ RA K G ds xs
  | .scr ns, v => ∃ a, v = .ref a ∧ SqL K G a (ns.map V.int)
  | .dic ks vs, v => ∃ a kvs, v = .ref a ∧ Rd G a (.dK kvs) ∧ kvs.map (·.1) = ks.map dkey ∧ RA K G vs (kvs.map (·.2))
def RA (K : PySem.W.Frag) (G : Hp) : List D → List V → Prop
  | [], xs => xs = []
  | d :: ds, xs => ∃ v r, xs = v :: r ∧ R K G d v ∧ RA K G ds r
end
mutual
theorem R_ex {K : PySem.W.Frag} {G G' : Hp} (e : Ex G G') : ∀ (d : D) (v : V), R K G d v → R K G' d v
  | .non, _, h => h
  | .bl _, _, h => h
  | .int _, _, h => h
  | .str _, _, h => h
  | .lst ds, _, h => by
    rw [R] at h ⊢
    obtain ⟨a, xs, rfl, h1, h2⟩ := h
    exact ⟨a, xs, rfl, e _ _ h1, RA_ex e ds xs h2⟩
  | .tup ds, _, h => by
    rw [R] at h ⊢
    obtain ⟨a, xs, rfl, h1, h2⟩ := h
    exact ⟨a, xs, rfl, st_ex e h1, RA_ex e ds xs h2⟩
  | .scr ns, _, h => by
    rw [R] at h ⊢
    obtain ⟨a, rfl, h1⟩ := h
    exact ⟨a, rfl, sq_ex e h1⟩
  | .dic ks vs, _, h => by
    rw [R] at h ⊢
    obtain ⟨a, kvs, rfl, h1, h2, h3⟩ := h
    exact ⟨a, kvs, rfl, h1.elim (fun h => .inl (e _ _ h)) (fun ⟨o, h⟩ => .inr ⟨o, e _ _ h⟩), h2, RA_ex e vs _ h3⟩
theorem RA_ex {K : PySem.W.Frag} {G G' : Hp} (e : Ex G G') : ∀ (ds : List D) (xs : List V), RA K G ds xs → RA K G' ds xs
  | [], _, h => h
  | d :: ds, _, h => by
    rw [RA] at h ⊢
    obtain ⟨v, r, rfl, h1, h2⟩ := h
    exact ⟨v, r, rfl, R_ex e d v h1, RA_ex e ds r h2⟩
end
section
variable {K : PySem.W.Frag} {G G' H : Hp} {L : List (Addr × HO)} {d e : D} {ds es : List D} {v : V} {xs ys : List V}
theorem RA.len : ∀ {ds : List D} {xs : List V}, RA K G ds xs → xs.length = ds.length
  | [], _, h => by rw [RA] at h; rw [h]; rfl
  | d :: ds, _, h => by
    rw [RA] at h
    obtain ⟨v, r, rfl, _, h2⟩ := h
    rw [List.length_cons, List.length_cons, h2.len]
theorem RA.nil : RA K G [] [] := by rw [RA]
theorem RA.cons (h : R K G d v) (t : RA K G ds xs) : RA K G (d :: ds) (v :: xs) := by rw [RA]; exact ⟨v, xs, rfl, h, t⟩
theorem RA.get : ∀ {ds : List D} {xs : List V} {i : Nat} {d : D}, RA K G ds xs → ds[i]? = some d → ∃ v, xs[i]? = some v ∧ R K G d v
  | [], _, _, _, _, h => by simp at h
  | d :: ds, _, i, e, h, hi => by
    rw [RA] at h
    obtain ⟨v, r, rfl, h1, h2⟩ := h
    cases i with
    | zero => simp at hi; subst hi; exact ⟨v, rfl, h1⟩
    | succ i =>
      obtain ⟨w, q1, q2⟩ := h2.get (i := i) (d := e) (by simpa using hi)
      exact ⟨w, by simpa using q1, q2⟩
theorem RA.getV : ∀ {ds : List D} {xs : List V} {i : Nat} {v : V}, RA K G ds xs → xs[i]? = some v → ∃ d, ds[i]? = some d ∧ R K G d v
  | [], _, _, _, h, hi => by rw [RA] at h; rw [h] at hi; simp at hi
  | d :: ds, _, i, e, h, hi => by
    rw [RA] at h
    obtain ⟨v, r, rfl, h1, h2⟩ := h
    cases i with
    | zero => simp at hi; subst hi; exact ⟨d, rfl, h1⟩
    | succ i =>
      obtain ⟨w, q1, q2⟩ := h2.getV (i := i) (v := e) (by simpa using hi)
      exact ⟨w, by simpa using q1, q2⟩
theorem RA.append : ∀ {ds es : List D} {xs ys : List V}, RA K G ds xs → RA K G es ys → RA K G (ds ++ es) (xs ++ ys)
  | [], _, _, _, h, t => by rw [RA] at h; rw [h]; exact t
  | d :: ds, _, _, _, h, t => by
    rw [RA] at h
    obtain ⟨v, r, rfl, h1, h2⟩ := h
    exact RA.cons h1 (h2.append t)
theorem RA.of_get : ∀ {ds : List D} {xs : List V}, ds.length = xs.length → (∀ (i : Nat) (d : D) (v : V), ds[i]? = some d → xs[i]? = some v → R K G d v) → RA K G ds xs
  | [], [], _, _ => RA.nil
  | d :: ds, v :: xs, h, hi => RA.cons (hi 0 d v rfl rfl) (RA.of_get (by simpa using h) fun i d v h1 h2 => hi (i + 1) d v (by simpa using h1) (by simpa using h2))
theorem RA.take (h : RA K G ds xs) (n : Nat) : RA K G (ds.take n) (xs.take n) := by
  refine RA.of_get (by rw [List.length_take, List.length_take, h.len]) fun i d v h1 h2 => ?_
  rw [List.getElem?_take] at h1 h2
  split at h1
  · rename_i hi
    rw [if_pos hi] at h2
    obtain ⟨w, q1, q2⟩ := h.get h1
    rw [h2] at q1
    cases q1
    exact q2
  · cases h1
theorem RA.drop (h : RA K G ds xs) (n : Nat) : RA K G (ds.drop n) (xs.drop n) := by
  refine RA.of_get (by rw [List.length_drop, List.length_drop, h.len]) fun i d v h1 h2 => ?_
  rw [List.getElem?_drop] at h1 h2
  obtain ⟨w, q1, q2⟩ := h.get h1
  rw [h2] at q1
  cases q1
  exact q2
theorem RA.reverse (h : RA K G ds xs) : RA K G ds.reverse xs.reverse := by
  refine RA.of_get (by rw [List.length_reverse, List.length_reverse, h.len]) fun i d v h1 h2 => ?_
  have hi : i < ds.length := by have := (List.getElem?_eq_some_iff.mp h1).1; rw [List.length_reverse] at this; exact this
  rw [List.getElem?_reverse hi] at h1
  rw [List.getElem?_reverse (by rw [h.len]; exact hi), h.len] at h2
  obtain ⟨w, q1, q2⟩ := h.get h1
  rw [h2] at q1
  cases q1
  exact q2
theorem RA.set (h : RA K G ds xs) (i : Nat) (hd : R K G d v) : RA K G (ds.set i d) (xs.set i v) := by
  refine RA.of_get (by rw [List.length_set, List.length_set, h.len]) fun j d' v' h1 h2 => ?_
  rw [List.getElem?_set] at h1 h2
  by_cases hij : i = j
  · rw [if_pos hij] at h1 h2
    rw [h.len] at h2
    split at h1
    · rename_i hl
      rw [if_pos hl] at h2
      cases h1; cases h2
      exact hd
    · cases h1
  · rw [if_neg hij] at h1 h2
    obtain ⟨w, q1, q2⟩ := h.get h1
    rw [h2] at q1
    cases q1
    exact q2
theorem RA.rep (h : RA K G ds xs) : ∀ n : Nat, RA K G (List.replicate n ds).flatten (List.replicate n xs).flatten
  | 0 => RA.nil
  | n + 1 => by rw [List.replicate_succ, List.replicate_succ, List.flatten_cons, List.flatten_cons]; exact h.append (h.rep n)
theorem RA.map {α : Type} {f : α → D} {g : α → V} (h : ∀ a, R K G (f a) (g a)) : ∀ l : List α, RA K G (l.map f) (l.map g)
  | [] => RA.nil
  | a :: l => RA.cons (h a) (RA.map h l)
/-- texts, numbers, truths, None: no heap -/
def D.sc : D → Bool
  | .non => true | .bl _ => true | .int _ => true | .str _ => true | _ => false
theorem R.sc (h : R K G d v) (hd : d.sc = true) : R K G' d v := by
  cases d with
  | lst _ => cases hd
  | tup _ => cases hd
  | scr _ => cases hd
  | dic _ _ => cases hd
  | _ => exact h
end
/-! ### what may change: lists; the state that draws are taken from -/
inductive Ob where
  | l (ds : List D) | st (ns : List Int) (t : Int) | dk (ks : List DK) (vs : List D)
abbrev Ob.d : Ob → D
  | .l ds => .lst ds
  | .st _ _ => .non
  | .dk ks vs => .dic ks vs
/-- whether it's a list -/
abbrev Ob.isL : Ob → Bool
  | .l _ => true
  | .st _ _ => false
  | .dk _ _ => false
abbrev Ob.ifL (o : Ob) (A : Prop) : Prop := match o with
  | .l _ => A
  | .st _ _ => False
  | .dk _ _ => False
/-- its cells in the heap, the one of its address first -/
def RO (K : PySem.W.Frag) (G : Hp) : Ob → Addr → List (Addr × HO) → Prop
  | .l ds, p, cs => ∃ xs, cs = [(p, .lst xs)] ∧ RA K G ds xs
  | .st ns t, p, cs => ∃ q, cs = [(p, .dK [(.inr (S [99, 101, 108, 108, 115]), .ref q), (.inr (S [116, 117, 114, 110]), .int t)]), (q, .lst (ns.map V.int))]
  | .dk ks vs, p, cs => ∃ kvs, cs = [(p, .dK kvs)] ∧ kvs.map (·.1) = ks.map dkey ∧ RA K G vs (kvs.map (·.2))
theorem RO.ex {K : PySem.W.Frag} {G G' : Hp} {o : Ob} {p : Addr} {cs : List (Addr × HO)} (e : Ex G G') (r : RO K G o p cs) : RO K G' o p cs := by
  cases o with
  | l ds => obtain ⟨xs, rfl, h⟩ := r; exact ⟨xs, rfl, RA_ex e _ _ h⟩
  | st ns t => exact r
  | dk ks vs => obtain ⟨kvs, rfl, h1, h2⟩ := r; exact ⟨kvs, rfl, h1, RA_ex e _ _ h2⟩
theorem RO.frzD {K : PySem.W.Frag} {G : Hp} {ks : List DK} {vs : List D} {p : Addr} {h : HO} (r : RO K G (.dk ks vs) p [(p, h)]) (hp : G p = none) : R K (upd G p h) (.dic ks vs) (.ref p) := by
  obtain ⟨kvs, e, h1, h2⟩ := r
  cases e
  rw [R]
  exact ⟨p, kvs, rfl, .inl upd_same, h1, RA_ex (Ex.new hp) _ _ h2⟩
theorem RO.frz {K : PySem.W.Frag} {G : Hp} {ds : List D} {p : Addr} {h : HO} (r : RO K G (.l ds) p [(p, h)]) (hp : G p = none) : R K (upd G p h) (.lst ds) (.ref p) := by
  obtain ⟨xs, e, h⟩ := r
  cases e
  rw [R]
  exact ⟨p, xs, rfl, upd_same, RA_ex (Ex.new hp) _ _ h⟩
inductive C where
  | v (d : D) | m (o : Ob) | io (o : Ob)
abbrev Env := List (Option C)
inductive Rel (K : PySem.W.Frag) (G : Hp) : List Addr → Env → L2.St → List (Addr × HO) → Prop
  | nil : Rel K G [] [] [] []
  | emp {as : List Addr} {e : Env} {s : L2.St} {L : List (Addr × HO)} {x : Option V} : Rel K G as e s L → Rel K G as (none :: e) (x :: s) L
  | val {as : List Addr} {e : Env} {s : L2.St} {L : List (Addr × HO)} {d : D} {x : V} : R K G d x → Rel K G as e s L → Rel K G as (some (.v d) :: e) (some x :: s) L
  | own {as : List Addr} {e : Env} {s : L2.St} {L : List (Addr × HO)} {o : Ob} {p : Addr} {cs : List (Addr × HO)} : RO K G o p cs → Rel K G as e s L → Rel K G as (some (.m o) :: e) (some (.ref p) :: s) (cs ++ L)
  | io {as : List Addr} {e : Env} {s : L2.St} {L : List (Addr × HO)} {o : Ob} {p : Addr} {cs : List (Addr × HO)} : RO K G o p cs → Rel K G as e s L → Rel K G (p :: as) (some (.io o) :: e) (some (.ref p) :: s) (cs ++ L)
theorem pmid {α : Type} (a b c : List α) : (a ++ (b ++ c)).Perm (b ++ (a ++ c)) := by
  rw [← List.append_assoc, ← List.append_assoc]
  exact List.perm_append_comm.append_right c
section
variable {K : PySem.W.Frag} {G G' H : Hp} {L Lo : List (Addr × HO)} {as : List Addr} {env : Env} {σ : L2.St} {i : Nat} {d : D} {v : V} {o : Ob}
theorem Rel.ex (e : Ex G G') (r : Rel K G as env σ Lo) : Rel K G' as env σ Lo := by
  induction r with
  | nil => exact .nil
  | emp _ ih => exact .emp ih
  | val h _ ih => exact .val (R_ex e _ _ h) ih
  | own h _ ih => exact .own (h.ex e) ih
  | io h _ ih => exact .io (h.ex e) ih
theorem Rel.len (r : Rel K G as env σ Lo) : σ.length = env.length := by
  induction r with
  | nil => rfl
  | emp _ ih => simp [ih]
  | val _ _ ih => simp [ih]
  | own _ _ ih => simp [ih]
  | io _ _ ih => simp [ih]
theorem Rel.getv (r : Rel K G as env σ Lo) (h : env[i]? = some (some (.v d))) : ∃ v, σ[i]? = some (some v) ∧ R K G d v := by
  induction r generalizing i with
  | nil => simp at h
  | emp _ ih => cases i with
    | zero => simp at h
    | succ i => simpa using ih (i := i) (by simpa using h)
  | @val as e s L d' x hd _ ih => cases i with
    | zero => simp at h; subst h; exact ⟨x, rfl, hd⟩
    | succ i => simpa using ih (i := i) (by simpa using h)
  | own _ _ ih => cases i with
    | zero => simp at h
    | succ i => simpa using ih (i := i) (by simpa using h)
  | io _ _ ih => cases i with
    | zero => simp at h
    | succ i => simpa using ih (i := i) (by simpa using h)
/-- a slot that holds no handed object -/
def notIo (env : Env) (i : Nat) : Bool := match env[i]? with
  | some (some (.io _)) => false
  | some _ => true
  | none => false
theorem Rel.upd (r : Rel K G as env σ Lo) (hi : notIo env i = true) (c : Option C) (x : Option V) (M : List (Addr × HO))
    (hc : ∀ as e s L, Rel K G as e s L → Rel K G as (c :: e) (x :: s) (M ++ L)) : ∃ Lo' Lo'', Rel K G as (env.set i c) (σ.set i x) Lo'' ∧ Lo''.Perm (M ++ Lo') ∧ Lo'.Sublist Lo := by
  induction r generalizing i with
  | nil => simp [notIo] at hi
  | @emp as e s L x' r ih => cases i with
    | zero => exact ⟨L, M ++ L, hc _ _ _ _ r, List.Perm.refl _, List.Sublist.refl _⟩
    | succ i =>
      obtain ⟨L1, L2, q1, q2, q3⟩ := ih (i := i) (by simpa [notIo] using hi)
      exact ⟨L1, L2, .emp q1, q2, q3⟩
  | @val as e s L d' x' hd r ih => cases i with
    | zero => exact ⟨L, M ++ L, hc _ _ _ _ r, List.Perm.refl _, List.Sublist.refl _⟩
    | succ i =>
      obtain ⟨L1, L2, q1, q2, q3⟩ := ih (i := i) (by simpa [notIo] using hi)
      exact ⟨L1, L2, .val hd q1, q2, q3⟩
  | @own as e s L o p cs hd r ih => cases i with
    | zero => exact ⟨L, M ++ L, hc _ _ _ _ r, List.Perm.refl _, List.sublist_append_right ..⟩
    | succ i =>
      obtain ⟨L1, L2, q1, q2, q3⟩ := ih (i := i) (by simpa [notIo] using hi)
      exact ⟨cs ++ L1, cs ++ L2, .own hd q1, (q2.append_left cs).trans (pmid cs M L1), q3.append_left cs⟩
  | @io as e s L o p cs hd r ih => cases i with
    | zero => simp [notIo] at hi
    | succ i =>
      obtain ⟨L1, L2, q1, q2, q3⟩ := ih (i := i) (by simpa [notIo] using hi)
      exact ⟨cs ++ L1, cs ++ L2, .io hd q1, (q2.append_left cs).trans (pmid cs M L1), q3.append_left cs⟩
theorem Rel.setv (r : Rel K G as env σ Lo) (hi : notIo env i = true) (h : R K G d v) : ∃ Lo', Rel K G as (env.set i (some (.v d))) (σ.set i (some v)) Lo' ∧ ∃ Ls, Lo'.Perm Ls ∧ Ls.Sublist Lo := by
  obtain ⟨L1, L2, q1, q2, q3⟩ := r.upd hi (some (.v d)) (some v) [] (fun as e s L r => .val h r)
  exact ⟨L2, q1, L1, q2, q3⟩
theorem Rel.setn (r : Rel K G as env σ Lo) (hi : notIo env i = true) (x : Option V) : ∃ Lo', Rel K G as (env.set i none) (σ.set i x) Lo' ∧ ∃ Ls, Lo'.Perm Ls ∧ Ls.Sublist Lo := by
  obtain ⟨L1, L2, q1, q2, q3⟩ := r.upd hi none x [] (fun as e s L r => .emp r)
  exact ⟨L2, q1, L1, q2, q3⟩
theorem Rel.setm {p : Addr} {cs : List (Addr × HO)} (r : Rel K G as env σ Lo) (hi : notIo env i = true) (ho : RO K G o p cs) : ∃ Lo', Rel K G as (env.set i (some (.m o))) (σ.set i (some (.ref p))) Lo' ∧ ∃ Ls, Lo'.Perm (cs ++ Ls) ∧ Ls.Sublist Lo := by
  obtain ⟨L1, L2, q1, q2, q3⟩ := r.upd hi (some (.m o)) (some (.ref p)) cs (fun as e s L r => .own ho r)
  exact ⟨L2, q1, L1, q2, q3⟩
/-- a slot's object, of this def or handed in -/
def obj (env : Env) (i : Nat) : Option Ob := match env[i]? with
  | some (some (.m o)) => some o
  | some (some (.io o)) => some o
  | _ => none
def setO (env : Env) (i : Nat) (o : Ob) : Env := match env[i]? with
  | some (some (.m _)) => env.set i (some (.m o))
  | some (some (.io _)) => env.set i (some (.io o))
  | _ => env
theorem Rel.obj (r : Rel K G as env σ Lo) (hi : obj env i = some o) : ∃ p cs Lo', σ[i]? = some (some (.ref p)) ∧ RO K G o p cs ∧ Lo.Perm (cs ++ Lo') ∧
    ∀ {G' : Hp} {o' : Ob} {cs' : List (Addr × HO)}, Ex G G' → RO K G' o' p cs' → ∃ Lo'', Rel K G' as (setO env i o') σ Lo'' ∧ Lo''.Perm (cs' ++ Lo') := by
  induction r generalizing i with
  | nil => simp [MA.obj] at hi
  | @emp as t s L x' r ih => cases i with
    | zero => simp [MA.obj] at hi
    | succ i =>
      obtain ⟨p, h, L', q1, q2, q3, q4⟩ := ih (i := i) (by simpa [MA.obj] using hi)
      refine ⟨p, h, L', by simpa using q1, q2, q3, fun {G' o' cs'} e r' => ?_⟩
      obtain ⟨L2, z1, z2⟩ := q4 e r'
      refine ⟨L2, ?_, z2⟩
      have : setO (Option.none :: t) (i + 1) o' = Option.none :: setO t i o' := by
        unfold setO; simp only [List.getElem?_cons_succ]; rcases t[i]? with _ | _ | _ | _ | _ <;> rfl
      rw [this]; exact .emp z1
  | @val as t s L d' x' hd r ih => cases i with
    | zero => simp [MA.obj] at hi
    | succ i =>
      obtain ⟨p, h, L', q1, q2, q3, q4⟩ := ih (i := i) (by simpa [MA.obj] using hi)
      refine ⟨p, h, L', by simpa using q1, q2, q3, fun {G' o' cs'} e r' => ?_⟩
      obtain ⟨L2, z1, z2⟩ := q4 e r'
      refine ⟨L2, ?_, z2⟩
      have : setO (some (C.v d') :: t) (i + 1) o' = some (C.v d') :: setO t i o' := by
        unfold setO; simp only [List.getElem?_cons_succ]; rcases t[i]? with _ | _ | _ | _ | _ <;> rfl
      rw [this]; exact .val (R_ex e _ _ hd) z1
  | @own as t s L o1 p1 h1 hd r ih => cases i with
    | zero =>
      simp [MA.obj] at hi
      subst hi
      exact ⟨p1, h1, L, rfl, hd, List.Perm.refl _, fun {G' o' cs'} e r' => ⟨_, .own r' (r.ex e), List.Perm.refl _⟩⟩
    | succ i =>
      obtain ⟨p, h, L', q1, q2, q3, q4⟩ := ih (i := i) (by simpa [MA.obj] using hi)
      refine ⟨p, h, h1 ++ L', by simpa using q1, q2, (q3.append_left h1).trans (pmid h1 h L'), fun {G' o' cs'} e r' => ?_⟩
      obtain ⟨L2, z1, z2⟩ := q4 e r'
      refine ⟨h1 ++ L2, ?_, (z2.append_left h1).trans (pmid h1 cs' L')⟩
      have : setO (some (C.m o1) :: t) (i + 1) o' = some (C.m o1) :: setO t i o' := by
        unfold setO; simp only [List.getElem?_cons_succ]; rcases t[i]? with _ | _ | _ | _ | _ <;> rfl
      rw [this]; exact .own (hd.ex e) z1
  | @io as t s L o1 p1 h1 hd r ih => cases i with
    | zero =>
      simp [MA.obj] at hi
      subst hi
      exact ⟨p1, h1, L, rfl, hd, List.Perm.refl _, fun {G' o' cs'} e r' => ⟨_, .io r' (r.ex e), List.Perm.refl _⟩⟩
    | succ i =>
      obtain ⟨p, h, L', q1, q2, q3, q4⟩ := ih (i := i) (by simpa [MA.obj] using hi)
      refine ⟨p, h, h1 ++ L', by simpa using q1, q2, (q3.append_left h1).trans (pmid h1 h L'), fun {G' o' cs'} e r' => ?_⟩
      obtain ⟨L2, z1, z2⟩ := q4 e r'
      refine ⟨h1 ++ L2, ?_, (z2.append_left h1).trans (pmid h1 cs' L')⟩
      have : setO (some (C.io o1) :: t) (i + 1) o' = some (C.io o1) :: setO t i o' := by
        unfold setO; simp only [List.getElem?_cons_succ]; rcases t[i]? with _ | _ | _ | _ | _ <;> rfl
      rw [this]; exact .io (hd.ex e) z1
end
end MA
/-! QB: readings without effects, and with. -/
namespace MA
open PySem PySem.Spec PyProof.Rows L2 SX
section
variable {G G' H H' : Hp} {L L' Lo Ls : List (Addr × HO)} {p : Addr} {o : HO}
theorem Now.sub (n : Now G L H) (h : L'.Sublist L) : Now G L' H where
  ex := n.ex
  mu := fun x hx => n.mu x (h.subset hx)
  ap := fun x hx => n.ap x (h.subset hx)
  nd := List.Sublist.nodup (h.map _) n.nd
theorem Now.permL (n : Now G (Lo ++ L) H) (h : Lo.Perm Ls) : Now G (Ls ++ L) H := n.perm (h.append_right _)
/-- all that may change, frozen -/
def ov (G : Hp) : List (Addr × HO) → Hp
  | [] => G
  | (p, o) :: l => upd (ov G l) p o
theorem ov_none {a : Addr} : ∀ {l : List (Addr × HO)}, a ∉ l.map (·.1) → ov G l a = G a
  | [], _ => rfl
  | (p, o) :: l, h => by
    have h1 : a ≠ p := fun e => h (by simp [e])
    have h2 : a ∉ l.map (·.1) := fun e => h (List.mem_cons_of_mem _ e)
    rw [ov, upd_ne h1, ov_none h2]
theorem ov_mem : ∀ {l : List (Addr × HO)} {q : Addr × HO}, (l.map (·.1)).Nodup → q ∈ l → ov G l q.1 = some q.2
  | [], _, _, h => nomatch h
  | (p, o) :: l, q, hn, h => by
    have hn' := List.nodup_cons.mp hn
    rcases List.mem_cons.mp h with e | h
    · rw [e, ov]; exact upd_same
    · have : q.1 ≠ p := fun e => hn'.1 (e ▸ List.mem_map.mpr ⟨q, h, rfl⟩)
      rw [ov, upd_ne this]
      exact ov_mem hn'.2 h
theorem ov_cases {a : Addr} {u : HO} : ∀ {l : List (Addr × HO)}, ov G l a = some u → (a, u) ∈ l ∨ (G a = some u)
  | [], h => .inr h
  | (p, o) :: l, h => by
    rw [ov] at h
    by_cases e : a = p
    · subst e; rw [upd_same] at h; cases h; exact .inl (List.mem_cons_self ..)
    · rw [upd_ne e] at h
      exact (ov_cases h).imp (List.mem_cons_of_mem _) id
theorem Now.ovEx (n : Now G (Lo ++ L) H) : MA.Ex G (ov G Lo) := fun a u h => by
  rw [ov_none]
  · exact h
  · intro hm
    obtain ⟨q, hq, rfl⟩ := List.mem_map.mp hm
    have := n.ap q (List.mem_append_left _ hq)
    rw [this] at h; cases h
theorem Now.frzAll (n : Now G (Lo ++ L) H) : Now (ov G Lo) L H where
  ex := fun a u h => by
    rcases ov_cases h with h | h
    · exact n.mu (a, u) (List.mem_append_left _ h)
    · exact n.ex a u h
  mu := fun x hx => n.mu x (List.mem_append_right _ hx)
  ap := fun x hx => by
    rw [ov_none]
    · exact n.ap x (List.mem_append_right _ hx)
    · intro hm
      have hd := n.nd
      rw [List.map_append, List.nodup_append] at hd
      exact hd.2.2 _ hm _ (List.mem_map.mpr ⟨x, hx, rfl⟩) rfl
  nd := by
    have hd := n.nd
    rw [List.map_append, List.nodup_append] at hd
    exact hd.2.1
theorem Now.thawAll (n : Now G (Lo ++ L) H) (e : MA.Ex (ov G Lo) G') (n' : Now G' L H') : Now G (Lo ++ L) H' where
  ex := fun a u h => n'.ex a u (e a u (n.ovEx a u h))
  mu := fun x hx => by
    rcases List.mem_append.mp hx with h | h
    · have hd := n.nd
      rw [List.map_append, List.nodup_append] at hd
      exact n'.ex _ _ (e _ _ (ov_mem hd.1 h))
    · exact n'.mu x h
  ap := n.ap
  nd := n.nd
end
/-! ### a def's own: slots, objects, the heap -/
def Wd (K : PySem.W.Frag) (G : Hp) (L : List (Addr × HO)) (as : List Addr) (env : Env) (σ : L2.St) (H : Hp) : Prop := ∃ Lo, Rel K G as env σ Lo ∧ Now G (Lo ++ L) H
def pget (env : Env) (i : Nat) : Option D := match env[i]? with
  | some (some (.v d)) => some d
  | some (some (.m (.l ds))) => some (.lst ds)
  | some (some (.io (.l ds))) => some (.lst ds)
  | some (some (.m (.dk ks vs))) => some (.dic ks vs)
  | some (some (.io (.dk ks vs))) => some (.dic ks vs)
  | _ => none
def RelF (K : PySem.W.Frag) (G : Hp) (env : Env) (σ : L2.St) : Prop := σ.length = env.length ∧ ∀ i d, pget env i = some d → ∃ v, σ[i]? = some (some v) ∧ R K G d v
section
variable {K : PySem.W.Frag} {G G' H : Hp} {L Lo : List (Addr × HO)} {as : List Addr} {env : Env} {σ : L2.St} {i : Nat} {d : D} {v : V} {o : Ob}
theorem RelF.ex (e : Ex G G') (r : RelF K G env σ) : RelF K G' env σ := ⟨r.1, fun i d h => by
  obtain ⟨v, q1, q2⟩ := r.2 i d h
  exact ⟨v, q1, R_ex e _ _ q2⟩⟩
theorem obj_of (h : pget env i = some d) : (∃ ds, obj env i = some (.l ds) ∧ d = .lst ds) ∨ (∃ ks vs, obj env i = some (.dk ks vs) ∧ d = .dic ks vs) ∨ env[i]? = some (some (.v d)) := by
  unfold pget at h
  unfold obj
  split at h
  · rename_i e; cases h; exact .inr (.inr e)
  · rename_i e; cases h; exact .inl ⟨_, by rw [e], rfl⟩
  · rename_i e; cases h; exact .inl ⟨_, by rw [e], rfl⟩
  · rename_i e; cases h; exact .inr (.inl ⟨_, _, by rw [e], rfl⟩)
  · rename_i e; cases h; exact .inr (.inl ⟨_, _, by rw [e], rfl⟩)
  · cases h
theorem Rel.relF (r : Rel K G as env σ Lo) (n : Now G (Lo ++ L) H) : RelF K (ov G Lo) env σ := ⟨r.len, fun i d h => by
  rcases obj_of h with ⟨ds, ho, rfl⟩ | ⟨ks, vs, ho, rfl⟩ | h
  · obtain ⟨p, cs, L', q1, q2, q3, _⟩ := r.obj ho
    refine ⟨_, q1, ?_⟩
    obtain ⟨xs, rfl, h⟩ := q2
    have hm : (p, HO.lst xs) ∈ Lo := q3.mem_iff.mpr (List.mem_cons_self ..)
    have hd := n.nd
    rw [List.map_append, List.nodup_append] at hd
    have e1 : ov G Lo p = some (.lst xs) := ov_mem hd.1 hm
    rw [R]
    exact ⟨p, xs, rfl, e1, RA_ex n.ovEx _ _ h⟩
  · obtain ⟨p, cs, L', q1, q2, q3, _⟩ := r.obj ho
    refine ⟨_, q1, ?_⟩
    obtain ⟨kvs, rfl, h1, h⟩ := q2
    have hm : (p, HO.dK kvs) ∈ Lo := q3.mem_iff.mpr (List.mem_cons_self ..)
    have hd := n.nd
    rw [List.map_append, List.nodup_append] at hd
    have e1 : ov G Lo p = some (.dK kvs) := ov_mem hd.1 hm
    rw [R]
    exact ⟨p, kvs, rfl, .inl e1, h1, RA_ex n.ovEx _ _ h⟩
  · obtain ⟨v, q1, q2⟩ := r.getv h
    exact ⟨v, q1, R_ex n.ovEx _ _ q2⟩⟩
/-- what stands in no object that may change -/
def hide (env : Env) : Env := env.map fun c => match c with | some (.v d) => some (.v d) | _ => none
theorem hide_get : (hide env)[i]? = match env[i]? with | some (some (.v d)) => some (some (.v d)) | some _ => some none | none => none := by
  unfold hide
  rw [List.getElem?_map]
  rcases env[i]? with _ | _ | _ | _ | _ <;> rfl
theorem Rel.relH (r : Rel K G as env σ Lo) : RelF K G (hide env) σ := ⟨by rw [r.len]; simp [hide], fun i d h => by
  unfold pget at h
  rw [hide_get] at h
  rcases e : env[i]? with _ | _ | c | _ | _ <;> rw [e] at h <;> try cases h
  exact r.getv e⟩
end
/-! ### the judgements -/
abbrev PP := Env → Option D
abbrev Cn (K : PySem.W.Frag) (G : Hp) (L : List (Addr × HO)) (d : D) (Q : VK) : Prop := ∀ v G' H', Ex G G' → R K G' d v → Now G' L H' → Q v H'
def RefP (K : PySem.W.Frag) (te : TE) (pe : PP) : Prop := ∀ ⦃G : Hp⦄ ⦃L : List (Addr × HO)⦄ ⦃env : Env⦄ ⦃σ : L2.St⦄ ⦃H : Hp⦄ ⦃Q : VK⦄ ⦃d : D⦄, pe env = some d → RelF K G env σ → Now G L H → Cn K G L d Q → te σ H Q
def RefPA (K : PySem.W.Frag) (ta : TA) (pa : Env → Option (List D)) : Prop := ∀ ⦃G : Hp⦄ ⦃L : List (Addr × HO)⦄ ⦃env : Env⦄ ⦃σ : L2.St⦄ ⦃H : Hp⦄ ⦃Q : List V → Hp → Prop⦄ ⦃ds : List D⦄, pa env = some ds → RelF K G env σ → Now G L H →
  (∀ vs G' H', Ex G G' → RA K G' ds vs → Now G' L H' → Q vs H') → ta σ H Q
def RefPT (K : PySem.W.Frag) (tt : TT) (pt : Env → Option Bool) : Prop := ∀ ⦃G : Hp⦄ ⦃L : List (Addr × HO)⦄ ⦃env : Env⦄ ⦃σ : L2.St⦄ ⦃H : Hp⦄ ⦃Q : Bool → Hp → Prop⦄ ⦃b : Bool⦄, pt env = some b → RelF K G env σ → Now G L H →
  (∀ G' H', Ex G G' → Now G' L H' → Q b H') → tt σ H Q
def RefPN (K : PySem.W.Frag) (te : TE) (pn : Env → Option (List D)) : Prop := ∀ ⦃G : Hp⦄ ⦃L : List (Addr × HO)⦄ ⦃env : Env⦄ ⦃σ : L2.St⦄ ⦃H : Hp⦄ ⦃Q : VK⦄ ⦃ds : List D⦄, pn env = some ds → RelF K G env σ → Now G L H →
  (∀ p xs G' H', Ex G G' → RA K G' ds xs → Now G' ((p, .lst xs) :: L) H' → Q (.ref p) H') → te σ H Q
/-- what is walked yields these -/
def ItOk (K : PySem.W.Frag) (G0 : Hp) (J : It) (ds : List D) : Prop := ∃ (Gp : Hp → Prop) (Y : Nat → Hp → V → Hp → Prop), J = Itg Gp ds.length Y ∧ (∀ G L H, Ex G0 G → Now G L H → Gp H) ∧
  ∀ i d G L H x H', ds[i]? = some d → Ex G0 G → Now G L H → Y i H x H' → ∃ G', Ex G G' ∧ R K G' d x ∧ Now G' L H'
def RefPI (K : PySem.W.Frag) (wi : TI) (pi : Env → Option (List D)) : Prop := ∀ ⦃G : Hp⦄ ⦃L : List (Addr × HO)⦄ ⦃env : Env⦄ ⦃σ : L2.St⦄ ⦃H : Hp⦄ ⦃Q : It → Hp → Prop⦄ ⦃ds : List D⦄, pi env = some ds → RelF K G env σ → Now G L H →
  (∀ J G' H', Ex G G' → ItOk K G' J ds → Now G' L H' → Q J H') → wi σ H Q
abbrev PE' := Env → Option (D × Env)
def RefE (K : PySem.W.Frag) (te : TE) (pe : PE') : Prop := ∀ ⦃G : Hp⦄ ⦃L : List (Addr × HO)⦄ ⦃as : List Addr⦄ ⦃env env' : Env⦄ ⦃σ : L2.St⦄ ⦃H : Hp⦄ ⦃Q : VK⦄ ⦃d : D⦄, pe env = some (d, env') → Wd K G L as env σ H →
  (∀ v G' H', Ex G G' → R K G' d v → Wd K G' L as env' σ H' → Q v H') → te σ H Q
def RefEA (K : PySem.W.Frag) (ta : TA) (pa : Env → Option (List D × Env)) : Prop := ∀ ⦃G : Hp⦄ ⦃L : List (Addr × HO)⦄ ⦃as : List Addr⦄ ⦃env env' : Env⦄ ⦃σ : L2.St⦄ ⦃H : Hp⦄ ⦃Q : List V → Hp → Prop⦄ ⦃ds : List D⦄, pa env = some (ds, env') → Wd K G L as env σ H →
  (∀ vs G' H', Ex G G' → RA K G' ds vs → Wd K G' L as env' σ H' → Q vs H') → ta σ H Q
def RefET (K : PySem.W.Frag) (tt : TT) (pt : Env → Option (Bool × Env)) : Prop := ∀ ⦃G : Hp⦄ ⦃L : List (Addr × HO)⦄ ⦃as : List Addr⦄ ⦃env env' : Env⦄ ⦃σ : L2.St⦄ ⦃H : Hp⦄ ⦃Q : Bool → Hp → Prop⦄ ⦃b : Bool⦄, pt env = some (b, env') → Wd K G L as env σ H →
  (∀ G' H', Ex G G' → Wd K G' L as env' σ H' → Q b H') → tt σ H Q
def RefEN (K : PySem.W.Frag) (te : TE) (pn : Env → Option (Ob × Env)) : Prop := ∀ ⦃G : Hp⦄ ⦃L : List (Addr × HO)⦄ ⦃as : List Addr⦄ ⦃env env' : Env⦄ ⦃σ : L2.St⦄ ⦃H : Hp⦄ ⦃Q : VK⦄ ⦃o : Ob⦄, pn env = some (o, env') → Wd K G L as env σ H →
  (∀ p cs G' H', Ex G G' → RO K G' o p cs → Wd K G' (cs ++ L) as env' σ H' → Q (.ref p) H') → te σ H Q
def RefEI (K : PySem.W.Frag) (wi : TI) (pi : Env → Option (List D × Env)) : Prop := ∀ ⦃G : Hp⦄ ⦃L : List (Addr × HO)⦄ ⦃as : List Addr⦄ ⦃env env' : Env⦄ ⦃σ : L2.St⦄ ⦃H : Hp⦄ ⦃Q : It → Hp → Prop⦄ ⦃ds : List D⦄, pi env = some (ds, env') → Wd K G L as env σ H →
  (∀ J G' H', Ex G G' → ItOk K G' J ds → Wd K G' L as env' σ H' → Q J H') → wi σ H Q
/-! from no effects to effects -/
section
variable {K : PySem.W.Frag} {te : TE} {ta : TA} {tt : TT} {wi : TI}
def eL (pe : PP) : PE' := fun env => (pe (hide env)).bind fun d => some (d, env)
def eLA (pa : Env → Option (List D)) : Env → Option (List D × Env) := fun env => (pa (hide env)).bind fun d => some (d, env)
def eLI (pa : Env → Option (List D)) : Env → Option (List D × Env) := fun env => (pa (hide env)).bind fun d => some (d, env)
/-- a look at what may change: its answer holds no part of it -/
def eP (pe : PP) : PE' := fun env => (pe env).bind fun d => if d.sc then some (d, env) else none
def eT (pt : Env → Option Bool) : Env → Option (Bool × Env) := fun env => (pt env).bind fun b => some (b, env)
def eN (pn : Env → Option (List D)) : Env → Option (Ob × Env) := fun env => (pn (hide env)).bind fun ds => some (.l ds, env)
/-- a list of texts, numbers, truths made of what may change -/
def ePN (pn : Env → Option (List D)) : Env → Option (Ob × Env) := fun env => (pn env).bind fun ds => if ds.all D.sc then some (.l ds, env) else none
theorem bind_some {α β : Type} {x : Option α} {f : α → Option β} {b : β} (h : x.bind f = some b) : ∃ a, x = some a ∧ f a = some b := by
  cases x with
  | none => cases h
  | some a => exact ⟨a, rfl, h⟩
theorem ref_eL {pe : PP} (h : RefP K te pe) : RefE K te (eL pe) := by
  intro G L as env env' σ H Q d e ⟨Lo, r, n⟩ q
  obtain ⟨a, e1, e2⟩ := bind_some e
  cases e2
  exact h e1 r.relH n fun v G' H' x rd n' => q v G' H' x rd ⟨Lo, r.ex x, n'⟩
theorem ref_eLA {pa : Env → Option (List D)} (h : RefPA K ta pa) : RefEA K ta (eLA pa) := by
  intro G L as env env' σ H Q d e ⟨Lo, r, n⟩ q
  obtain ⟨a, e1, e2⟩ := bind_some e
  cases e2
  exact h e1 r.relH n fun v G' H' x rd n' => q v G' H' x rd ⟨Lo, r.ex x, n'⟩
theorem ref_eLI {pa : Env → Option (List D)} (h : RefPI K wi pa) : RefEI K wi (eLI pa) := by
  intro G L as env env' σ H Q d e ⟨Lo, r, n⟩ q
  obtain ⟨a, e1, e2⟩ := bind_some e
  cases e2
  exact h e1 r.relH n fun v G' H' x rd n' => q v G' H' x rd ⟨Lo, r.ex x, n'⟩
theorem ref_eP {pe : PP} (h : RefP K te pe) : RefE K te (eP pe) := by
  intro G L as env env' σ H Q d e ⟨Lo, r, n⟩ q
  obtain ⟨a, e1, e2⟩ := bind_some e
  split at e2
  · rename_i hs
    cases e2
    exact h e1 (r.relF n) n.frzAll fun v G' H' x rd n' => q v G H' (Ex.refl _) (rd.sc hs) ⟨Lo, r, n.thawAll x n'⟩
  · cases e2
theorem ref_eT {pt : Env → Option Bool} (h : RefPT K tt pt) : RefET K tt (eT pt) := by
  intro G L as env env' σ H Q d e ⟨Lo, r, n⟩ q
  obtain ⟨a, e1, e2⟩ := bind_some e
  cases e2
  exact h e1 (r.relF n) n.frzAll fun G' H' x n' => q G H' (Ex.refl _) ⟨Lo, r, n.thawAll x n'⟩
theorem midN {G : Hp} {L Lo : List (Addr × HO)} {q : Addr × HO} {H : Hp} (n : Now G (q :: (Lo ++ L)) H) : Now G (Lo ++ q :: L) H := n.perm List.perm_middle.symm
theorem midN' {G : Hp} {L Lo : List (Addr × HO)} {q : Addr × HO} {H : Hp} (n : Now G (Lo ++ q :: L) H) : Now G (q :: (Lo ++ L)) H := n.perm List.perm_middle
theorem ref_eN {pn : Env → Option (List D)} (h : RefPN K te pn) : RefEN K te (eN pn) := by
  intro G L as env env' σ H Q d e ⟨Lo, r, n⟩ q
  obtain ⟨a, e1, e2⟩ := bind_some e
  cases e2
  exact h e1 r.relH n fun p xs G' H' x rd n' => q p _ G' H' x ⟨xs, rfl, rd⟩ ⟨Lo, r.ex x, midN n'⟩
/-- a new list, frozen -/
def pFz (pn : Env → Option (List D)) : PP := fun env => (pn env).bind fun ds => some (.lst ds)
theorem ref_pFz {pn : Env → Option (List D)} (h : RefPN K te pn) : RefP K te (pFz pn) := by
  intro G L env σ H Q d e r n q
  obtain ⟨a, e1, e2⟩ := bind_some e
  cases e2
  refine h e1 r n fun p xs G' H' x rd n' => q _ _ _ (x.trans n'.exf) ?_ n'.freeze
  rw [R]
  exact ⟨p, xs, rfl, upd_same, RA_ex n'.exf _ _ rd⟩
def eFz (pn : Env → Option (Ob × Env)) : PE' := fun env => (pn env).bind fun oe => match oe.1 with
  | .l ds => some (.lst ds, oe.2)
  | .dk ks vs => some (.dic ks vs, oe.2)
  | .st _ _ => none
theorem ref_eFz {pn : Env → Option (Ob × Env)} (h : RefEN K te pn) : RefE K te (eFz pn) := by
  intro G L as env env' σ H Q d e w q
  obtain ⟨⟨o, e'⟩, e1, e2⟩ := bind_some e
  cases o with
  | st _ _ => cases e2
  | dk ks vs =>
    cases e2
    refine h e1 w fun p cs G' H' x ro ⟨Lo, r, n⟩ => ?_
    obtain ⟨xs, rfl, _, ra⟩ := id ro
    have n1 := midN' n
    exact q _ _ _ (x.trans n1.exf) (ro.frzD (n1.ap _ (List.mem_cons_self ..))) ⟨Lo, r.ex n1.exf, n1.freeze⟩
  | l ds =>
    cases e2
    refine h e1 w fun p cs G' H' x ro ⟨Lo, r, n⟩ => ?_
    obtain ⟨xs, rfl, ra⟩ := id ro
    have n1 := midN' n
    exact q _ _ _ (x.trans n1.exf) (ro.frz (n1.ap _ (List.mem_cons_self ..))) ⟨Lo, r.ex n1.exf, n1.freeze⟩
/-- a slot's object, frozen from now on -/
def eFr (i : Nat) : PE' := fun env => match env[i]? with
  | some (some (.m (.l ds))) => some (.lst ds, env.set i (some (.v (.lst ds))))
  | _ => none
theorem Rel.frz {G : Hp} {Lo : List (Addr × HO)} {as : List Addr} {env : Env} {σ : L2.St} {i : Nat} {o : Ob} {d : D} (r : Rel K G as env σ Lo) (hi : env[i]? = some (some (.m o))) : ∃ p cs Lo', σ[i]? = some (some (.ref p)) ∧ RO K G o p cs ∧ Lo.Perm (cs ++ Lo') ∧
    ∀ {G' : Hp}, Ex G G' → R K G' d (.ref p) → Rel K G' as (env.set i (some (.v d))) σ Lo' := by
  induction r generalizing i with
  | nil => simp at hi
  | emp r ih => cases i with
    | zero => simp at hi
    | succ i =>
      obtain ⟨p, h, L', q1, q2, q3, q4⟩ := ih (i := i) (by simpa using hi)
      exact ⟨p, h, L', by simpa using q1, q2, q3, fun e r' => .emp (q4 e r')⟩
  | val hd r ih => cases i with
    | zero => simp at hi
    | succ i =>
      obtain ⟨p, h, L', q1, q2, q3, q4⟩ := ih (i := i) (by simpa using hi)
      exact ⟨p, h, L', by simpa using q1, q2, q3, fun e r' => .val (R_ex e _ _ hd) (q4 e r')⟩
  | @own as t s L o1 p1 h1 hd r ih => cases i with
    | zero =>
      simp at hi
      subst hi
      exact ⟨p1, h1, L, rfl, hd, List.Perm.refl _, fun e r' => .val r' (r.ex e)⟩
    | succ i =>
      obtain ⟨p, h, L', q1, q2, q3, q4⟩ := ih (i := i) (by simpa using hi)
      exact ⟨p, h, h1 ++ L', by simpa using q1, q2, (q3.append_left h1).trans (pmid h1 h L'), fun e r' => .own (hd.ex e) (q4 e r')⟩
  | @io as t s L o1 p1 h1 hd r ih => cases i with
    | zero => simp at hi
    | succ i =>
      obtain ⟨p, h, L', q1, q2, q3, q4⟩ := ih (i := i) (by simpa using hi)
      exact ⟨p, h, h1 ++ L', by simpa using q1, q2, (q3.append_left h1).trans (pmid h1 h L'), fun e r' => .io (hd.ex e) (q4 e r')⟩
theorem ref_eFr (i : Nat) : RefE K (tVar i) (eFr i) := by
  intro G L as env env' σ H Q d e ⟨Lo, r, n⟩ q
  unfold eFr at e
  split at e
  · rename_i ds hi
    cases e
    obtain ⟨p, cs, L', q1, q2, q3, q4⟩ := r.frz (d := .lst ds) hi
    obtain ⟨xs, rfl, ra⟩ := id q2
    have n1 := n.permL q3
    have hp := n1.ap _ (List.mem_cons_self ..)
    exact ⟨_, q1, q _ _ _ n1.exf (q2.frz hp) ⟨L', q4 n1.exf (q2.frz hp), n1.freeze⟩⟩
  · cases e
end
end MA
/-! QC: what has no effects, construct by construct. -/
namespace MA
open PySem PySem.Spec PyProof.Rows L2 SX
section
variable {K : PySem.W.Frag} {ta tb tc te : TE} {tt : TA} {t1 t2 : TT} {r r2 : R2} {pa pb pc pe : PP} {ps : Env → Option (List D)} {pt pu : Env → Option Bool}
def pVar (i : Nat) : PP := fun env => pget env i
theorem rp_var (i : Nat) : RefP K (tVar i) (pVar i) := fun G L env σ H Q d e r n q => by
  obtain ⟨v, h1, h2⟩ := r.2 i d e
  exact ⟨v, h1, q v G H (Ex.refl _) h2 n⟩
def pC (d : D) : PP := fun _ => some d
theorem rp_c {v : V} {d : D} (h : ∀ G, R K G d v) : RefP K (tC v) (pC d) := fun G L env σ H Q d' e r n q => by
  cases e
  exact q v G H (Ex.refl _) (h G) n
def RefO2 (K : PySem.W.Frag) (r : R2) (o : D → D → Option D) : Prop := ∀ ⦃G : Hp⦄ ⦃L : List (Addr × HO)⦄ ⦃H : Hp⦄ ⦃Q : VK⦄ ⦃d e z : D⦄ ⦃x y : V⦄, o d e = some z → R K G d x → R K G e y → Now G L H → Cn K G L z Q → r x y H Q
def pOp (o : D → D → Option D) (pa pb : PP) : PP := fun env => (pa env).bind fun d => (pb env).bind fun e => o d e
theorem rp_op {o : D → D → Option D} (ho : RefO2 K r o) (ha : RefP K ta pa) (hb : RefP K tb pb) : RefP K (tOp r ta tb) (pOp o pa pb) := by
  intro G L env σ H Q d e re n q
  obtain ⟨x, e1, e2⟩ := bind_some e
  obtain ⟨y, e3, e4⟩ := bind_some e2
  refine ha e1 re n fun v G1 H1 x1 r1 n1 => ?_
  refine hb e3 (re.ex x1) n1 fun w G2 H2 x2 r2 n2 => ?_
  exact ho e4 (R_ex x2 _ _ r1) r2 n2 fun v' G' H' x3 r3 n3 => q v' G' H' ((x1.trans x2).trans x3) r3 n3
def RefO1 (K : PySem.W.Frag) (r : V → Hp → VK → Prop) (o : D → Option D) : Prop := ∀ ⦃G : Hp⦄ ⦃L : List (Addr × HO)⦄ ⦃H : Hp⦄ ⦃Q : VK⦄ ⦃d z : D⦄ ⦃x : V⦄, o d = some z → R K G d x → Now G L H → Cn K G L z Q → r x H Q
def pUn (o : D → Option D) (pa : PP) : PP := fun env => (pa env).bind o
theorem rp_un {r : V → Hp → VK → Prop} {o : D → Option D} (ho : RefO1 K r o) (ha : RefP K ta pa) : RefP K (tUn r ta) (pUn o pa) := by
  intro G L env σ H Q d e re n q
  obtain ⟨x, e1, e2⟩ := bind_some e
  refine ha e1 re n fun v G1 H1 x1 r1 n1 => ?_
  exact ho e2 r1 n1 fun v' G' H' x3 r3 n3 => q v' G' H' (x1.trans x3) r3 n3
def pNil : Env → Option (List D) := fun _ => some []
theorem rp_nil : RefPA K tNil pNil := fun G L env σ H Q d e r n q => by
  cases e
  exact q [] G H (Ex.refl _) RA.nil n
def pCons (pa : PP) (ps : Env → Option (List D)) : Env → Option (List D) := fun env => (pa env).bind fun d => (ps env).bind fun ds => some (d :: ds)
theorem rp_cons (ha : RefP K ta pa) (hs : RefPA K tt ps) : RefPA K (tCons ta tt) (pCons pa ps) := by
  intro G L env σ H Q d e re n q
  obtain ⟨x, e1, e2⟩ := bind_some e
  obtain ⟨y, e3, e4⟩ := bind_some e2
  cases e4
  refine ha e1 re n fun v G1 H1 x1 r1 n1 => ?_
  refine hs e3 (re.ex x1) n1 fun w G2 H2 x2 r2 n2 => ?_
  exact q _ _ _ (x1.trans x2) (RA.cons (R_ex x2 _ _ r1) r2) n2
def RefOL (K : PySem.W.Frag) (r : List V → Hp → VK → Prop) (o : List D → Option D) : Prop := ∀ ⦃G : Hp⦄ ⦃L : List (Addr × HO)⦄ ⦃H : Hp⦄ ⦃Q : VK⦄ ⦃ds : List D⦄ ⦃z : D⦄ ⦃xs : List V⦄, o ds = some z → RA K G ds xs → Now G L H → Cn K G L z Q → r xs H Q
def pCB (o : List D → Option D) (ps : Env → Option (List D)) : PP := fun env => (ps env).bind o
theorem rp_cb {r : List V → Hp → VK → Prop} {o : List D → Option D} (ho : RefOL K r o) (hs : RefPA K tt ps) : RefP K (tCB r tt) (pCB o ps) := by
  intro G L env σ H Q d e re n q
  obtain ⟨x, e1, e2⟩ := bind_some e
  refine hs e1 re n fun v G1 H1 x1 r1 n1 => ?_
  exact ho e2 r1 n1 fun v' G' H' x3 r3 n3 => q v' G' H' (x1.trans x3) r3 n3
/-- a method of a text -/
structure RefOM (K : PySem.W.Frag) (r : V → List V → Hp → VK → Prop) (o : D → List D → Option D) : Prop where
  st : ∀ d ds z, o d ds = some z → ∃ l, d = .str l
  run : ∀ ⦃G : Hp⦄ ⦃L : List (Addr × HO)⦄ ⦃H : Hp⦄ ⦃Q : VK⦄ ⦃d z : D⦄ ⦃ds : List D⦄ ⦃x : V⦄ ⦃xs : List V⦄, o d ds = some z → R K G d x → RA K G ds xs → Now G L H → Cn K G L z Q → r x xs H Q
def pBM (o : D → List D → Option D) (pa : PP) (ps : Env → Option (List D)) : PP := fun env => (pa env).bind fun d => (ps env).bind fun ds => o d ds
theorem rp_bm {r : V → List V → Hp → VK → Prop} {o : D → List D → Option D} (ho : RefOM K r o) (ha : RefP K ta pa) (hs : RefPA K tt ps) : RefP K (tBM K "str" r ta tt) (pBM o pa ps) := by
  intro G L env σ H Q d e re n q
  obtain ⟨x, e1, e2⟩ := bind_some e
  obtain ⟨y, e3, e4⟩ := bind_some e2
  obtain ⟨l, rfl⟩ := ho.st _ _ _ e4
  refine ha e1 re n fun v G1 H1 x1 r1 n1 => ?_
  refine ⟨by rw [R] at r1; rw [r1]; rfl, ?_⟩
  refine hs e3 (re.ex x1) n1 fun w G2 H2 x2 r2 n2 => ?_
  exact ho.run e4 (R_ex x2 _ _ r1) r2 n2 fun v' G' H' x3 r3 n3 => q v' G' H' ((x1.trans x2).trans x3) r3 n3
def pBM0 (o : D → List D → Option D) (pa : PP) : PP := fun env => (pa env).bind fun d => o d []
theorem rp_bm0 {r : V → List V → Hp → VK → Prop} {o : D → List D → Option D} (ho : RefOM K r o) (ha : RefP K ta pa) : RefP K (tBM0 K "str" r ta) (pBM0 o pa) := by
  intro G L env σ H Q d e re n q
  obtain ⟨x, e1, e4⟩ := bind_some e
  obtain ⟨l, rfl⟩ := ho.st _ _ _ e4
  refine ha e1 re n fun v G1 H1 x1 r1 n1 => ?_
  refine ⟨by rw [R] at r1; rw [r1]; rfl, ?_⟩
  exact ho.run e4 r1 RA.nil n1 fun v' G' H' x3 r3 n3 => q v' G' H' (x1.trans x3) r3 n3
/-- displays -/
def pnLst (ps : Env → Option (List D)) : Env → Option (List D) := fun env => (ps env).bind fun ds => if ds.length ≤ 100000 then some ds else none
theorem rp_lst (hs : RefPA K tt ps) : RefPN K (tLst tt) (pnLst ps) := by
  intro G L env σ H Q ds e re n q
  obtain ⟨x, e1, e2⟩ := bind_some e
  split at e2
  · rename_i hl
    cases e2
    refine hs e1 re n fun v G1 H1 x1 r1 n1 => ?_
    exact w_lstL n1 (by rw [r1.len]; exact hl) fun p H' n' _ => q p v G1 H' x1 r1 n'
  · cases e2
def pTup (ps : Env → Option (List D)) : PP := fun env => (ps env).bind fun ds => if ds.length ≤ 100000 then some (.tup ds) else none
theorem rp_tup (hs : RefPA K tt ps) : RefP K (tTup tt) (pTup ps) := by
  intro G L env σ H Q d e re n q
  obtain ⟨x, e1, e2⟩ := bind_some e
  split at e2
  · rename_i hl
    cases e2
    refine hs e1 re n fun v G1 H1 x1 r1 n1 => ?_
    refine w_tupG n1 (by rw [r1.len]; exact hl) fun p G' H' x2 hp n' => q _ _ _ (x1.trans x2) ?_ n'
    rw [R]
    exact ⟨p, v, rfl, sqT hp, RA_ex x2 _ _ r1⟩
  · cases e2
/-- truth -/
def tru : D → Option Bool
  | .non => some false
  | .bl b => some b
  | .int i => some (i != 0)
  | .str l => if l.length ≤ 100000 then some (!l.isEmpty) else none
  | .lst l => some (!l.isEmpty)
  | .tup l => some (!l.isEmpty)
  | .scr l => some (!l.isEmpty)
  | .dic _ _ => none
theorem isE {α β : Type} {l : List α} {m : List β} (h : l.length = m.length) : l.isEmpty = m.isEmpty := by
  cases l <;> cases m <;> simp_all
theorem tru_ok {G H : Hp} {L : List (Addr × HO)} {d : D} {v : V} {b : Bool} (e : tru d = some b) (h : R K G d v) (n : Now G L H) : TruV K v H b := by
  cases d with
  | dic _ _ => cases e
  | non => rw [R] at h; subst h; cases e; rfl
  | bl k => rw [R] at h; subst h; cases e; rfl
  | int k => rw [R] at h; subst h; cases e; rfl
  | str l =>
    rw [R] at h; subst h
    rw [tru] at e
    split at e
    · rename_i hl
      cases e
      refine ⟨by rw [S_len]; exact sz hl, ?_⟩
      rw [S_len]
      cases l with
      | nil => rfl
      | cons a l =>
        rw [List.length_cons]
        have : (((l.length + 1 : Nat) : Int) != 0) = true := by
          rw [bne_iff_ne]; omega
        rw [this]; rfl
    · cases e
  | lst l =>
    rw [R] at h
    obtain ⟨a, xs, rfl, h1, h2⟩ := h
    cases e
    exact .inl ⟨xs, sqL (n.ex _ _ h1), by rw [isE h2.len]⟩
  | tup l =>
    rw [R] at h
    obtain ⟨a, xs, rfl, h1, h2⟩ := h
    cases e
    exact .inr (.inl ⟨xs, st_ex n.Ex h1, by rw [isE h2.len]⟩)
  | scr l =>
    rw [R] at h
    obtain ⟨a, rfl, h1⟩ := h
    cases e
    exact .inl ⟨_, sq_ex n.Ex h1, by rw [isE (List.length_map ..)]⟩
def blo : D → Option Bool
  | .bl b => some b
  | _ => none
theorem blo_ok {d : D} {b : Bool} (h : blo d = some b) : d = .bl b := by
  cases d <;> simp [blo] at h
  rw [h]
def pTest (pe : PP) : Env → Option Bool := fun env => (pe env).bind blo
theorem rp_test (h : RefP K te pe) : RefPT K (tTest te) (pTest pe) := by
  intro G L env σ H Q b e re n q
  obtain ⟨x, e1, e2⟩ := bind_some e
  cases blo_ok e2
  refine h e1 re n fun v G1 H1 x1 r1 n1 => ?_
  rw [R] at r1
  exact ⟨b, r1, q _ _ x1 n1⟩
def pTru (pe : PP) : Env → Option Bool := fun env => (pe env).bind tru
theorem rp_tru (h : RefP K te pe) : RefPT K (tTrth K te) (pTru pe) := by
  intro G L env σ H Q b e re n q
  obtain ⟨x, e1, e2⟩ := bind_some e
  refine h e1 re n fun v G1 H1 x1 r1 n1 => ?_
  exact ⟨b, tru_ok e2 r1 n1, q _ _ x1 n1⟩
def pNot (pt : Env → Option Bool) : Env → Option Bool := fun env => (pt env).bind fun b => some (!b)
theorem rp_not (h : RefPT K t1 pt) : RefPT K (tNot t1) (pNot pt) := by
  intro G L env σ H Q b e re n q
  obtain ⟨x, e1, e2⟩ := bind_some e
  cases e2
  exact h e1 re n fun G1 H1 x1 n1 => q _ _ x1 n1
def pAnd (pt pu : Env → Option Bool) : Env → Option Bool := fun env => (pt env).bind fun b => if b then pu env else some false
theorem rp_and (h : RefPT K t1 pt) (h2 : RefPT K t2 pu) : RefPT K (tAnd t1 t2) (pAnd pt pu) := by
  intro G L env σ H Q b e re n q
  obtain ⟨x, e1, e2⟩ := bind_some e
  refine h e1 re n fun G1 H1 x1 n1 => ?_
  cases x with
  | true => exact h2 e2 (re.ex x1) n1 fun G2 H2 x2 n2 => q _ _ (x1.trans x2) n2
  | false => cases e2; exact q _ _ x1 n1
def pOr (pt pu : Env → Option Bool) : Env → Option Bool := fun env => (pt env).bind fun b => if b then some true else pu env
theorem rp_or (h : RefPT K t1 pt) (h2 : RefPT K t2 pu) : RefPT K (tOr t1 t2) (pOr pt pu) := by
  intro G L env σ H Q b e re n q
  obtain ⟨x, e1, e2⟩ := bind_some e
  refine h e1 re n fun G1 H1 x1 n1 => ?_
  cases x with
  | false => exact h2 e2 (re.ex x1) n1 fun G2 H2 x2 n2 => q _ _ (x1.trans x2) n2
  | true => cases e2; exact q _ _ x1 n1
def pIf (pt : Env → Option Bool) (pa pb : PP) : PP := fun env => (pt env).bind fun b => if b then pa env else pb env
theorem rp_if (h : RefPT K t1 pt) (ha : RefP K ta pa) (hb : RefP K tb pb) : RefP K (tIf t1 ta tb) (pIf pt pa pb) := by
  intro G L env σ H Q d e re n q
  obtain ⟨x, e1, e2⟩ := bind_some e
  refine h e1 re n fun G1 H1 x1 n1 => ?_
  cases x with
  | true => exact ha e2 (re.ex x1) n1 fun v G2 H2 x2 r2 n2 => q _ _ _ (x1.trans x2) r2 n2
  | false => exact hb e2 (re.ex x1) n1 fun v G2 H2 x2 r2 n2 => q _ _ _ (x1.trans x2) r2 n2
def pAndT (pa pb : PP) : PP := fun env => (pa env).bind fun d => (tru d).bind fun b => if b then pb env else some d
theorem rp_andT (ha : RefP K ta pa) (hb : RefP K tb pb) : RefP K (tAndT K ta tb) (pAndT pa pb) := by
  intro G L env σ H Q d e re n q
  obtain ⟨x, e1, e2⟩ := bind_some e
  obtain ⟨b, e3, e4⟩ := bind_some e2
  refine ha e1 re n fun v G1 H1 x1 r1 n1 => ⟨b, tru_ok e3 r1 n1, ?_⟩
  cases b with
  | true => exact hb e4 (re.ex x1) n1 fun v G2 H2 x2 r2 n2 => q _ _ _ (x1.trans x2) r2 n2
  | false => cases e4; exact q _ _ _ x1 r1 n1
def pOrT (pa pb : PP) : PP := fun env => (pa env).bind fun d => (tru d).bind fun b => if b then some d else pb env
theorem rp_orT (ha : RefP K ta pa) (hb : RefP K tb pb) : RefP K (tOrT K ta tb) (pOrT pa pb) := by
  intro G L env σ H Q d e re n q
  obtain ⟨x, e1, e2⟩ := bind_some e
  obtain ⟨b, e3, e4⟩ := bind_some e2
  refine ha e1 re n fun v G1 H1 x1 r1 n1 => ⟨b, tru_ok e3 r1 n1, ?_⟩
  cases b with
  | false => exact hb e4 (re.ex x1) n1 fun v G2 H2 x2 r2 n2 => q _ _ _ (x1.trans x2) r2 n2
  | true => cases e4; exact q _ _ _ x1 r1 n1
def pNotT (pa : PP) : PP := fun env => (pa env).bind fun d => (tru d).bind fun b => some (.bl (!b))
theorem rp_notT (ha : RefP K ta pa) : RefP K (tNotT K ta) (pNotT pa) := by
  intro G L env σ H Q d e re n q
  obtain ⟨x, e1, e2⟩ := bind_some e
  obtain ⟨b, e3, e4⟩ := bind_some e2
  cases e4
  exact ha e1 re n fun v G1 H1 x1 r1 n1 => ⟨b, tru_ok e3 r1 n1, q _ _ _ x1 (by rw [R]) n1⟩
def pChain (o o2 : D → D → Option D) (pa pb pc : PP) : PP := fun env => (pa env).bind fun x => (pb env).bind fun y => (o x y).bind fun z => (blo z).bind fun b => if b then (pc env).bind fun w => o2 y w else some (.bl false)
theorem rp_chain {o o2 : D → D → Option D} (ho : RefO2 K r o) (ho2 : RefO2 K r2 o2) (ha : RefP K ta pa) (hb : RefP K tb pb) (hc : RefP K tc pc) : RefP K (tChain r r2 ta tb tc) (pChain o o2 pa pb pc) := by
  intro G L env σ H Q d e re n q
  obtain ⟨x, e1, e2⟩ := bind_some e
  obtain ⟨y, e3, e4⟩ := bind_some e2
  obtain ⟨z, e5, e6⟩ := bind_some e4
  obtain ⟨b, e7, e8⟩ := bind_some e6
  cases blo_ok e7
  refine ha e1 re n fun v G1 H1 x1 r1 n1 => ?_
  refine hb e3 (re.ex x1) n1 fun w G2 H2 x2 r2 n2 => ?_
  refine ho e5 (R_ex x2 _ _ r1) r2 n2 fun v' G3 H3 x3 r3 n3 => ?_
  rw [R] at r3
  refine ⟨b, r3, ?_⟩
  cases b with
  | false => cases e8; exact q _ _ _ ((x1.trans x2).trans x3) (by rw [R]) n3
  | true =>
    obtain ⟨w', e9, e10⟩ := bind_some e8
    refine hc e9 (re.ex ((x1.trans x2).trans x3)) n3 fun u G4 H4 x4 r4 n4 => ?_
    exact ho2 e10 (R_ex (x3.trans x4) _ _ r2) r4 n4 fun v' G' H' x5 r5 n5 => q v' G' H' ((((x1.trans x2).trans x3).trans x4).trans x5) r5 n5
/-! slices -/
def RefPO (K : PySem.W.Frag) (tO : TO) (po : Env → Option (Option Int)) : Prop := ∀ ⦃G : Hp⦄ ⦃L : List (Addr × HO)⦄ ⦃env : Env⦄ ⦃σ : L2.St⦄ ⦃H : Hp⦄ ⦃Q : Option Int → Hp → Prop⦄ ⦃b : Option Int⦄, po env = some b → RelF K G env σ → Now G L H →
  (∀ G' H', Ex G G' → Now G' L H' → Q b H') → tO σ H Q
def pNoPart : Env → Option (Option Int) := fun _ => some none
theorem rp_nopart : RefPO K tNoPart pNoPart := fun G L env σ H Q d e r n q => by cases e; exact q G H (Ex.refl _) n
def into : D → Option Int
  | .int i => some i
  | _ => none
theorem into_ok {d : D} {i : Int} (h : into d = some i) : d = .int i := by
  cases d <;> simp [into] at h
  rw [h]
def pPart (pe : PP) : Env → Option (Option Int) := fun env => (pe env).bind fun d => (into d).bind fun i => some (some i)
theorem rp_part (h : RefP K te pe) : RefPO K (tPart te) (pPart pe) := by
  intro G L env σ H Q b e re n q
  obtain ⟨x, e1, e2⟩ := bind_some e
  obtain ⟨i, e3, e4⟩ := bind_some e2
  cases into_ok e3
  cases e4
  refine h e1 re n fun v G1 H1 x1 r1 n1 => ?_
  rw [R] at r1
  exact ⟨i, r1, q _ _ x1 n1⟩
def RefOS (K : PySem.W.Frag) (r : V → Option Int → Option Int → Hp → VK → Prop) (o : D → Option Int → Option Int → Option D) : Prop := ∀ ⦃G : Hp⦄ ⦃L : List (Addr × HO)⦄ ⦃H : Hp⦄ ⦃Q : VK⦄ ⦃d z : D⦄ ⦃l h : Option Int⦄ ⦃x : V⦄, o d l h = some z → R K G d x → Now G L H → Cn K G L z Q → r x l h H Q
def pSl (o : D → Option Int → Option Int → Option D) (pa : PP) (pl ph : Env → Option (Option Int)) : PP := fun env => (pa env).bind fun d => (pl env).bind fun l => (ph env).bind fun h => o d l h
theorem rp_sl {r : V → Option Int → Option Int → Hp → VK → Prop} {o : D → Option Int → Option Int → Option D} {tl th : TO} {pl ph : Env → Option (Option Int)} (ho : RefOS K r o) (ha : RefP K ta pa) (hl : RefPO K tl pl) (hh : RefPO K th ph) : RefP K (tSl r ta tl th) (pSl o pa pl ph) := by
  intro G L env σ H Q d e re n q
  obtain ⟨x, e1, e2⟩ := bind_some e
  obtain ⟨y, e3, e4⟩ := bind_some e2
  obtain ⟨z, e5, e6⟩ := bind_some e4
  refine ha e1 re n fun v G1 H1 x1 r1 n1 => ?_
  refine hl e3 (re.ex x1) n1 fun G2 H2 x2 n2 => ?_
  refine hh e5 (re.ex (x1.trans x2)) n2 fun G3 H3 x3 n3 => ?_
  exact ho e6 (R_ex (x2.trans x3) _ _ r1) n3 fun v' G' H' x4 r4 n4 => q v' G' H' (((x1.trans x2).trans x3).trans x4) r4 n4
/-! calls -/
def sp0 (K : PySem.W.Frag) (f : List D → Option D) : Sp := fun vs H Q _ => ∃ G L ds d, RA K G ds vs ∧ Now G L H ∧ f ds = some d ∧ Cn K G L d Q
def pCall (f : List D → Option D) (ps : Env → Option (List D)) : PP := fun env => (ps env).bind f
theorem rp_call {f : List D → Option D} {E : XK} (hs : RefPA K tt ps) : RefP K (tCall (sp0 K f) [] E tt) (pCall f ps) := by
  intro G L env σ H Q d e re n q
  obtain ⟨x, e1, e2⟩ := bind_some e
  refine hs e1 re n fun v G1 H1 x1 r1 n1 => ?_
  refine ⟨G1, L, x, d, by rw [List.append_nil]; exact r1, n1, e2, fun v' G' H' x2 r2 n2 => q v' G' H' (x1.trans x2) r2 n2⟩
/-- a def that tells a new list -/
def sp0N (K : PySem.W.Frag) (f : List D → Option (List D)) : Sp := fun vs H Q _ => ∃ G L ds es, RA K G ds vs ∧ Now G L H ∧ f ds = some es ∧ ∀ p xs G' H', Ex G G' → RA K G' es xs → Now G' ((p, .lst xs) :: L) H' → Q (.ref p) H'
def pnCall (f : List D → Option (List D)) (ps : Env → Option (List D)) : Env → Option (List D) := fun env => (ps env).bind f
theorem rp_callN {f : List D → Option (List D)} {E : XK} (hs : RefPA K tt ps) : RefPN K (tCall (sp0N K f) [] E tt) (pnCall f ps) := by
  intro G L env σ H Q d e re n q
  obtain ⟨x, e1, e2⟩ := bind_some e
  refine hs e1 re n fun v G1 H1 x1 r1 n1 => ?_
  exact ⟨G1, L, x, d, by rw [List.append_nil]; exact r1, n1, e2, fun p xs G' H' x2 r2 n2 => q p xs G' H' (x1.trans x2) r2 n2⟩
end
end MA
/-! QD: what is walked; comprehensions. -/
namespace MA
open PySem PySem.Spec PyProof.Rows L2 SX
section
variable {K : PySem.W.Frag} {G G' H : Hp} {L : List (Addr × HO)} {d : D} {ds es : List D} {v : V} {te : TE} {tt tk : TA} {pe : PP} {ps : Env → Option (List D)}
/-- the items of what is walked -/
def itm : D → Option (List D)
  | .lst l => some l
  | .tup l => some l
  | .str l => some (l.map fun c => .str [c])
  | .scr l => some (l.map .int)
  | _ => none
theorem R.sk (e : itm d = some ds) (h : R K G d v) : ∃ (k : Sk) (xs : List V), v = k.v ∧ (∀ H, Ex G H → k.has K H xs) ∧ RA K G ds xs := by
  cases d with
  | lst l =>
    cases e
    rw [R] at h
    obtain ⟨a, xs, rfl, h1, h2⟩ := h
    exact ⟨.lst a, xs, rfl, fun H x => sqL (x _ _ h1), h2⟩
  | tup l =>
    cases e
    rw [R] at h
    obtain ⟨a, xs, rfl, h1, h2⟩ := h
    exact ⟨.tup a, xs, rfl, fun H x => st_ex x h1, h2⟩
  | str l =>
    cases e
    rw [R] at h
    subst h
    exact ⟨.str (S l), _, rfl, fun H x => rfl, by rw [signs_S]; exact RA.map (fun c => by rw [R]) l⟩
  | scr l =>
    cases e
    rw [R] at h
    obtain ⟨a, rfl, h1⟩ := h
    exact ⟨.lst a, _, rfl, fun H x => sq_ex x h1, RA.map (fun c => by rw [R]) l⟩
  | _ => cases e
theorem itok {G0 : Hp} {Gp : Hp → Prop} {Y : Nat → Hp → V → Hp → Prop} {m : Nat} (hm : m = ds.length) (h1 : ∀ G L H, Ex G0 G → Now G L H → Gp H)
    (h2 : ∀ (i : Nat) (d : D) (G : Hp) (L : List (Addr × HO)) (H : Hp) (x : V) (H' : Hp), ds[i]? = some d → Ex G0 G → Now G L H → Y i H x H' → ∃ G', Ex G G' ∧ R K G' d x ∧ Now G' L H') : ItOk K G0 (Itg Gp m Y) ds := ⟨Gp, Y, by rw [hm], h1, h2⟩
theorem it_seq {k : Sk} {xs : List V} (h : ∀ H, Ex G H → k.has K H xs) (r : RA K G ds xs) : ItOk K G (ItQ K k xs) ds := by
  refine itok r.len (fun G' L H e n => h H (e.trans n.Ex)) fun i d G' L H x H' hd e n ⟨eh, ex⟩ => ?_
  subst eh
  obtain ⟨v, q1, q2⟩ := r.get hd
  rw [ex] at q1
  cases q1
  exact ⟨G', Ex.refl _, R_ex e _ _ q2, n⟩
def pSeq (pe : PP) : Env → Option (List D) := fun env => (pe env).bind itm
theorem rp_seq (h : RefP K te pe) : RefPI K (iSeq K te) (pSeq pe) := by
  intro G L env σ H Q ds e re n q
  obtain ⟨x, e1, e2⟩ := bind_some e
  refine h e1 re n fun v G1 H1 x1 r1 n1 => ?_
  obtain ⟨k, xs, rfl, hk, ra⟩ := r1.sk e2
  exact ⟨k, xs, rfl, hk _ n1.Ex, q _ _ _ x1 (it_seq hk ra) n1⟩
def enumD : Nat → List D → List D
  | _, [] => []
  | i, d :: ds => .tup [.int (i : Nat), d] :: enumD (i + 1) ds
theorem enumD_len : ∀ (i : Nat) (ds : List D), (enumD i ds).length = ds.length
  | _, [] => rfl
  | i, d :: ds => by rw [enumD, List.length_cons, List.length_cons, enumD_len]
theorem enumD_get : ∀ (k : Nat) (ds : List D) (i : Nat), (enumD k ds)[i]? = ds[i]?.map fun d => .tup [.int ((k + i : Nat) : Int), d]
  | _, [], i => by simp [enumD]
  | k, d :: ds, 0 => by simp [enumD]
  | k, d :: ds, i + 1 => by
    rw [enumD, List.getElem?_cons_succ, List.getElem?_cons_succ, enumD_get]
    have : k + 1 + i = k + (i + 1) := by omega
    rw [this]
theorem tup2 {T : Addr} {x y : V} {d e : D} (n : Now G L H) (hT : H T = none) (h1 : R K G d x) (h2 : R K G e y) : ∃ G', Ex G G' ∧ R K G' (.tup [d, e]) (.ref T) ∧ Now G' L (upd H T (.tup [x, y])) := by
  refine ⟨_, n.exn hT, ?_, n.newG hT⟩
  rw [R]
  exact ⟨T, _, rfl, sqT upd_same, RA.cons (R_ex (n.exn hT) _ _ h1) (RA.cons (R_ex (n.exn hT) _ _ h2) RA.nil)⟩
theorem it_enum {k : Sk} {xs : List V} (h : ∀ H, Ex G H → k.has K H xs) (r : RA K G ds xs) : ItOk K G (ItE K k xs) (enumD 0 ds) := by
  refine itok (by rw [enumD_len, ← r.len]) (fun G' L H e n => h H (e.trans n.Ex)) fun i d G' L H x H' hd e n ⟨T, y, ex, hT, eh, hy⟩ => ?_
  rw [enumD_get] at hd
  cases e1 : ds[i]? with
  | none => rw [e1] at hd; cases hd
  | some d0 =>
    rw [e1] at hd
    cases hd
    obtain ⟨v, q1, q2⟩ := r.get e1
    rw [hy] at q1
    cases q1
    subst ex; subst eh
    refine tup2 n hT ?_ (R_ex e _ _ q2)
    rw [R, Nat.zero_add]
def pEnum (ps : Env → Option (List D)) : Env → Option (List D) := fun env => (ps env).bind fun l => match l with
  | [d] => (itm d).bind fun ds => some (enumD 0 ds)
  | _ => none
theorem rp_enum (h : RefPA K tt ps) : RefPI K (iEnumS K tt) (pEnum ps) := by
  intro G L env σ H Q ds e re n q
  obtain ⟨l, e1, e2⟩ := bind_some e
  match l, e1, e2 with
  | [d], e1, e2 =>
    obtain ⟨ds', e3, e4⟩ := bind_some e2
    cases e4
    refine h e1 re n fun vs G1 H1 x1 r1 n1 => ?_
    rw [RA] at r1
    obtain ⟨v, r, rfl, r2, r3⟩ := r1
    rw [RA] at r3
    subst r3
    obtain ⟨k, xs, rfl, hk, ra⟩ := r2.sk e3
    exact ⟨k, xs, rfl, hk _ n1.Ex, q _ _ _ x1 (it_enum hk ra) n1⟩
def zipD (ds es : List D) : List D := List.zipWith (fun d e => .tup [d, e]) ds es
theorem it_zip {k k2 : Sk} {xs ys : List V} {m : Nat} (h : ∀ H, Ex G H → k.has K H xs) (h2 : ∀ H, Ex G H → k2.has K H ys) (r : RA K G ds xs) (r2 : RA K G es ys) (hm : m = (zipD ds es).length) : ItOk K G (Itg (fun H => k.has K H xs ∧ k2.has K H ys) m (yPair xs ys)) (zipD ds es) := by
  refine itok hm (fun G' L H e n => ⟨h H (e.trans n.Ex), h2 H (e.trans n.Ex)⟩) fun i d G' L H x H' hd e n ⟨T, a, b, ex, hT, eh, ha, hb⟩ => ?_
  subst ex; subst eh
  unfold zipD at hd
  rw [List.getElem?_zipWith] at hd
  obtain ⟨d1, q1, q2⟩ := r.getV ha
  obtain ⟨d2, q3, q4⟩ := r2.getV hb
  rw [q1, q3] at hd
  cases hd
  exact tup2 n hT (R_ex e _ _ q2) (R_ex e _ _ q4)
def pZip (strict : Bool) (ps : Env → Option (List D)) : Env → Option (List D) := fun env => (ps env).bind fun l => match l with
  | [d, e] => (itm d).bind fun ds => (itm e).bind fun es => if strict && ds.length != es.length then none else some (zipD ds es)
  | _ => none
theorem RA2 {d e : D} {vs : List V} (r1 : RA K G [d, e] vs) : ∃ v w, vs = [v, w] ∧ R K G d v ∧ R K G e w := by
  rw [RA] at r1
  obtain ⟨v, r, rfl, r2, r3⟩ := r1
  rw [RA] at r3
  obtain ⟨w, r, rfl, r4, r5⟩ := r3
  rw [RA] at r5
  subst r5
  exact ⟨v, w, rfl, r2, r4⟩
theorem RA1 {d : D} {vs : List V} (r1 : RA K G [d] vs) : ∃ v, vs = [v] ∧ R K G d v := by
  rw [RA] at r1
  obtain ⟨v, r, rfl, r2, r3⟩ := r1
  rw [RA] at r3
  subst r3
  exact ⟨v, rfl, r2⟩
theorem zipD_len : (zipD ds es).length = min ds.length es.length := by unfold zipD; rw [List.length_zipWith]
theorem rp_zip (h : RefPA K tt ps) : RefPI K (iZipS K tt (tCons (tC (.bl true)) tNil)) (pZip true ps) := by
  intro G L env σ H Q ds e re n q
  obtain ⟨l, e1, e2⟩ := bind_some e
  match l, e1, e2 with
  | [d, f], e1, e2 =>
    obtain ⟨ds', e3, e4⟩ := bind_some e2
    obtain ⟨es', e5, e6⟩ := bind_some e4
    split at e6
    · cases e6
    · rename_i hl
      cases e6
      have hl' : ds'.length = es'.length := by simpa using hl
      refine h e1 re n fun vs G1 H1 x1 r1 n1 => ?_
      obtain ⟨v, w, rfl, r2, r4⟩ := RA2 r1
      obtain ⟨k, xs, rfl, hk, ra⟩ := r2.sk e3
      obtain ⟨k2, ys, rfl, hk2, ra2⟩ := r4.sk e5
      exact ⟨k, k2, xs, ys, rfl, rfl, hk _ n1.Ex, hk2 _ n1.Ex, by rw [ra.len, ra2.len, hl'], q _ _ _ x1 (it_zip hk hk2 ra ra2 (by rw [zipD_len, ra.len, hl', Nat.min_self])) n1⟩
theorem rp_zipN (h : RefPA K tt ps) : RefPI K (iZipN K tt) (pZip false ps) := by
  intro G L env σ H Q ds e re n q
  obtain ⟨l, e1, e2⟩ := bind_some e
  match l, e1, e2 with
  | [d, f], e1, e2 =>
    obtain ⟨ds', e3, e4⟩ := bind_some e2
    obtain ⟨es', e5, e6⟩ := bind_some e4
    rw [Bool.false_and, if_neg Bool.false_ne_true] at e6
    cases e6
    refine h e1 re n fun vs G1 H1 x1 r1 n1 => ?_
    obtain ⟨v, w, rfl, r2, r4⟩ := RA2 r1
    obtain ⟨k, xs, rfl, hk, ra⟩ := r2.sk e3
    obtain ⟨k2, ys, rfl, hk2, ra2⟩ := r4.sk e5
    exact ⟨k, k2, xs, ys, rfl, hk _ n1.Ex, hk2 _ n1.Ex, q _ _ _ x1 (it_zip hk hk2 ra ra2 (by rw [zipD_len, ra.len, ra2.len])) n1⟩
def pEnumZip (ps : Env → Option (List D)) : Env → Option (List D) := fun env => (pZip true ps env).bind fun l => some (enumD 0 l)
theorem rp_enumZip (h : RefPA K tt ps) : RefPI K (iEnumZipS K tt (tCons (tC (.bl true)) tNil)) (pEnumZip ps) := by
  intro G L env σ H Q ds e re n q
  obtain ⟨l0, e0, ee⟩ := bind_some e
  cases ee
  obtain ⟨l, e1, e2⟩ := bind_some e0
  match l, e1, e2 with
  | [d, f], e1, e2 =>
    obtain ⟨ds', e3, e4⟩ := bind_some e2
    obtain ⟨es', e5, e6⟩ := bind_some e4
    split at e6
    · cases e6
    · rename_i hl
      cases e6
      have hl' : ds'.length = es'.length := by simpa using hl
      refine h e1 re n fun vs G1 H1 x1 r1 n1 => ?_
      obtain ⟨v, w, rfl, r2, r4⟩ := RA2 r1
      obtain ⟨k, xs, rfl, hk, ra⟩ := r2.sk e3
      obtain ⟨k2, ys, rfl, hk2, ra2⟩ := r4.sk e5
      refine ⟨k, k2, xs, ys, rfl, rfl, hk _ n1.Ex, hk2 _ n1.Ex, by rw [ra.len, ra2.len, hl'], q _ _ _ x1 ?_ n1⟩
      refine itok (by rw [enumD_len, zipD_len, ← ra.len, ← ra2.len, show ys.length = xs.length by rw [ra.len, ra2.len, hl'], Nat.min_self]) (fun G' L H e n => ⟨hk H (e.trans n.Ex), hk2 H (e.trans n.Ex)⟩) fun i d G' L H x H' hd e n ⟨T, T2, a, b, ex, hT, hT2, eh, ha, hb⟩ => ?_
      subst ex; subst eh
      rw [enumD_get] at hd
      unfold zipD at hd
      rw [List.getElem?_zipWith] at hd
      obtain ⟨d1, q1, q2⟩ := ra.getV ha
      obtain ⟨d2, q3, q4⟩ := ra2.getV hb
      rw [q1, q3] at hd
      cases hd
      obtain ⟨G2, z1, z2, z3⟩ := tup2 n hT (R_ex e _ _ q2) (R_ex e _ _ q4)
      obtain ⟨G3, z4, z5, z6⟩ := tup2 (d := .int (i : Nat)) (x := .int (i : Nat)) z3 hT2 (by rw [R]) z2
      refine ⟨G3, z1.trans z4, ?_, z6⟩
      rw [Nat.zero_add]; exact z5
/-! range -/
theorem it_rng (lo : Int) (m : Nat) : ItOk K G (Itg (fun _ => True) m (fun i H x H' => H' = H ∧ x = .int (lo + (i : Nat)))) ((List.range m).map fun (i : Nat) => .int (lo + (i : Nat))) := by
  refine itok (by rw [List.length_map, List.length_range]) (fun G' L H e n => trivial) fun i d G' L H x H' hd e n ⟨eh, ex⟩ => ?_
  subst eh
  rw [List.getElem?_map] at hd
  have hi : i < m := by
    rcases Nat.lt_or_ge i m with h | h
    · exact h
    · rw [List.getElem?_eq_none (by rw [List.length_range]; exact h)] at hd; cases hd
  rw [List.getElem?_range hi] at hd
  cases hd
  exact ⟨G', Ex.refl _, by rw [R]; exact ex, n⟩
def rngD (lo hi : Int) : List D := (List.range (hi - lo).toNat).map fun (i : Nat) => .int (lo + (i : Nat))
def pRng (ps : Env → Option (List D)) : Env → Option (List D) := fun env => (ps env).bind fun l => match l with
  | [.int j] => if -(2 ^ 62) ≤ j ∧ j < 2 ^ 62 then some (rngD 0 j) else none
  | _ => none
theorem rp_rng1 (h : RefPA K tt ps) : RefPI K (iRng1 tt) (pRng ps) := by
  intro G L env σ H Q ds e re n q
  obtain ⟨l, e1, e2⟩ := bind_some e
  match l, e1, e2 with
  | [.int j], e1, e2 =>
    simp only at e2
    split at e2
    · rename_i hj
      cases e2
      refine h e1 re n fun vs G1 H1 x1 r1 n1 => ?_
      obtain ⟨v, rfl, r2⟩ := RA1 r1
      rw [R] at r2
      subst r2
      refine w_rngI hj.1 hj.2 (q _ _ _ x1 ?_ n1)
      unfold rngD
      rw [Int.sub_zero]
      exact it_rng 0 j.toNat
    · cases e2
def pRng2 (ps : Env → Option (List D)) : Env → Option (List D) := fun env => (ps env).bind fun l => match l with
  | [.int i, .int j] => if -(2 ^ 62) ≤ i ∧ i < 2 ^ 62 ∧ -(2 ^ 62) ≤ j ∧ j < 2 ^ 62 then some (rngD i j) else none
  | _ => none
theorem rp_rng2 (h : RefPA K tt ps) : RefPI K (iRng2 tt) (pRng2 ps) := by
  intro G L env σ H Q ds e re n q
  obtain ⟨l, e1, e2⟩ := bind_some e
  match l, e1, e2 with
  | [.int i, .int j], e1, e2 =>
    simp only at e2
    split at e2
    · rename_i hj
      cases e2
      refine h e1 re n fun vs G1 H1 x1 r1 n1 => ?_
      obtain ⟨v, w, rfl, r2, r3⟩ := RA2 r1
      rw [R] at r2 r3
      subst r2; subst r3
      refine w_rngI2 hj (q _ _ _ x1 ?_ n1)
      exact it_rng i (j - i).toNat
    · cases e2
/-! reversed(text) -/
def pRevS (pe : PP) : Env → Option (List D) := fun env => (pe env).bind fun d => match d with
  | .str l => if l.length ≤ 100000 then some (l.reverse.map fun c => .str [c]) else none
  | _ => none
theorem rp_revS (h : RefP K te pe) : RefPI K (RS.iRevS te) (pRevS pe) := by
  intro G L env σ H Q ds e re n q
  obtain ⟨d, e1, e2⟩ := bind_some e
  match d, e1, e2 with
  | .str l, e1, e2 =>
    simp only at e2
    split at e2
    · rename_i hl
      cases e2
      refine h e1 re n fun v G1 H1 x1 r1 n1 => ?_
      rw [R] at r1
      subst r1
      refine w_revI hl (q _ _ _ x1 ?_ n1)
      refine itok (by rw [List.length_map, List.length_reverse]) (fun G' L H e n => trivial) fun i d G' L H x H' hd e n ⟨eh, ex⟩ => ?_
      subst eh
      have hi : i < l.length := by
        have := (List.getElem?_eq_some_iff.mp hd).1
        rw [List.length_map, List.length_reverse] at this
        exact this
      rw [List.getElem?_map, List.getElem?_reverse hi] at hd
      rw [List.getElem?_map] at ex
      have hc : l[l.length - 1 - i]? = some (l[l.length - 1 - i]'(by omega)) := List.getElem?_eq_getElem _
      rw [hc] at hd ex
      cases hd; cases ex
      exact ⟨G', Ex.refl _, by rw [R], n⟩
    · cases e2
end
/-! ### targets and comprehensions -/
def Agr (vs : List Nat) (σ σ' : L2.St) : Prop := σ'.length = σ.length ∧ ∀ j, j ∉ vs → σ'[j]? = σ[j]?
theorem Agr.refl (vs : List Nat) (σ : L2.St) : Agr vs σ σ := ⟨rfl, fun _ _ => rfl⟩
theorem Agr.trans {vs : List Nat} {σ σ1 σ2 : L2.St} (a : Agr vs σ σ1) (b : Agr vs σ1 σ2) : Agr vs σ σ2 := ⟨b.1.trans a.1, fun j h => (b.2 j h).trans (a.2 j h)⟩
theorem Agr.set {vs : List Nat} {σ : L2.St} {i : Nat} {x : Option V} (h : i ∈ vs) : Agr vs σ (σ.set i x) := ⟨List.length_set .., fun j hj => List.getElem?_set_ne (fun (e : i = j) => hj (e ▸ h))⟩
theorem wipe_get (σ : L2.St) : ∀ (vs : List Nat) (j : Nat), (wipe σ vs)[j]? = if j ∈ vs then σ[j]?.map (fun _ => none) else σ[j]?
  | [], j => by simp [wipe]
  | v :: vs, j => by
    rw [wipe, List.getElem?_set, wipe_get σ vs j, wipe_length]
    by_cases hv : v = j
    · subst hv
      rw [if_pos rfl, if_pos (List.mem_cons_self ..)]
      split
      · rename_i h; rw [List.getElem?_eq_getElem h]; rfl
      · rename_i h; rw [List.getElem?_eq_none (by omega)]; rfl
    · rw [if_neg hv]
      by_cases hj : j ∈ vs
      · rw [if_pos hj, if_pos (List.mem_cons_of_mem _ hj)]
      · rw [if_neg hj, if_neg]
        intro h
        rcases List.mem_cons.mp h with e | h
        · exact hv e.symm
        · exact hj h
theorem wipe_agr {vs : List Nat} {σ σ' : L2.St} (h : Agr vs (wipe σ vs) σ') : wipe σ' vs = wipe σ vs := by
  apply List.ext_getElem?
  intro j
  rw [wipe_get, wipe_get]
  by_cases hj : j ∈ vs
  · rw [if_pos hj, if_pos hj]
    have hl := h.1
    rw [wipe_length] at hl
    by_cases hb : j < σ.length
    · rw [List.getElem?_eq_getElem hb, List.getElem?_eq_getElem (by omega)]; rfl
    · rw [List.getElem?_eq_none (by omega), List.getElem?_eq_none (by omega)]
  · rw [if_neg hj, if_neg hj, h.2 j hj, wipe_get, if_neg hj]
def wipeF (env : Env) : List Nat → Env
  | [] => env
  | v :: vs => (wipeF env vs).set v none
theorem wipeF_len (env : Env) : ∀ vs : List Nat, (wipeF env vs).length = env.length
  | [] => rfl
  | v :: vs => by rw [wipeF, List.length_set, wipeF_len]
theorem wipeF_get (env : Env) : ∀ (vs : List Nat) (j : Nat), (wipeF env vs)[j]? = if j ∈ vs then env[j]?.map (fun _ => none) else env[j]?
  | [], j => by simp [wipeF]
  | v :: vs, j => by
    rw [wipeF, List.getElem?_set, wipeF_get env vs j, wipeF_len]
    by_cases hv : v = j
    · subst hv
      rw [if_pos rfl, if_pos (List.mem_cons_self ..)]
      split
      · rename_i h; rw [List.getElem?_eq_getElem h]; rfl
      · rename_i h; rw [List.getElem?_eq_none (by omega)]; rfl
    · rw [if_neg hv]
      by_cases hj : j ∈ vs
      · rw [if_pos hj, if_pos (List.mem_cons_of_mem _ hj)]
      · rw [if_neg hj, if_neg]
        intro h
        rcases List.mem_cons.mp h with e | h
        · exact hv e.symm
        · exact hj h
theorem RelF.wipe {K : PySem.W.Frag} {G : Hp} {env : Env} {σ : L2.St} (r : RelF K G env σ) (vs : List Nat) : RelF K G (wipeF env vs) (L2.wipe σ vs) := by
  refine ⟨by rw [wipe_length, wipeF_len]; exact r.1, fun i d h => ?_⟩
  unfold pget at h
  rw [wipeF_get] at h
  by_cases hi : i ∈ vs
  · rw [if_pos hi] at h
    cases e : env[i]? <;> rw [e] at h <;> cases h
  · rw [if_neg hi] at h
    obtain ⟨v, q1, q2⟩ := r.2 i d h
    exact ⟨v, by rw [wipe_get, if_neg hi]; exact q1, q2⟩
abbrev PG' := D → Env → Option Env
section
variable {K : PySem.W.Frag} {vs : List Nat} {g : TG} {gs : TGs} {pg : PG'} {wi : TI} {pi : Env → Option (List D)} {tt : TT} {pt : Env → Option Bool} {te : TE} {pe : PP}
def RefPG (K : PySem.W.Frag) (vs : List Nat) (g : TG) (pg : PG') : Prop := ∀ ⦃G : Hp⦄ ⦃L : List (Addr × HO)⦄ ⦃env env' : Env⦄ ⦃σ : L2.St⦄ ⦃H : Hp⦄ ⦃Q : L2.St → Hp → Prop⦄ ⦃d : D⦄ ⦃v : V⦄, pg d env = some env' → RelF K G env σ → R K G d v → Now G L H →
  (∀ σ', RelF K G env' σ' → Agr vs σ σ' → Q σ' H) → g v σ H Q
def RefPGs (K : PySem.W.Frag) (vs : List Nat) (g : TGs) (pg : List D → Env → Option Env) : Prop := ∀ ⦃G : Hp⦄ ⦃L : List (Addr × HO)⦄ ⦃env env' : Env⦄ ⦃σ : L2.St⦄ ⦃H : Hp⦄ ⦃Q : L2.St → Hp → Prop⦄ ⦃d : List D⦄ ⦃v : List V⦄, pg d env = some env' → RelF K G env σ → RA K G d v → Now G L H →
  (∀ σ', RelF K G env' σ' → Agr vs σ σ' → Q σ' H) → g v σ H Q
def gN (i : Nat) : PG' := fun d env => some (env.set i (some (.v d)))
theorem rg_name {i : Nat} (h : i ∈ vs) : RefPG K vs (gName i) (gN i) := by
  intro G L env env' σ H Q d v e re rd n q
  cases e
  refine q _ ⟨by rw [List.length_set, List.length_set]; exact re.1, fun j d' hj => ?_⟩ (Agr.set h)
  unfold pget at hj
  rw [List.getElem?_set] at hj
  by_cases hij : i = j
  · subst hij
    rw [if_pos rfl] at hj
    split at hj <;> rename_i h1 <;> try cases hj
    · split at h1
      · rename_i hl
        cases h1
        exact ⟨v, by rw [List.getElem?_set_self (by rw [re.1]; exact hl)], rd⟩
      · cases h1
    · split at h1 <;> cases h1
    · split at h1 <;> cases h1
    · split at h1 <;> cases h1
    · split at h1 <;> cases h1
  · rw [if_neg hij] at hj
    obtain ⟨w, q1, q2⟩ := re.2 j d' hj
    exact ⟨w, by rw [List.getElem?_set_ne hij]; exact q1, q2⟩
def gsNil : List D → Env → Option Env := fun ds env => match ds with
  | [] => some env
  | _ => none
theorem rg_nil : RefPGs K vs gNil gsNil := by
  intro G L env env' σ H Q d v e re rd n q
  cases d with
  | nil => cases e; rw [RA] at rd; exact ⟨rd, q σ re (Agr.refl _ _)⟩
  | cons _ _ => cases e
def gsCons (pg : PG') (ps : List D → Env → Option Env) : List D → Env → Option Env := fun ds env => match ds with
  | d :: ds => (pg d env).bind fun e => ps ds e
  | [] => none
theorem rg_cons {ps : List D → Env → Option Env} (h : RefPG K vs g pg) (hs : RefPGs K vs gs ps) : RefPGs K vs (gCons g gs) (gsCons pg ps) := by
  intro G L env env' σ H Q d v e re rd n q
  cases d with
  | nil => cases e
  | cons d ds =>
    rw [RA] at rd
    obtain ⟨x, r, rfl, h1, h2⟩ := rd
    obtain ⟨e1, z1, z2⟩ := bind_some e
    exact ⟨x, r, rfl, h z1 re h1 n fun σ' re' a => hs z2 re' h2 n fun σ2 re2 a2 => q σ2 re2 (a.trans a2)⟩
def gT (m : Nat) (ps : List D → Env → Option Env) : PG' := fun d env => match d with
  | .tup ds => if ds.length = m then ps ds env else none
  | .lst ds => if ds.length = m then ps ds env else none
  | _ => none
theorem rg_tup {m : Nat} {ps : List D → Env → Option Env} (hs : RefPGs K vs gs ps) : RefPG K vs (gSq K m gs) (gT m ps) := by
  intro G L env env' σ H Q d v e re rd n q
  cases d with
  | tup ds =>
    rw [gT] at e
    split at e
    · rename_i hm
      rw [R] at rd
      obtain ⟨a, xs, rfl, h1, h2⟩ := rd
      exact ⟨a, xs, rfl, .inl (st_ex n.Ex h1), by rw [h2.len, hm], hs e re h2 n q⟩
    · cases e
  | lst ds =>
    rw [gT] at e
    split at e
    · rename_i hm
      rw [R] at rd
      obtain ⟨a, xs, rfl, h1, h2⟩ := rd
      exact ⟨a, xs, rfl, .inr (sqL (n.ex _ _ h1)), by rw [h2.len, hm], hs e re h2 n q⟩
    · cases e
  | _ => cases e
/-- a comprehension, item by item -/
def lcP (pg : PG') (pt : Env → Option Bool) (pe : PP) : List D → Env → Option (List D)
  | [], _ => some []
  | x :: xs, env => (pg x env).bind fun e => (pt e).bind fun b => if b then (pe e).bind fun y => (lcP pg pt pe xs env).bind fun r => some (y :: r) else lcP pg pt pe xs env
def pnLc (pi : Env → Option (List D)) (pg : PG') (pt : Env → Option Bool) (pe : PP) (vs : List Nat) : Env → Option (List D) := fun env => (pi env).bind fun items => if items.length ≤ 100000 then lcP pg pt pe items (wipeF env vs) else none
def pYes : Env → Option Bool := fun _ => some true
theorem rp_yes : RefPT K tYes pYes := fun G L env σ H Q b e re n q => by cases e; exact q G H (Ex.refl _) n
theorem rp_lc (hi : RefPI K wi pi) (hg : RefPG K vs g pg) (ht : RefPT K tt pt) (he : RefP K te pe) : RefPN K (tLc wi g tt te vs) (pnLc pi pg pt pe vs) := by
  intro G L env σ H Q ds e re n q
  obtain ⟨items, e1, e2⟩ := bind_some e
  split at e2
  case isFalse => cases e2
  rename_i hl
  refine w_lc (hi e1 re n fun J G1 H1 x1 ok n1 => ?_)
  obtain ⟨Gp, Y, rfl, hGp, hY⟩ := ok
  refine lc_now n1 (fun i acc G2 L2 => ∃ done rest, L2 = L ∧ Ex G1 G2 ∧ RA K G2 done acc ∧ done.length ≤ i ∧ lcP pg pt pe (items.drop i) (wipeF env vs) = some rest ∧ done ++ rest = ds) ⟨[], ds, rfl, Ex.refl _, RA.nil, Nat.le_refl _, e2, rfl⟩ ?_ ?_ ?_
  · rintro i acc G2 L2 H2 ⟨done, rest, rfl, x2, _⟩ n2
    exact hGp _ _ _ x2 n2
  · rintro Da i x H2 H3 acc G2 L2 hil ⟨done, rest, rfl, x2, ra, hdl, el, ed⟩ n2 y
    have hd : items[i]? = some (items[i]'hil) := List.getElem?_eq_getElem hil
    obtain ⟨G3, x3, rd, n3⟩ := hY i _ _ _ _ _ _ hd x2 n2 y
    rw [List.drop_eq_getElem_cons hil, lcP] at el
    obtain ⟨en, el1, el2⟩ := bind_some el
    obtain ⟨b, el3, el4⟩ := bind_some el2
    refine hg el1 ((re.ex ((x1.trans x2).trans x3)).wipe vs) rd n3 fun σ2 re2 ag => ⟨wipe_agr ag, ?_⟩
    refine ht el3 re2 n3 fun G4 H4 x4 n4 => ?_
    cases b with
    | false => exact ⟨_, _, _, ⟨done, rest, rfl, (x2.trans x3).trans x4, RA_ex (x3.trans x4) _ _ ra, by omega, el4, ed⟩, n4⟩
    | true =>
      obtain ⟨z, el5, el6⟩ := bind_some el4
      obtain ⟨rs, el7, el8⟩ := bind_some el6
      cases el8
      refine he el5 (re2.ex x4) n4 fun w G5 H5 x5 r5 n5 => ?_
      refine LcP.add n5 (by rw [ra.len]; omega) ⟨done ++ [z], rs, rfl, ((x2.trans x3).trans x4).trans x5, (RA_ex ((x3.trans x4).trans x5) _ _ ra).append (RA.cons r5 RA.nil), by rw [List.length_append]; simp; omega, el7, by rw [← ed]; simp⟩
  · rintro Da H2 acc G2 L2 ⟨done, rest, rfl, x2, ra, hdl, el, ed⟩ n2
    rw [List.drop_length, lcP] at el
    cases el
    rw [List.append_nil] at ed
    subst ed
    exact q _ _ _ _ (x1.trans x2) ra n2
end
end MA
/-! QE: with effects; statements; defs. -/
namespace MA
open PySem PySem.Spec PyProof.Rows L2 SX
section
variable {K : PySem.W.Frag} {G G' H : Hp} {L Lo : List (Addr × HO)} {as : List Addr} {env env' : Env} {σ σ' : L2.St} {i : Nat} {d : D} {v : V} {o : Ob} {vs : List Nat}
theorem Rel.any (r : Rel K G as env σ Lo) (hl : σ'.length = σ.length) (h : ∀ (j : Nat) (c : C), env[j]? = some (some c) → σ'[j]? = σ[j]?) : Rel K G as env σ' Lo := by
  induction r generalizing σ' with
  | nil => cases σ' with
    | nil => exact .nil
    | cons _ _ => simp at hl
  | emp r ih => cases σ' with
    | nil => simp at hl
    | cons x s => exact .emp (ih (by simpa using hl) fun j c hc => by simpa using h (j + 1) c (by simpa using hc))
  | val hd r ih => cases σ' with
    | nil => simp at hl
    | cons x s =>
      have := h 0 _ rfl
      simp at this
      subst this
      exact .val hd (ih (by simpa using hl) fun j c hc => by simpa using h (j + 1) c (by simpa using hc))
  | own hd r ih => cases σ' with
    | nil => simp at hl
    | cons x s =>
      have := h 0 _ rfl
      simp at this
      subst this
      exact .own hd (ih (by simpa using hl) fun j c hc => by simpa using h (j + 1) c (by simpa using hc))
  | io hd r ih => cases σ' with
    | nil => simp at hl
    | cons x s =>
      have := h 0 _ rfl
      simp at this
      subst this
      exact .io hd (ih (by simpa using hl) fun j c hc => by simpa using h (j + 1) c (by simpa using hc))
theorem Wd.ex (e : Ex G G') (w : Wd K G L as env σ H) (n : ∀ L', Now G L' H → Now G' L' H) : Wd K G' L as env σ H := by
  obtain ⟨Lo, r, n1⟩ := w
  exact ⟨Lo, r.ex e, n _ n1⟩
theorem Wd.setv (w : Wd K G L as env σ H) (hi : notIo env i = true) (h : R K G d v) : Wd K G L as (env.set i (some (.v d))) (σ.set i (some v)) H := by
  obtain ⟨Lo, r, n⟩ := w
  obtain ⟨L', q1, Ls, q2, q3⟩ := r.setv hi h
  exact ⟨L', q1, (n.sub (q3.append_right _)).permL q2.symm⟩
theorem Wd.setn (w : Wd K G L as env σ H) (hi : notIo env i = true) (x : Option V) : Wd K G L as (env.set i none) (σ.set i x) H := by
  obtain ⟨Lo, r, n⟩ := w
  obtain ⟨L', q1, Ls, q2, q3⟩ := r.setn hi x
  exact ⟨L', q1, (n.sub (q3.append_right _)).permL q2.symm⟩
theorem midC {G : Hp} {L Lo cs : List (Addr × HO)} {H : Hp} (n : Now G (cs ++ (Lo ++ L)) H) : Now G (Lo ++ (cs ++ L)) H := n.perm (pmid cs Lo L)
theorem midC' {G : Hp} {L Lo cs : List (Addr × HO)} {H : Hp} (n : Now G (Lo ++ (cs ++ L)) H) : Now G (cs ++ (Lo ++ L)) H := n.perm (pmid Lo cs L)
theorem Wd.setm {p : Addr} {cs : List (Addr × HO)} (w : Wd K G (cs ++ L) as env σ H) (hi : notIo env i = true) (ho : RO K G o p cs) : Wd K G L as (env.set i (some (.m o))) (σ.set i (some (.ref p))) H := by
  obtain ⟨Lo, r, n⟩ := w
  obtain ⟨L', q1, Ls, q2, q3⟩ := r.setm (p := p) hi ho
  refine ⟨L', q1, Now.permL (Lo := cs ++ Ls) ?_ q2.symm⟩
  rw [List.append_assoc]
  exact midC' (n.sub (q3.append_right _))
theorem Wd.any (w : Wd K G L as env σ H) (hl : σ'.length = σ.length) (h : ∀ (j : Nat) (c : C), env[j]? = some (some c) → σ'[j]? = σ[j]?) : Wd K G L as env σ' H := by
  obtain ⟨Lo, r, n⟩ := w
  exact ⟨Lo, r.any hl h, n⟩
theorem notIo_wipe : ∀ {vs : List Nat}, notIo env i = true → notIo (wipeF env vs) i = true := fun {vs} h => by
  unfold notIo at h ⊢
  rw [wipeF_get]
  by_cases hi : i ∈ vs
  · rw [if_pos hi]
    rcases e : env[i]? with _ | c
    · rw [e] at h; cases h
    · rfl
  · rw [if_neg hi]; exact h
theorem Wd.wipe (w : Wd K G L as env σ H) : ∀ {vs : List Nat}, vs.all (notIo env) = true → Wd K G L as (wipeF env vs) (L2.wipe σ vs) H
  | [], _ => w
  | v :: vs, h => by
    rw [List.all_cons, Bool.and_eq_true] at h
    rw [wipeF, L2.wipe]
    exact (w.wipe h.2).setn (notIo_wipe h.1) none
theorem Wd.unwipe (w : Wd K G L as (wipeF env vs) (L2.wipe σ vs) H) : Wd K G L as (wipeF env vs) σ H := by
  refine w.any (by rw [wipe_length]) fun j c hc => ?_
  rw [wipeF_get] at hc
  by_cases hj : j ∈ vs
  · rw [if_pos hj] at hc
    cases e : env[j]? <;> rw [e] at hc <;> cases hc
  · rw [wipe_get, if_neg hj]
end
/-! ### expressions with effects -/
section
variable {K : PySem.W.Frag} {ta tb tc te : TE} {tt : TA} {t1 t2 : TT} {r r2 : R2} {pa pb pc pe : PE'} {ps : Env → Option (List D × Env)} {pt pu : Env → Option (Bool × Env)} {vs : List Nat}
def eOp (o : D → D → Option D) (pa pb : PE') : PE' := fun env => (pa env).bind fun x => (pb x.2).bind fun y => (o x.1 y.1).bind fun z => some (z, y.2)
theorem re_op {o : D → D → Option D} (ho : RefO2 K r o) (ha : RefE K ta pa) (hb : RefE K tb pb) : RefE K (tOp r ta tb) (eOp o pa pb) := by
  intro G L as env env' σ H Q d e w q
  obtain ⟨⟨x, e1⟩, z1, z2⟩ := bind_some e
  obtain ⟨⟨y, e2⟩, z3, z4⟩ := bind_some z2
  obtain ⟨z, z5, z6⟩ := bind_some z4
  cases z6
  refine ha z1 w fun v G1 H1 x1 r1 w1 => ?_
  refine hb z3 w1 fun u G2 H2 x2 r2 ⟨Lo, re, n⟩ => ?_
  exact ho z5 (R_ex x2 _ _ r1) r2 n fun v' G' H' x3 r3 n3 => q v' G' H' ((x1.trans x2).trans x3) r3 ⟨Lo, re.ex x3, n3⟩
def eUn (o : D → Option D) (pa : PE') : PE' := fun env => (pa env).bind fun x => (o x.1).bind fun z => some (z, x.2)
theorem re_un {r : V → Hp → VK → Prop} {o : D → Option D} (ho : RefO1 K r o) (ha : RefE K ta pa) : RefE K (tUn r ta) (eUn o pa) := by
  intro G L as env env' σ H Q d e w q
  obtain ⟨⟨x, e1⟩, z1, z2⟩ := bind_some e
  obtain ⟨z, z5, z6⟩ := bind_some z2
  cases z6
  refine ha z1 w fun v G1 H1 x1 r1 ⟨Lo, re, n⟩ => ?_
  exact ho z5 r1 n fun v' G' H' x3 r3 n3 => q v' G' H' (x1.trans x3) r3 ⟨Lo, re.ex x3, n3⟩
def eNil : Env → Option (List D × Env) := fun env => some ([], env)
theorem re_nil : RefEA K tNil eNil := fun G L as env env' σ H Q d e w q => by
  cases e
  exact q [] G H (Ex.refl _) RA.nil w
def eCons (pa : PE') (ps : Env → Option (List D × Env)) : Env → Option (List D × Env) := fun env => (pa env).bind fun x => (ps x.2).bind fun y => some (x.1 :: y.1, y.2)
theorem re_cons (ha : RefE K ta pa) (hs : RefEA K tt ps) : RefEA K (tCons ta tt) (eCons pa ps) := by
  intro G L as env env' σ H Q d e w q
  obtain ⟨⟨x, e1⟩, z1, z2⟩ := bind_some e
  obtain ⟨⟨y, e2⟩, z3, z4⟩ := bind_some z2
  cases z4
  refine ha z1 w fun v G1 H1 x1 r1 w1 => ?_
  refine hs z3 w1 fun u G2 H2 x2 r2 w2 => ?_
  exact q _ _ _ (x1.trans x2) (RA.cons (R_ex x2 _ _ r1) r2) w2
def eCB (o : List D → Option D) (ps : Env → Option (List D × Env)) : PE' := fun env => (ps env).bind fun x => (o x.1).bind fun z => some (z, x.2)
theorem re_cb {r : List V → Hp → VK → Prop} {o : List D → Option D} (ho : RefOL K r o) (hs : RefEA K tt ps) : RefE K (tCB r tt) (eCB o ps) := by
  intro G L as env env' σ H Q d e w q
  obtain ⟨⟨x, e1⟩, z1, z2⟩ := bind_some e
  obtain ⟨z, z5, z6⟩ := bind_some z2
  cases z6
  refine hs z1 w fun v G1 H1 x1 r1 ⟨Lo, re, n⟩ => ?_
  exact ho z5 r1 n fun v' G' H' x3 r3 n3 => q v' G' H' (x1.trans x3) r3 ⟨Lo, re.ex x3, n3⟩
def eBM (o : D → List D → Option D) (pa : PE') (ps : Env → Option (List D × Env)) : PE' := fun env => (pa env).bind fun x => (ps x.2).bind fun y => (o x.1 y.1).bind fun z => some (z, y.2)
theorem re_bm {r : V → List V → Hp → VK → Prop} {o : D → List D → Option D} (ho : RefOM K r o) (ha : RefE K ta pa) (hs : RefEA K tt ps) : RefE K (tBM K "str" r ta tt) (eBM o pa ps) := by
  intro G L as env env' σ H Q d e w q
  obtain ⟨⟨x, e1⟩, z1, z2⟩ := bind_some e
  obtain ⟨⟨y, e2⟩, z3, z4⟩ := bind_some z2
  obtain ⟨z, z5, z6⟩ := bind_some z4
  cases z6
  dsimp only at z5 z3
  obtain ⟨l, rfl⟩ := ho.st _ _ _ z5
  refine ha z1 w fun v G1 H1 x1 r1 w1 => ?_
  refine ⟨by rw [R] at r1; rw [r1]; rfl, ?_⟩
  refine hs z3 w1 fun u G2 H2 x2 r2 ⟨Lo, re, n⟩ => ?_
  exact ho.run z5 (R_ex x2 _ _ r1) r2 n fun v' G' H' x3 r3 n3 => q v' G' H' ((x1.trans x2).trans x3) r3 ⟨Lo, re.ex x3, n3⟩
def enLst (ps : Env → Option (List D × Env)) : Env → Option (Ob × Env) := fun env => (ps env).bind fun x => if x.1.length ≤ 100000 then some (.l x.1, x.2) else none
theorem re_lst (hs : RefEA K tt ps) : RefEN K (tLst tt) (enLst ps) := by
  intro G L as env env' σ H Q o e w q
  obtain ⟨⟨x, e1⟩, z1, z2⟩ := bind_some e
  split at z2
  · rename_i hl
    cases z2
    refine hs z1 w fun v G1 H1 x1 r1 ⟨Lo, re, n⟩ => ?_
    exact w_lstL n (by rw [r1.len]; exact hl) fun p H' n' _ => q p _ G1 H' x1 ⟨v, rfl, r1⟩ ⟨Lo, re, midN n'⟩
  · cases z2
def eTup (ps : Env → Option (List D × Env)) : PE' := fun env => (ps env).bind fun x => if x.1.length ≤ 100000 then some (.tup x.1, x.2) else none
theorem re_tup (hs : RefEA K tt ps) : RefE K (tTup tt) (eTup ps) := by
  intro G L as env env' σ H Q o e w q
  obtain ⟨⟨x, e1⟩, z1, z2⟩ := bind_some e
  split at z2
  · rename_i hl
    cases z2
    refine hs z1 w fun v G1 H1 x1 r1 ⟨Lo, re, n⟩ => ?_
    refine w_tupG n (by rw [r1.len]; exact hl) fun p G' H' x2 hp n' => q _ _ _ (x1.trans x2) ?_ ⟨Lo, re.ex x2, n'⟩
    rw [R]
    exact ⟨p, v, rfl, sqT hp, RA_ex x2 _ _ r1⟩
  · cases z2
def eTest (pe : PE') : Env → Option (Bool × Env) := fun env => (pe env).bind fun x => (blo x.1).bind fun b => some (b, x.2)
theorem re_test (h : RefE K te pe) : RefET K (tTest te) (eTest pe) := by
  intro G L as env env' σ H Q b e w q
  obtain ⟨⟨x, e1⟩, z1, z2⟩ := bind_some e
  obtain ⟨z, z5, z6⟩ := bind_some z2
  cases z6
  cases blo_ok z5
  refine h z1 w fun v G1 H1 x1 r1 w1 => ?_
  rw [R] at r1
  exact ⟨_, r1, q _ _ x1 w1⟩
def eTru (pe : PE') : Env → Option (Bool × Env) := fun env => (pe env).bind fun x => (tru x.1).bind fun b => some (b, x.2)
theorem re_tru (h : RefE K te pe) : RefET K (tTrth K te) (eTru pe) := by
  intro G L as env env' σ H Q b e w q
  obtain ⟨⟨x, e1⟩, z1, z2⟩ := bind_some e
  obtain ⟨z, z5, z6⟩ := bind_some z2
  cases z6
  refine h z1 w fun v G1 H1 x1 r1 w1 => ?_
  obtain ⟨Lo, re, n⟩ := w1
  exact ⟨_, tru_ok z5 r1 n, q _ _ x1 ⟨Lo, re, n⟩⟩
def eNot (pt : Env → Option (Bool × Env)) : Env → Option (Bool × Env) := fun env => (pt env).bind fun x => some (!x.1, x.2)
theorem re_not (h : RefET K t1 pt) : RefET K (tNot t1) (eNot pt) := by
  intro G L as env env' σ H Q b e w q
  obtain ⟨⟨x, e1⟩, z1, z2⟩ := bind_some e
  cases z2
  exact h z1 w fun G1 H1 x1 w1 => q _ _ x1 w1
def eAnd (pt pu : Env → Option (Bool × Env)) : Env → Option (Bool × Env) := fun env => (pt env).bind fun x => if x.1 then pu x.2 else some (false, x.2)
theorem re_and (h : RefET K t1 pt) (h2 : RefET K t2 pu) : RefET K (tAnd t1 t2) (eAnd pt pu) := by
  intro G L as env env' σ H Q b e w q
  obtain ⟨⟨x, e1⟩, z1, z2⟩ := bind_some e
  refine h z1 w fun G1 H1 x1 w1 => ?_
  cases x with
  | true => exact h2 z2 w1 fun G2 H2 x2 n2 => q _ _ (x1.trans x2) n2
  | false => cases z2; exact q _ _ x1 w1
def eOr (pt pu : Env → Option (Bool × Env)) : Env → Option (Bool × Env) := fun env => (pt env).bind fun x => if x.1 then some (true, x.2) else pu x.2
theorem re_or (h : RefET K t1 pt) (h2 : RefET K t2 pu) : RefET K (tOr t1 t2) (eOr pt pu) := by
  intro G L as env env' σ H Q b e w q
  obtain ⟨⟨x, e1⟩, z1, z2⟩ := bind_some e
  refine h z1 w fun G1 H1 x1 w1 => ?_
  cases x with
  | false => exact h2 z2 w1 fun G2 H2 x2 n2 => q _ _ (x1.trans x2) n2
  | true => cases z2; exact q _ _ x1 w1
def eIf (pt : Env → Option (Bool × Env)) (pa pb : PE') : PE' := fun env => (pt env).bind fun x => if x.1 then pa x.2 else pb x.2
theorem re_if (h : RefET K t1 pt) (ha : RefE K ta pa) (hb : RefE K tb pb) : RefE K (tIf t1 ta tb) (eIf pt pa pb) := by
  intro G L as env env' σ H Q d e w q
  obtain ⟨⟨x, e1⟩, z1, z2⟩ := bind_some e
  refine h z1 w fun G1 H1 x1 w1 => ?_
  cases x with
  | true => exact ha z2 w1 fun v G2 H2 x2 r2 n2 => q _ _ _ (x1.trans x2) r2 n2
  | false => exact hb z2 w1 fun v G2 H2 x2 r2 n2 => q _ _ _ (x1.trans x2) r2 n2
def eCall (f : List D → Option D) (ps : Env → Option (List D × Env)) : PE' := fun env => (ps env).bind fun x => (f x.1).bind fun z => some (z, x.2)
theorem re_call {f : List D → Option D} {E : XK} (hs : RefEA K tt ps) : RefE K (tCall (sp0 K f) [] E tt) (eCall f ps) := by
  intro G L as env env' σ H Q d e w q
  obtain ⟨⟨x, e1⟩, z1, z2⟩ := bind_some e
  obtain ⟨z, z5, z6⟩ := bind_some z2
  cases z6
  refine hs z1 w fun v G1 H1 x1 r1 ⟨Lo, re, n⟩ => ?_
  exact ⟨G1, Lo ++ L, x, d, by rw [List.append_nil]; exact r1, n, z5, fun v' G' H' x2 r2 n2 => q v' G' H' (x1.trans x2) r2 ⟨Lo, re.ex x2, n2⟩⟩
def enCall (f : List D → Option (List D)) (ps : Env → Option (List D × Env)) : Env → Option (Ob × Env) := fun env => (ps env).bind fun x => (f x.1).bind fun z => some (.l z, x.2)
theorem re_callN {f : List D → Option (List D)} {E : XK} (hs : RefEA K tt ps) : RefEN K (tCall (sp0N K f) [] E tt) (enCall f ps) := by
  intro G L as env env' σ H Q d e w q
  obtain ⟨⟨x, e1⟩, z1, z2⟩ := bind_some e
  obtain ⟨z, z5, z6⟩ := bind_some z2
  cases z6
  refine hs z1 w fun v G1 H1 x1 r1 ⟨Lo, re, n⟩ => ?_
  exact ⟨G1, Lo ++ L, x, z, by rw [List.append_nil]; exact r1, n, z5, fun p xs G' H' x2 r2 n2 => q p _ G' H' (x1.trans x2) ⟨xs, rfl, r2⟩ ⟨Lo, re.ex x2, midN n2⟩⟩
/-! an object handed to a def that may change it -/
def RAV (K : PySem.W.Frag) (G : Hp) (v0 : V) : List (Option D) → List V → Prop
  | [], vs => vs = []
  | some d :: l, vs => ∃ v r, vs = v :: r ∧ R K G d v ∧ RAV K G v0 l r
  | none :: l, vs => ∃ r, vs = v0 :: r ∧ RAV K G v0 l r
theorem RAV.ex {G G' : Hp} {v0 : V} (e : Ex G G') : ∀ {l : List (Option D)} {vs : List V}, RAV K G v0 l vs → RAV K G' v0 l vs
  | [], _, h => h
  | some d :: l, _, h => by obtain ⟨v, r, h1, h2, h3⟩ := h; exact ⟨v, r, h1, R_ex e _ _ h2, h3.ex e⟩
  | none :: l, _, h => by obtain ⟨r, h1, h3⟩ := h; exact ⟨r, h1, h3.ex e⟩
theorem RAV.len {G : Hp} {v0 : V} : ∀ {l : List (Option D)} {vs : List V}, RAV K G v0 l vs → vs.length = l.length
  | [], _, h => by rw [show _ = [] from h]; rfl
  | some d :: l, _, h => by obtain ⟨v, r, rfl, h2, h3⟩ := h; rw [List.length_cons, List.length_cons, h3.len]
  | none :: l, _, h => by obtain ⟨r, rfl, h3⟩ := h; rw [List.length_cons, List.length_cons, h3.len]
def RefEV (K : PySem.W.Frag) (i : Nat) (ta : TA) (pv : Env → Option (List (Option D) × Env)) : Prop := ∀ ⦃G : Hp⦄ ⦃L : List (Addr × HO)⦄ ⦃as : List Addr⦄ ⦃env env' : Env⦄ ⦃σ : L2.St⦄ ⦃H : Hp⦄ ⦃Q : List V → Hp → Prop⦄ ⦃ds : List (Option D)⦄ ⦃v0 : V⦄, pv env = some (ds, env') → σ[i]? = some (some v0) → Wd K G L as env σ H →
  (∀ vs G' H', Ex G G' → RAV K G' v0 ds vs → Wd K G' L as env' σ H' → Q vs H') → ta σ H Q
def vNil : Env → Option (List (Option D) × Env) := fun env => some ([], env)
theorem re_vnil {i : Nat} : RefEV K i tNil vNil := fun G L as env env' σ H Q d v0 e h0 w q => by
  cases e
  exact q [] G H (Ex.refl _) rfl w
def vCons (pa : PE') (pv : Env → Option (List (Option D) × Env)) : Env → Option (List (Option D) × Env) := fun env => (pa env).bind fun x => (pv x.2).bind fun y => some (some x.1 :: y.1, y.2)
theorem re_vcons {i : Nat} {pv : Env → Option (List (Option D) × Env)} (ha : RefE K ta pa) (hs : RefEV K i tt pv) : RefEV K i (tCons ta tt) (vCons pa pv) := by
  intro G L as env env' σ H Q d v0 e h0 w q
  obtain ⟨⟨x, e1⟩, z1, z2⟩ := bind_some e
  obtain ⟨⟨y, e2⟩, z3, z4⟩ := bind_some z2
  cases z4
  refine ha z1 w fun v G1 H1 x1 r1 w1 => ?_
  refine hs z3 h0 w1 fun u G2 H2 x2 r2 w2 => ?_
  exact q _ _ _ (x1.trans x2) ⟨_, _, rfl, R_ex x2 _ _ r1, r2⟩ w2
def vIo (pv : Env → Option (List (Option D) × Env)) : Env → Option (List (Option D) × Env) := fun env => (pv env).bind fun y => some (none :: y.1, y.2)
theorem re_vio {i : Nat} {pv : Env → Option (List (Option D) × Env)} (hs : RefEV K i tt pv) : RefEV K i (tCons (tVar i) tt) (vIo pv) := by
  intro G L as env env' σ H Q d v0 e h0 w q
  obtain ⟨⟨y, e2⟩, z3, z4⟩ := bind_some e
  cases z4
  refine ⟨v0, h0, hs z3 h0 w fun u G2 H2 x2 r2 w2 => ?_⟩
  exact q _ _ _ x2 ⟨_, rfl, r2⟩ w2
def sp1 (K : PySem.W.Frag) (f : List (Option D) → Ob → Option (D × Ob)) : Sp := fun vs H Q _ => ∃ G L avs o d o' p cs, RAV K G (.ref p) avs vs ∧ RO K G o p cs ∧ Now G (cs ++ L) H ∧ f avs o = some (d, o') ∧
  ∀ v G' cs' H', Ex G G' → R K G' d v → RO K G' o' p cs' → Now G' (cs' ++ L) H' → Q v H'
def eCallIo (f : List (Option D) → Ob → Option (D × Ob)) (i : Nat) (pv : Env → Option (List (Option D) × Env)) : PE' := fun env => (obj env i).bind fun _ => (pv env).bind fun x => (obj x.2 i).bind fun o => (f x.1 o).bind fun z => some (z.1, setO x.2 i z.2)
theorem re_callIo {f : List (Option D) → Ob → Option (D × Ob)} {i : Nat} {pv : Env → Option (List (Option D) × Env)} {E : XK} (hs : RefEV K i tt pv) : RefE K (tCall (sp1 K f) [] E tt) (eCallIo f i pv) := by
  intro G L as env env' σ H Q d e w q
  obtain ⟨o0, z0, e⟩ := bind_some e
  obtain ⟨⟨x, e1⟩, z1, z2⟩ := bind_some e
  obtain ⟨o, z3, z4⟩ := bind_some z2
  obtain ⟨⟨z, o'⟩, z5, z6⟩ := bind_some z4
  cases z6
  obtain ⟨Lo, re, n⟩ := w
  obtain ⟨p0, h0, L0, q1, _⟩ := re.obj z0
  refine hs z1 q1 ⟨Lo, re, n⟩ fun vs G1 H1 x1 r1 ⟨Lo1, re1, n1⟩ => ?_
  obtain ⟨p, hh, L', k1, k2, k3, k4⟩ := re1.obj z3
  have ep : p0 = p := by rw [q1] at k1; cases k1; rfl
  subst ep
  refine ⟨G1, L' ++ L, x, o, _, o', p0, hh, by rw [List.append_nil]; exact r1, k2, by rw [← List.append_assoc]; exact n1.permL k3, z5, fun v G2 h2 H2 x2 r2 ro2 n2 => ?_⟩
  obtain ⟨Lo2, k5, k6⟩ := k4 x2 ro2
  exact q _ _ _ (x1.trans x2) r2 ⟨Lo2, k5, Now.permL (Lo := h2 ++ L') (by rw [List.append_assoc]; exact n2) k6.symm⟩
/-- a new list of a def that may change what it is handed -/
def sp1N (K : PySem.W.Frag) (f : List (Option D) → Ob → Option (List D × Ob)) : Sp := fun vs H Q _ => ∃ G L avs o d o' p cs, RAV K G (.ref p) avs vs ∧ RO K G o p cs ∧ Now G (cs ++ L) H ∧ f avs o = some (d, o') ∧
  ∀ q xs G' cs' H', Ex G G' → RA K G' d xs → RO K G' o' p cs' → Now G' ((q, .lst xs) :: (cs' ++ L)) H' → Q (.ref q) H'
def enCallIo (f : List (Option D) → Ob → Option (List D × Ob)) (i : Nat) (pv : Env → Option (List (Option D) × Env)) : Env → Option (Ob × Env) := fun env => (obj env i).bind fun _ => (pv env).bind fun x => (obj x.2 i).bind fun o => (f x.1 o).bind fun z => some (.l z.1, setO x.2 i z.2)
theorem re_callIoN {f : List (Option D) → Ob → Option (List D × Ob)} {i : Nat} {pv : Env → Option (List (Option D) × Env)} {E : XK} (hs : RefEV K i tt pv) : RefEN K (tCall (sp1N K f) [] E tt) (enCallIo f i pv) := by
  intro G L as env env' σ H Q d e w q
  obtain ⟨o0, z0, e⟩ := bind_some e
  obtain ⟨⟨x, e1⟩, z1, z2⟩ := bind_some e
  obtain ⟨o, z3, z4⟩ := bind_some z2
  obtain ⟨⟨z, o'⟩, z5, z6⟩ := bind_some z4
  cases z6
  obtain ⟨Lo, re, n⟩ := w
  obtain ⟨p0, h0, L0, q1, _⟩ := re.obj z0
  refine hs z1 q1 ⟨Lo, re, n⟩ fun vs G1 H1 x1 r1 ⟨Lo1, re1, n1⟩ => ?_
  obtain ⟨p, hh, L', k1, k2, k3, k4⟩ := re1.obj z3
  have ep : p0 = p := by rw [q1] at k1; cases k1; rfl
  subst ep
  refine ⟨G1, L' ++ L, x, o, z, o', p0, hh, by rw [List.append_nil]; exact r1, k2, by rw [← List.append_assoc]; exact n1.permL k3, z5, fun pq xs G2 h2 H2 x2 r2 ro2 n2 => ?_⟩
  obtain ⟨Lo2, k5, k6⟩ := k4 x2 ro2
  refine q _ _ _ _ (x1.trans x2) ⟨xs, rfl, r2⟩ ⟨Lo2, k5, midN (n2.perm ?_)⟩
  rw [← List.append_assoc]
  exact List.Perm.cons _ ((k6.symm).append_right L)
end
end MA
/-! QF: statements, defs. -/
namespace MA
open PySem PySem.Spec PyProof.Rows L2 SX
inductive Out where
  | nx (e : Env) | rt (d : D) (e : Env) | rtN (o : Ob) (e : Env) | bk (e : Env) | ct (e : Env)
abbrev PS' := Env → Option Out
def EndsOk (K : PySem.W.Frag) (G : Hp) (L : List (Addr × HO)) (as : List Addr) (E : Ends) : Out → Prop
  | .nx e => ∀ σ' G' H', Ex G G' → Wd K G' L as e σ' H' → E.nx σ' H'
  | .bk e => ∀ σ' G' H', Ex G G' → Wd K G' L as e σ' H' → E.bk σ' H'
  | .ct e => ∀ σ' G' H', Ex G G' → Wd K G' L as e σ' H' → E.ct σ' H'
  | .rt d e => ∀ v σ' G' H', Ex G G' → R K G' d v → Wd K G' L as e σ' H' → E.rt v H'
  | .rtN o e => ∀ p cs σ' G' H', Ex G G' → RO K G' o p cs → Wd K G' (cs ++ L) as e σ' H' → E.rt (.ref p) H'
def RefS (K : PySem.W.Frag) (ts : TS) (ps : PS') : Prop := ∀ ⦃G : Hp⦄ ⦃L : List (Addr × HO)⦄ ⦃as : List Addr⦄ ⦃env : Env⦄ ⦃σ : L2.St⦄ ⦃H : Hp⦄ ⦃E : Ends⦄ ⦃out : Out⦄, ps env = some out → Wd K G L as env σ H → EndsOk K G L as E out → ts E σ H
theorem EndsOk.ex {K : PySem.W.Frag} {G G1 : Hp} {L : List (Addr × HO)} {as : List Addr} {E : Ends} {out : Out} (h : EndsOk K G L as E out) (e : Ex G G1) : EndsOk K G1 L as E out := by
  cases out with
  | nx _ => exact fun σ' G' H' x => h σ' G' H' (e.trans x)
  | bk _ => exact fun σ' G' H' x => h σ' G' H' (e.trans x)
  | ct _ => exact fun σ' G' H' x => h σ' G' H' (e.trans x)
  | rt _ _ => exact fun v σ' G' H' x => h v σ' G' H' (e.trans x)
  | rtN _ _ => exact fun p q σ' G' H' x => h p q σ' G' H' (e.trans x)
def Out.andThen (o : Out) (k : PS') : Option Out := match o with
  | .nx e => k e
  | .rt d e => some (.rt d e)
  | .rtN d e => some (.rtN d e)
  | .bk e => some (.bk e)
  | .ct e => some (.ct e)
def Out.loop (o : Out) (k : PS') : Option Out := match o with
  | .nx e => k e
  | .ct e => k e
  | .bk e => some (.nx e)
  | .rt d e => some (.rt d e)
  | .rtN d e => some (.rtN d e)
section
variable {K : PySem.W.Frag} {te : TE} {t1 : TT} {ts tu : TS} {pe : PE'} {pn : Env → Option (Ob × Env)} {pt : Env → Option (Bool × Env)} {ps pu : PS'} {vs : List Nat} {wi : TI} {pi : Env → Option (List D × Env)} {ta : TA}
def sNext : PS' := fun env => some (.nx env)
theorem rs_next : RefS K tNext sNext := fun G L as env σ H E out e w q => by cases e; exact q σ G H (Ex.refl _) w
def sSeq (ps pu : PS') : PS' := fun env => (ps env).bind fun o => o.andThen pu
theorem rs_seq (h1 : RefS K ts ps) (h2 : RefS K tu pu) : RefS K (tSeq ts tu) (sSeq ps pu) := by
  intro G L as env σ H E out e w q
  obtain ⟨o, z1, z2⟩ := bind_some e
  refine w_seq (h1 z1 w ?_)
  cases o with
  | nx e1 => exact fun σ' G' H' x w' => h2 z2 w' (q.ex x)
  | rt _ _ => cases z2; exact q
  | rtN _ _ => cases z2; exact q
  | bk _ => cases z2; exact q
  | ct _ => cases z2; exact q
def sIf (pt : Env → Option (Bool × Env)) (ps pu : PS') : PS' := fun env => (pt env).bind fun x => if x.1 then ps x.2 else pu x.2
theorem rs_if (h : RefET K t1 pt) (h1 : RefS K ts ps) (h2 : RefS K tu pu) : RefS K (tIfS t1 ts tu) (sIf pt ps pu) := by
  intro G L as env σ H E out e w q
  obtain ⟨⟨b, e1⟩, z1, z2⟩ := bind_some e
  refine w_ifs (h z1 w fun G1 H1 x1 w1 => ?_)
  cases b with
  | true => exact h1 z2 w1 (q.ex x1)
  | false => exact h2 z2 w1 (q.ex x1)
def sRet (pe : PE') : PS' := fun env => (pe env).bind fun x => some (.rt x.1 x.2)
theorem rs_ret (h : RefE K te pe) : RefS K (tRet te) (sRet pe) := by
  intro G L as env σ H E out e w q
  obtain ⟨⟨d, e1⟩, z1, z2⟩ := bind_some e
  cases z2
  exact w_ret (h z1 w fun v G1 H1 x1 r1 w1 => q v σ G1 H1 x1 r1 w1)
def sRetO : PS' := fun env => some (.rt .non env)
theorem rs_retO : RefS K tRetN sRetO := fun G L as env σ H E out e w q => by cases e; exact q .non σ G H (Ex.refl _) (by rw [R]) w
/-- return of a new list -/
def sRetN (pn : Env → Option (Ob × Env)) : PS' := fun env => (pn env).bind fun x => some (.rtN x.1 x.2)
theorem rs_retN (h : RefEN K te pn) : RefS K (tRet te) (sRetN pn) := by
  intro G L as env σ H E out e w q
  obtain ⟨⟨d, e1⟩, z1, z2⟩ := bind_some e
  cases z2
  exact w_ret (h z1 w fun p hh G1 H1 x1 r1 w1 => q p hh σ G1 H1 x1 r1 w1)
/-- a slot's own list, given away -/
def enVar (i : Nat) : Env → Option (Ob × Env) := fun env => match env[i]? with
  | some (some (.m o)) => some (o, env.set i none)
  | _ => none
theorem Rel.give {G : Hp} {Lo : List (Addr × HO)} {as : List Addr} {env : Env} {σ : L2.St} {i : Nat} {o : Ob} (r : Rel K G as env σ Lo) (hi : env[i]? = some (some (.m o))) : ∃ p cs Lo', σ[i]? = some (some (.ref p)) ∧ RO K G o p cs ∧ Lo.Perm (cs ++ Lo') ∧
    Rel K G as (env.set i none) σ Lo' := by
  induction r generalizing i with
  | nil => simp at hi
  | emp r ih => cases i with
    | zero => simp at hi
    | succ i =>
      obtain ⟨p, h, L', q1, q2, q3, q4⟩ := ih (i := i) (by simpa using hi)
      exact ⟨p, h, L', by simpa using q1, q2, q3, .emp q4⟩
  | val hd r ih => cases i with
    | zero => simp at hi
    | succ i =>
      obtain ⟨p, h, L', q1, q2, q3, q4⟩ := ih (i := i) (by simpa using hi)
      exact ⟨p, h, L', by simpa using q1, q2, q3, .val hd q4⟩
  | @own as t s L o1 p1 h1 hd r ih => cases i with
    | zero =>
      simp at hi
      subst hi
      exact ⟨p1, h1, L, rfl, hd, List.Perm.refl _, .emp r⟩
    | succ i =>
      obtain ⟨p, h, L', q1, q2, q3, q4⟩ := ih (i := i) (by simpa using hi)
      exact ⟨p, h, h1 ++ L', by simpa using q1, q2, (q3.append_left h1).trans (pmid h1 h L'), .own hd q4⟩
  | @io as t s L o1 p1 h1 hd r ih => cases i with
    | zero => simp at hi
    | succ i =>
      obtain ⟨p, h, L', q1, q2, q3, q4⟩ := ih (i := i) (by simpa using hi)
      exact ⟨p, h, h1 ++ L', by simpa using q1, q2, (q3.append_left h1).trans (pmid h1 h L'), .io hd q4⟩
theorem re_give (i : Nat) : RefEN K (tVar i) (enVar i) := by
  intro G L as env env' σ H Q o e ⟨Lo, r, n⟩ q
  unfold enVar at e
  split at e
  · rename_i o1 hi
    cases e
    obtain ⟨p, h, L', q1, q2, q3, q4⟩ := r.give hi
    exact ⟨_, q1, q _ _ _ _ (Ex.refl _) q2 ⟨L', q4, midC (by rw [← List.append_assoc]; exact n.permL q3)⟩⟩
  · cases e
/-! targets -/
def RefSG (K : PySem.W.Frag) (vs : List Nat) (g : TG) (pg : PG') : Prop := ∀ ⦃G : Hp⦄ ⦃L : List (Addr × HO)⦄ ⦃as : List Addr⦄ ⦃env env' : Env⦄ ⦃σ : L2.St⦄ ⦃H : Hp⦄ ⦃Q : L2.St → Hp → Prop⦄ ⦃d : D⦄ ⦃v : V⦄, pg d env = some env' → Wd K G L as env σ H → R K G d v →
  (∀ σ' G' H', Ex G G' → Wd K G' L as env' σ' H' → Agr vs σ σ' → Q σ' H') → g v σ H Q
def RefSGs (K : PySem.W.Frag) (vs : List Nat) (g : TGs) (pg : List D → Env → Option Env) : Prop := ∀ ⦃G : Hp⦄ ⦃L : List (Addr × HO)⦄ ⦃as : List Addr⦄ ⦃env env' : Env⦄ ⦃σ : L2.St⦄ ⦃H : Hp⦄ ⦃Q : L2.St → Hp → Prop⦄ ⦃d : List D⦄ ⦃v : List V⦄, pg d env = some env' → Wd K G L as env σ H → RA K G d v →
  (∀ σ' G' H', Ex G G' → Wd K G' L as env' σ' H' → Agr vs σ σ' → Q σ' H') → g v σ H Q
def tN (i : Nat) : PG' := fun d env => if notIo env i then some (env.set i (some (.v d))) else none
theorem rt_name {i : Nat} (h : i ∈ vs) : RefSG K vs (gName i) (tN i) := by
  intro G L as env env' σ H Q d v e w rd q
  unfold tN at e
  split at e
  · rename_i hi
    cases e
    exact q _ G H (Ex.refl _) (w.setv hi rd) (Agr.set h)
  · cases e
theorem rt_nil : RefSGs K vs gNil gsNil := by
  intro G L as env env' σ H Q d v e w rd q
  cases d with
  | nil => cases e; rw [RA] at rd; exact ⟨rd, q σ G H (Ex.refl _) w (Agr.refl _ _)⟩
  | cons _ _ => cases e
theorem rt_cons {g : TG} {gs : TGs} {pg : PG'} {qs : List D → Env → Option Env} (h : RefSG K vs g pg) (hs : RefSGs K vs gs qs) : RefSGs K vs (gCons g gs) (gsCons pg qs) := by
  intro G L as env env' σ H Q d v e w rd q
  cases d with
  | nil => cases e
  | cons d ds =>
    rw [RA] at rd
    obtain ⟨x, r, rfl, h1, h2⟩ := rd
    obtain ⟨e1, z1, z2⟩ := bind_some e
    exact ⟨x, r, rfl, h z1 w h1 fun σ' G1 H1 x1 w1 a => hs z2 w1 (RA_ex x1 _ _ h2) fun σ2 G2 H2 x2 w2 a2 => q σ2 G2 H2 (x1.trans x2) w2 (a.trans a2)⟩
theorem rt_tup {m : Nat} {gs : TGs} {qs : List D → Env → Option Env} (hs : RefSGs K vs gs qs) : RefSG K vs (gSq K m gs) (gT m qs) := by
  intro G L as env env' σ H Q d v e w rd q
  cases d with
  | tup ds =>
    rw [gT] at e
    split at e
    · rename_i hm
      rw [R] at rd
      obtain ⟨a, xs, rfl, h1, h2⟩ := rd
      obtain ⟨Lo, re, n⟩ := w
      exact ⟨a, xs, rfl, .inl (st_ex n.Ex h1), by rw [h2.len, hm], hs e ⟨Lo, re, n⟩ h2 q⟩
    · cases e
  | lst ds =>
    rw [gT] at e
    split at e
    · rename_i hm
      rw [R] at rd
      obtain ⟨a, xs, rfl, h1, h2⟩ := rd
      obtain ⟨Lo, re, n⟩ := w
      exact ⟨a, xs, rfl, .inr (sqL (n.ex _ _ h1)), by rw [h2.len, hm], hs e ⟨Lo, re, n⟩ h2 q⟩
    · cases e
  | _ => cases e
/-- a, *b = .. : the starred name gets a new list, which stays as it is -/
def gSt (m i : Nat) (qs : List D → Env → Option Env) : PG' := fun d env => match d with
  | .tup ds => if m ≤ ds.length + 1 then qs (ds.take i ++ [.lst ((ds.drop i).take (ds.length + 1 - m))] ++ ds.drop (i + (ds.length + 1 - m))) env else none
  | .lst ds => if m ≤ ds.length + 1 then qs (ds.take i ++ [.lst ((ds.drop i).take (ds.length + 1 - m))] ++ ds.drop (i + (ds.length + 1 - m))) env else none
  | _ => none
theorem rt_star {m i : Nat} {gs : TGs} {qs : List D → Env → Option Env} (hs : RefSGs K vs gs qs) : RefSG K vs (gStar K m i gs) (gSt m i qs) := by
  intro G L as env env' σ H Q d v e w rd q
  have fin : ∀ (ds : List D) (xs : List V), RA K G ds xs → qs (ds.take i ++ [.lst ((ds.drop i).take (ds.length + 1 - m))] ++ ds.drop (i + (ds.length + 1 - m))) env = some env' → ∀ p, H p = none → gs (xs.take i ++ [.ref p] ++ xs.drop (i + (xs.length + 1 - m))) σ (upd H p (.lst ((xs.drop i).take (xs.length + 1 - m)))) Q := fun ds xs ra e p hp => by
    obtain ⟨Lo, re, n⟩ := w
    have n1 := n.newG (o := .lst ((xs.drop i).take (xs.length + 1 - m))) hp
    have hG : G p = none := n.fr hp
    have x1 : Ex G (upd G p (.lst ((xs.drop i).take (xs.length + 1 - m)))) := Ex.new hG
    refine hs e ⟨Lo, re.ex x1, n1⟩ ?_ fun σ' G' H' x2 w2 ag => q σ' G' H' (x1.trans x2) w2 ag
    have ra1 := RA_ex x1 _ _ ra
    have el : xs.length = ds.length := ra.len
    have e1 : R K (upd G p (.lst ((xs.drop i).take (xs.length + 1 - m)))) (.lst ((ds.drop i).take (ds.length + 1 - m))) (.ref p) := by
      rw [R]
      exact ⟨p, _, rfl, upd_same, by rw [el]; rw [el] at ra1; exact (ra1.drop i).take _⟩
    rw [show xs.drop (i + (xs.length + 1 - m)) = xs.drop (i + (ds.length + 1 - m)) by rw [el]]
    exact ((ra1.take i).append (RA.cons e1 RA.nil)).append (ra1.drop _)
  cases d with
  | tup ds =>
    rw [gSt] at e
    split at e
    · rename_i hm
      rw [R] at rd
      obtain ⟨a, xs, rfl, h1, h2⟩ := rd
      have f := fin ds xs h2 e
      obtain ⟨Lo, re, n⟩ := w
      exact ⟨a, xs, rfl, .inl (st_ex n.Ex h1), by rw [h2.len]; exact hm, f⟩
    · cases e
  | lst ds =>
    rw [gSt] at e
    split at e
    · rename_i hm
      rw [R] at rd
      obtain ⟨a, xs, rfl, h1, h2⟩ := rd
      have f := fin ds xs h2 e
      obtain ⟨Lo, re, n⟩ := w
      exact ⟨a, xs, rfl, .inr (sqL (n.ex _ _ h1)), by rw [h2.len]; exact hm, f⟩
    · cases e
  | _ => cases e
/-- x[j] = .. -/
def tSub (i : Nat) (pj : PE') : PG' := fun d env => (obj env i).bind fun _ => (pj env).bind fun x => (obj x.2 i).bind fun o => match o with
  | .l ds => (into x.1).bind fun j => (ixN ds.length j).bind fun k => some (setO x.2 i (.l (ds.set k d)))
  | .st _ _ => none
  | .dk _ _ => none
theorem rt_sub {i : Nat} {tj : TE} {pj : PE'} (hj : RefE K tj pj) : RefSG K vs (gSub (tVar i) tj rSetL) (tSub i pj) := by
  intro G L as env env' σ H Q d v e w rd q
  obtain ⟨o0, z0, e⟩ := bind_some e
  obtain ⟨⟨x, e1⟩, z1, z2⟩ := bind_some e
  obtain ⟨oo, z3, z4⟩ := bind_some z2
  cases oo with
  | st _ _ => cases z4
  | dk _ _ => cases z4
  | l ds =>
  obtain ⟨j, z5, z6⟩ := bind_some z4
  obtain ⟨k, z7, z8⟩ := bind_some z6
  cases z8
  cases into_ok z5
  obtain ⟨Lo, re, n⟩ := w
  obtain ⟨p0, h0, L0, q1, _⟩ := re.obj z0
  refine ⟨_, q1, ?_⟩
  refine hj z1 ⟨Lo, re, n⟩ fun u G1 H1 x1 r1 ⟨Lo1, re1, n1⟩ => ?_
  rw [R] at r1
  subst r1
  obtain ⟨p, hh, L', k1, k2, k3, k4⟩ := re1.obj z3
  have ep : p0 = p := by rw [q1] at k1; cases k1; rfl
  subst ep
  obtain ⟨xs, rfl, ra⟩ := k2
  have n2 := n1.permL k3
  refine ⟨p0, xs, j, k, rfl, rfl, n2.get0, by rw [ra.len]; exact z7, ?_⟩
  obtain ⟨Lo2, k5, k6⟩ := k4 (o' := .l (ds.set k d)) (cs' := [(p0, .lst (xs.set k v))]) (Ex.refl _) ⟨_, rfl, ra.set k (R_ex x1 _ _ rd)⟩
  exact q σ G1 _ x1 ⟨Lo2, k5, Now.permL (Lo := (p0, .lst (xs.set k v)) :: L') n2.set0 k6.symm⟩ (Agr.refl _ _)
def sAsg (pe : PE') (pg : PG') : PS' := fun env => (pe env).bind fun x => (pg x.1 x.2).bind fun e => some (.nx e)
theorem rs_asg {g : TG} {pg : PG'} (h : RefE K te pe) (hg : RefSG K vs g pg) : RefS K (tAsg te g) (sAsg pe pg) := by
  intro G L as env σ H E out e w q
  obtain ⟨⟨d, e1⟩, z1, z2⟩ := bind_some e
  obtain ⟨e2, z3, z4⟩ := bind_some z2
  cases z4
  refine w_asg (h z1 w fun v G1 H1 x1 r1 w1 => ?_)
  exact hg z3 w1 r1 fun σ' G2 H2 x2 w2 _ => q σ' G2 H2 (x1.trans x2) w2
/-- a name gets a new list, which may change -/
def sAsgN (pn : Env → Option (Ob × Env)) (i : Nat) : PS' := fun env => (pn env).bind fun x => if notIo x.2 i then some (.nx (x.2.set i (some (.m x.1)))) else none
theorem rs_asgN {i : Nat} (h : RefEN K te pn) : RefS K (tAsg te (gName i)) (sAsgN pn i) := by
  intro G L as env σ H E out e w q
  obtain ⟨⟨d, e1⟩, z1, z2⟩ := bind_some e
  split at z2
  · rename_i hi
    cases z2
    refine w_asg (h z1 w fun p hh G1 H1 x1 r1 w1 => w_gname ?_)
    exact q _ G1 H1 x1 (w1.setm hi r1)
  · cases z2
def sDrop (pe : PE') : PS' := fun env => (pe env).bind fun x => some (.nx x.2)
theorem rs_drop (h : RefE K te pe) : RefS K (tDrop te) (sDrop pe) := by
  intro G L as env σ H E out e w q
  obtain ⟨⟨d, e1⟩, z1, z2⟩ := bind_some e
  cases z2
  exact w_drop (h z1 w fun v G1 H1 x1 r1 w1 => q σ G1 H1 x1 w1)
/-- x op= e -/
def RefIp (K : PySem.W.Frag) (ti : TIp) (o : D → D → Option D) : Prop := ∀ ⦃G : Hp⦄ ⦃L : List (Addr × HO)⦄ ⦃H : Hp⦄ ⦃Q : VK⦄ ⦃d e z : D⦄ ⦃x y : V⦄, o d e = some z → R K G d x → R K G e y → Now G L H → Cn K G L z Q → ti x y H Q
def sAug (i : Nat) (pe : PE') (o : D → D → Option D) : PS' := fun env => match env[i]? with
  | some (some (.v d)) => (pe env).bind fun x => (o d x.1).bind fun z => if notIo x.2 i then some (.nx (x.2.set i (some (.v z)))) else none
  | _ => none
theorem rs_aug {i : Nat} {ti : TIp} {o : D → D → Option D} (ho : RefIp K ti o) (h : RefE K te pe) : RefS K (tAug i te ti) (sAug i pe o) := by
  intro G L as env σ H E out e w q
  unfold sAug at e
  split at e
  · rename_i d hd
    obtain ⟨⟨x, e1⟩, z1, z2⟩ := bind_some e
    obtain ⟨z, z3, z4⟩ := bind_some z2
    split at z4
    · rename_i hi
      cases z4
      obtain ⟨Lo, re, n⟩ := w
      obtain ⟨v, k1, k2⟩ := re.getv hd
      refine w_aug k1 (h z1 ⟨Lo, re, n⟩ fun y G1 H1 x1 r1 ⟨Lo1, re1, n1⟩ => ?_)
      refine ho z3 (R_ex x1 _ _ k2) r1 n1 fun u G2 H2 x2 r2 n2 => ?_
      exact q _ _ _ (x1.trans x2) (Wd.setv ⟨Lo1, re1.ex x2, n2⟩ hi r2)
    · cases z4
  · cases e
/-! several at once: each a value or a new list -/
inductive AV where
  | d (x : D) | n (o : Ob)
def RAW (K : PySem.W.Frag) (G : Hp) : List AV → List V → List (Addr × HO) → Prop
  | [], vs, L => vs = [] ∧ L = []
  | .d x :: l, vs, L => ∃ v r, vs = v :: r ∧ R K G x v ∧ RAW K G l r L
  | .n o :: l, vs, L => ∃ p cs r L', vs = .ref p :: r ∧ L = cs ++ L' ∧ RO K G o p cs ∧ RAW K G l r L'
def RefEW (K : PySem.W.Frag) (ta : TA) (pw : Env → Option (List AV × Env)) : Prop := ∀ ⦃G : Hp⦄ ⦃L : List (Addr × HO)⦄ ⦃as : List Addr⦄ ⦃env env' : Env⦄ ⦃σ : L2.St⦄ ⦃H : Hp⦄ ⦃Q : List V → Hp → Prop⦄ ⦃ds : List AV⦄, pw env = some (ds, env') → Wd K G L as env σ H →
  (∀ vs Ln G' H', Ex G G' → RAW K G' ds vs Ln → Wd K G' (Ln ++ L) as env' σ H' → Q vs H') → ta σ H Q
def wNil : Env → Option (List AV × Env) := fun env => some ([], env)
theorem re_wnil : RefEW K tNil wNil := fun G L as env env' σ H Q d e w q => by
  cases e
  exact q [] [] G H (Ex.refl _) ⟨rfl, rfl⟩ w
def wCons (pa : PE') (pw : Env → Option (List AV × Env)) : Env → Option (List AV × Env) := fun env => (pa env).bind fun x => (pw x.2).bind fun y => some (.d x.1 :: y.1, y.2)
theorem re_wcons {pw : Env → Option (List AV × Env)} (ha : RefE K te pe) (hs : RefEW K ta pw) : RefEW K (tCons te ta) (wCons pe pw) := by
  intro G L as env env' σ H Q d e w q
  obtain ⟨⟨x, e1⟩, z1, z2⟩ := bind_some e
  obtain ⟨⟨y, e2⟩, z3, z4⟩ := bind_some z2
  cases z4
  refine ha z1 w fun v G1 H1 x1 r1 w1 => ?_
  refine hs z3 w1 fun u Ln G2 H2 x2 r2 w2 => ?_
  exact q _ Ln _ _ (x1.trans x2) ⟨_, _, rfl, R_ex x2 _ _ r1, r2⟩ w2
def wNew (pn : Env → Option (Ob × Env)) (pw : Env → Option (List AV × Env)) : Env → Option (List AV × Env) := fun env => (pn env).bind fun x => (pw x.2).bind fun y => some (.n x.1 :: y.1, y.2)
theorem re_wnew {pw : Env → Option (List AV × Env)} (ha : RefEN K te pn) (hs : RefEW K ta pw) : RefEW K (tCons te ta) (wNew pn pw) := by
  intro G L as env env' σ H Q d e w q
  obtain ⟨⟨x, e1⟩, z1, z2⟩ := bind_some e
  obtain ⟨⟨y, e2⟩, z3, z4⟩ := bind_some z2
  cases z4
  refine ha z1 w fun p hh G1 H1 x1 r1 w1 => ?_
  refine hs z3 w1 fun u Ln G2 H2 x2 r2 ⟨Lo, re, n⟩ => ?_
  refine q _ (hh ++ Ln) _ _ (x1.trans x2) ⟨_, _, _, _, rfl, rfl, r1.ex x2, r2⟩ ⟨Lo, re, n.perm ?_⟩
  refine List.Perm.append_left Lo ?_
  rw [List.append_assoc]
  exact pmid Ln hh L
def setAV (env : Env) (i : Nat) : AV → Option Env
  | .d x => if notIo env i then some (env.set i (some (.v x))) else none
  | .n o => if notIo env i then some (env.set i (some (.m o))) else none
def sPar (i j : Nat) (pw : Env → Option (List AV × Env)) : PS' := fun env => (pw env).bind fun x => match x.1 with
  | [a, b] => (setAV x.2 i a).bind fun e1 => (setAV e1 j b).bind fun e2 => some (.nx e2)
  | _ => none
theorem Wd.setAV {G : Hp} {L Ln : List (Addr × HO)} {as : List Addr} {env e1 : Env} {σ : L2.St} {H : Hp} {i : Nat} {a : AV} {l : List AV} {vs : List V} (w : Wd K G (Ln ++ L) as env σ H) (e : MA.setAV env i a = some e1) (r : RAW K G (a :: l) vs Ln) :
    ∃ v rs Ln', vs = v :: rs ∧ RAW K G l rs Ln' ∧ Wd K G (Ln' ++ L) as e1 (σ.set i (some v)) H := by
  cases a with
  | d x =>
    obtain ⟨v, rs, rfl, h1, h2⟩ := r
    rw [MA.setAV] at e
    split at e
    · rename_i hi
      cases e
      exact ⟨v, rs, Ln, rfl, h2, w.setv hi h1⟩
    · cases e
  | n o =>
    obtain ⟨p, h, rs, L', rfl, rfl, h1, h2⟩ := r
    rw [MA.setAV] at e
    split at e
    · rename_i hi
      cases e
      exact ⟨_, rs, L', rfl, h2, Wd.setm (by rw [← List.append_assoc]; exact w) hi h1⟩
    · cases e
theorem rs_par {i j : Nat} {pw : Env → Option (List AV × Env)} (h : RefEW K ta pw) : RefS K (tPar i j ta) (sPar i j pw) := by
  intro G L as env σ H E out e w q
  obtain ⟨⟨x, e1⟩, z1, z2⟩ := bind_some e
  match x, z1, z2 with
  | [a, b], z1, z2 =>
    obtain ⟨e2, z3, z4⟩ := bind_some z2
    obtain ⟨e3, z5, z6⟩ := bind_some z4
    cases z6
    refine w_par (h z1 w fun vs Ln G1 H1 x1 r1 w1 => ?_)
    obtain ⟨v, rs, L1, rfl, r2, w2⟩ := w1.setAV z3 r1
    obtain ⟨v2, rs2, L2, rfl, r3, w3⟩ := w2.setAV z5 r2
    obtain ⟨rfl, rfl⟩ := r3
    exact ⟨v, v2, rfl, q _ _ _ x1 w3⟩
def sPar3 (i j k : Nat) (pw : Env → Option (List AV × Env)) : PS' := fun env => (pw env).bind fun x => match x.1 with
  | [a, b, c] => (setAV x.2 i a).bind fun e1 => (setAV e1 j b).bind fun e2 => (setAV e2 k c).bind fun e3 => some (.nx e3)
  | _ => none
theorem rs_par3 {i j k : Nat} {pw : Env → Option (List AV × Env)} (h : RefEW K ta pw) : RefS K (tPar3 i j k ta) (sPar3 i j k pw) := by
  intro G L as env σ H E out e w q
  obtain ⟨⟨x, e1⟩, z1, z2⟩ := bind_some e
  match x, z1, z2 with
  | [a, b, c], z1, z2 =>
    obtain ⟨e2, z3, z4⟩ := bind_some z2
    obtain ⟨e3, z5, z6⟩ := bind_some z4
    obtain ⟨e4, z7, z8⟩ := bind_some z6
    cases z8
    refine w_par3 (h z1 w fun vs Ln G1 H1 x1 r1 w1 => ?_)
    obtain ⟨v, rs, L1, rfl, r2, w2⟩ := w1.setAV z3 r1
    obtain ⟨v2, rs2, L2, rfl, r3, w3⟩ := w2.setAV z5 r2
    obtain ⟨v3, rs3, L3, rfl, r4, w4⟩ := w3.setAV z7 r3
    obtain ⟨rfl, rfl⟩ := r4
    exact ⟨v, v2, v3, rfl, q _ _ _ x1 w4⟩
/-! loops -/
def pfor (pg : PG') (pb : PS') : List D → PS'
  | [], env => some (.nx env)
  | x :: xs, env => (pg x env).bind fun e => (pb e).bind fun o => o.loop (pfor pg pb xs)
def sFor (pi : Env → Option (List D × Env)) (pg : PG') (pb : PS') : PS' := fun env => (pi env).bind fun x => pfor pg pb x.1 x.2
theorem rs_for {g : TG} {pg : PG'} (hi : RefEI K wi pi) (hg : RefSG K vs g pg) (hb : RefS K ts ps) : RefS K (tFor wi g ts) (sFor pi pg ps) := by
  intro G L as env σ H E out e w q
  obtain ⟨⟨items, e1⟩, z1, z2⟩ := bind_some e
  dsimp only at z2
  refine w_for (hi z1 w fun J G1 H1 x1 ok w1 => ?_)
  obtain ⟨Gp, Y, rfl, hGp, hY⟩ := ok
  refine for_k (fun i σ H => ∃ en G2, Ex G1 G2 ∧ Wd K G2 L as en σ H ∧ pfor pg ps (items.drop i) en = some out) ⟨e1, G1, Ex.refl _, w1, z2⟩ ?_ ?_ ?_
  · rintro i σ H ⟨en, G2, x2, ⟨Lo, re, n⟩, _⟩
    exact hGp _ _ _ x2 n
  · rintro i x σ2 H2 H3 hil ⟨en, G2, x2, ⟨Lo, re, n⟩, el⟩ y
    have hd : items[i]? = some (items[i]'hil) := List.getElem?_eq_getElem hil
    obtain ⟨G3, x3, rd, n3⟩ := hY i _ _ _ _ _ _ hd x2 n y
    rw [List.drop_eq_getElem_cons hil, pfor] at el
    obtain ⟨e2, el1, el2⟩ := bind_some el
    obtain ⟨o, el3, el4⟩ := bind_some el2
    refine hg el1 ⟨Lo, re.ex x3, n3⟩ rd fun σ4 G4 H4 x4 w4 _ => ?_
    refine hb el3 w4 ?_
    have xx : Ex G1 G4 := (x2.trans x3).trans x4
    cases o with
    | nx e3 => exact fun σ' G' H' x5 w5 => ⟨e3, G', xx.trans x5, w5, el4⟩
    | ct e3 => exact fun σ' G' H' x5 w5 => ⟨e3, G', xx.trans x5, w5, el4⟩
    | bk e3 => cases el4; exact fun σ' G' H' x5 w5 => q σ' G' H' ((x1.trans xx).trans x5) w5
    | rt d e3 => cases el4; exact fun v σ' G' H' x5 r5 w5 => q v σ' G' H' ((x1.trans xx).trans x5) r5 w5
    | rtN d e3 => cases el4; exact fun p hh σ' G' H' x5 r5 w5 => q p hh σ' G' H' ((x1.trans xx).trans x5) r5 w5
  · rintro σ2 H2 ⟨en, G2, x2, w2, el⟩
    rw [List.drop_length, pfor] at el
    cases el
    exact q σ2 G2 H2 (x1.trans x2) w2
def pwhile (pc : Env → Option (Bool × Env)) (pb : PS') : Nat → PS'
  | 0, _ => none
  | n + 1, env => (pc env).bind fun x => if x.1 then (pb x.2).bind fun o => o.loop (pwhile pc pb n) else some (.nx x.2)
/-- how many turns a while is given -/
def turns : Nat := 1000000
def sWhile (pc : Env → Option (Bool × Env)) (pb : PS') : PS' := pwhile pc pb turns
theorem rs_while (hc : RefET K t1 pt) (hb : RefS K ts ps) : RefS K (tWhile t1 ts) (sWhile pt ps) := by
  intro G L as env σ H E out e w q
  refine w_while (fun m σ H => ∃ en G2, Ex G G2 ∧ Wd K G2 L as en σ H ∧ pwhile pt ps m en = some out) turns ⟨env, G, Ex.refl _, w, e⟩ ?_
  rintro m σ1 H1 ⟨en, G2, x2, w2, el⟩
  cases m with
  | zero => cases el
  | succ m =>
    rw [pwhile] at el
    obtain ⟨⟨b, e2⟩, el1, el2⟩ := bind_some el
    refine hc el1 w2 fun G3 H3 x3 w3 => w_whC (fun hb' => ?_) (fun hb' => ?_)
    · subst hb'
      obtain ⟨o, el3, el4⟩ := bind_some el2
      refine hb el3 w3 ?_
      have xx : Ex G G3 := x2.trans x3
      cases o with
      | nx e3 => exact fun σ' G' H' x5 w5 => ⟨m, Nat.lt_succ_self _, e3, G', xx.trans x5, w5, el4⟩
      | ct e3 => exact fun σ' G' H' x5 w5 => ⟨m, Nat.lt_succ_self _, e3, G', xx.trans x5, w5, el4⟩
      | bk e3 => cases el4; exact fun σ' G' H' x5 w5 => q σ' G' H' (xx.trans x5) w5
      | rt d e3 => cases el4; exact fun v σ' G' H' x5 r5 w5 => q v σ' G' H' (xx.trans x5) r5 w5
      | rtN d e3 => cases el4; exact fun p hh σ' G' H' x5 r5 w5 => q p hh σ' G' H' (xx.trans x5) r5 w5
    · subst hb'
      cases el2
      exact q _ _ _ (x2.trans x3) w3
/-! comprehensions with effects -/
def wipeE (env : Env) (vs : List Nat) : Option Env := if vs.all (notIo env) then some (wipeF env vs) else none
def lcE (pg : PG') (pt : Env → Option (Bool × Env)) (pe : PE') (vs : List Nat) : List D → Env → Option (List D × Env)
  | [], env => some ([], env)
  | x :: xs, env => (pg x env).bind fun e => (pt e).bind fun b => if b.1 then (pe b.2).bind fun y => (wipeE y.2 vs).bind fun e3 => (lcE pg pt pe vs xs e3).bind fun r => some (y.1 :: r.1, r.2) else (wipeE b.2 vs).bind fun e3 => lcE pg pt pe vs xs e3
def enLc (pi : Env → Option (List D × Env)) (pg : PG') (pt : Env → Option (Bool × Env)) (pe : PE') (vs : List Nat) : Env → Option (Ob × Env) := fun env => (pi env).bind fun x => (wipeE x.2 vs).bind fun e1 => if x.1.length ≤ 100000 then (lcE pg pt pe vs x.1 e1).bind fun r => some (.l r.1, r.2) else none
def eYes : Env → Option (Bool × Env) := fun env => some (true, env)
theorem re_yes : RefET K tYes eYes := fun G L as env env' σ H Q b e w q => by cases e; exact q G H (Ex.refl _) w
theorem wipeE_ok {G : Hp} {L : List (Addr × HO)} {as : List Addr} {env e : Env} {σ : L2.St} {H : Hp} (w : Wd K G L as env σ H) (h : wipeE env vs = some e) : Wd K G L as e (L2.wipe σ vs) H ∧ e = wipeF env vs := by
  unfold wipeE at h
  split at h
  · rename_i hv
    cases h
    exact ⟨w.wipe hv, rfl⟩
  · cases h
theorem wipeF_idem (env : Env) : wipeF (wipeF env vs) vs = wipeF env vs := by
  apply List.ext_getElem?
  intro j
  rw [wipeF_get, wipeF_get]
  by_cases hj : j ∈ vs
  · rw [if_pos hj, if_pos hj]
    cases env[j]? <;> rfl
  · rw [if_neg hj, if_neg hj]
theorem re_lc {g : TG} {pg : PG'} (hi : RefEI K wi pi) (hg : RefSG K vs g pg) (ht : RefET K t1 pt) (he : RefE K te pe) : RefEN K (tLc wi g t1 te vs) (enLc pi pg pt pe vs) := by
  intro G L as env env' σ H Q o e w q
  obtain ⟨⟨items, e1⟩, z1, z2⟩ := bind_some e
  obtain ⟨e2, z3, z4⟩ := bind_some z2
  split at z4
  case isFalse => cases z4
  rename_i hl
  obtain ⟨⟨ds, ef⟩, z5, z6⟩ := bind_some z4
  cases z6
  dsimp only at z5 z3 hl
  refine w_lc (hi z1 w fun J G1 H1 x1 ok w1 => ?_)
  obtain ⟨Gp, Y, rfl, hGp, hY⟩ := ok
  obtain ⟨w2, rfl⟩ := wipeE_ok w1 z3
  obtain ⟨Lo, re, n⟩ := w2
  refine lc_now n (fun i acc G2 LL => ∃ Lo en done rest, LL = Lo ++ L ∧ Rel K G2 as en (L2.wipe σ vs) Lo ∧ en = wipeF en vs ∧ Ex G1 G2 ∧ RA K G2 done acc ∧ done.length ≤ i ∧ lcE pg pt pe vs (items.drop i) en = some (rest, ef) ∧ done ++ rest = ds)
    ⟨Lo, _, [], ds, rfl, re, (wipeF_idem _).symm, Ex.refl _, RA.nil, Nat.le_refl _, z5, rfl⟩ ?_ ?_ ?_
  · rintro i acc G2 L2 H2 ⟨Lo, en, done, rest, rfl, _, _, x2, _⟩ n2
    exact hGp _ _ _ x2 n2
  · rintro Da i x H2 H3 acc G2 L2 hil ⟨Lo, en, done, rest, rfl, re2, hen, x2, ra, hdl, el, ed⟩ n2 y
    have hd : items[i]? = some (items[i]'hil) := List.getElem?_eq_getElem hil
    obtain ⟨G3, x3, rd, n3⟩ := hY i _ _ _ _ _ _ hd x2 n2 y
    rw [List.drop_eq_getElem_cons hil, lcE] at el
    obtain ⟨en3, el1, el2⟩ := bind_some el
    obtain ⟨⟨b, en4⟩, el3, el4⟩ := bind_some el2
    refine hg (L := (Da, .lst acc) :: L) el1 ⟨Lo, re2.ex x3, midN n3⟩ rd fun σ2 G4 H4 x4 w4 ag => ⟨wipe_agr ag, ?_⟩
    refine ht el3 w4 fun G5 H5 x5 w5 => ?_
    have x35 : Ex G2 G5 := (x3.trans x4).trans x5
    cases b with
    | false =>
      obtain ⟨en5, el5, el6⟩ := bind_some el4
      obtain ⟨⟨Lo6, re6, n6⟩, hen5⟩ := wipeE_ok w5 el5
      rw [wipe_agr ag] at re6
      exact ⟨acc, G5, Lo6 ++ L, ⟨Lo6, en5, done, rest, rfl, re6, by rw [hen5, wipeF_idem], x2.trans x35, RA_ex x35 _ _ ra, by omega, el6, ed⟩, midN' n6⟩
    | true =>
      obtain ⟨⟨z, en5⟩, el5, el6⟩ := bind_some el4
      obtain ⟨en6, el7, el8⟩ := bind_some el6
      obtain ⟨⟨rs, en7⟩, el9, el10⟩ := bind_some el8
      cases el10
      refine he el5 w5 fun u G6 H6 x6 r6 w6 => ?_
      obtain ⟨⟨Lo7, re7, n7⟩, hen6⟩ := wipeE_ok w6 el7
      rw [wipe_agr ag] at re7
      refine LcP.add (midN' n7) (by rw [ra.len]; omega) ⟨Lo7, en6, done ++ [z], rs, rfl, re7, by rw [hen6, wipeF_idem], (x2.trans x35).trans x6, (RA_ex (x35.trans x6) _ _ ra).append (RA.cons r6 RA.nil), by rw [List.length_append]; simp; omega, el9, by rw [← ed]; simp⟩
  · rintro Da H2 acc G2 L2 ⟨Lo, en, done, rest, rfl, re2, hen, x2, ra, hdl, el, ed⟩ n2
    rw [List.drop_length, lcE] at el
    cases el
    rw [List.append_nil] at ed
    subst ed
    rw [hen] at re2
    have w3 := Wd.unwipe ⟨Lo, re2, midN n2⟩
    rw [← hen] at w3
    exact q _ _ _ _ (x1.trans x2) ⟨_, rfl, ra⟩ w3
/-! defs -/
def env0 (n : Nat) (ds : List D) : Env := (ds.map fun d => some (C.v d)) ++ List.replicate (n - ds.length) none
theorem rel_rep {G : Hp} : ∀ k : Nat, Rel K G [] (List.replicate k none) (List.replicate k none) []
  | 0 => .nil
  | k + 1 => .emp (rel_rep k)
theorem rel0 {G : Hp} {k : Nat} : ∀ {ds : List D} {vs : List V}, RA K G ds vs → Rel K G [] ((ds.map fun d => some (C.v d)) ++ List.replicate k none) (vs.map some ++ List.replicate k none) []
  | [], _, h => by rw [RA] at h; subst h; exact rel_rep k
  | d :: ds, _, h => by
    rw [RA] at h
    obtain ⟨v, r, rfl, h1, h2⟩ := h
    exact .val h1 (rel0 h2)
def fn0 (k n : Nat) (pb : PS') : List D → Option D := fun ds => if ds.length = k then (pb (env0 n ds)).bind fun o => match o with
  | .rt d _ => some d
  | .nx _ => some .non
  | _ => none
  else none
def fn0N (k n : Nat) (pb : PS') : List D → Option (List D) := fun ds => if ds.length = k then (pb (env0 n ds)).bind fun o => match o with
  | .rtN (.l d) _ => some d
  | _ => none
  else none
theorem fn0_len {k n : Nat} {pb : PS'} {ds : List D} {z : D} (h : fn0 k n pb ds = some z) : ds.length = k := by
  unfold fn0 at h
  split at h
  · rename_i e; exact e
  · cases h
theorem fn0N_len {k n : Nat} {pb : PS'} {ds z : List D} (h : fn0N k n pb ds = some z) : ds.length = k := by
  unfold fn0N at h
  split at h
  · rename_i e; exact e
  · cases h
theorem ln0 {f : List D → Option D} {k : Nat} (hf : ∀ ds z, f ds = some z → ds.length = k) {vs : List V} {H : Hp} {Q : VK} {E : XK} (h : sp0 K f vs H Q E) : vs.length = k := by
  obtain ⟨G, L, ds, d, r, n, e, _⟩ := h
  rw [r.len]; exact hf _ _ e
theorem ln0N {f : List D → Option (List D)} {k : Nat} (hf : ∀ ds z, f ds = some z → ds.length = k) {vs : List V} {H : Hp} {Q : VK} {E : XK} (h : sp0N K f vs H Q E) : vs.length = k := by
  obtain ⟨G, L, ds, d, r, n, e, _⟩ := h
  rw [r.len]; exact hf _ _ e
theorem ok0 {k : Nat} {N : List Str} (h : RefS K ts ps) {vs : List V} {H : Hp} {Q : VK} {E : XK} (hs : sp0 K (fn0 k N.length ps) vs H Q E) : ts { nx := fun _ H' => Q .non H', rt := Q } (start N vs) H := by
  obtain ⟨G, L, ds, d, r, n, e, q⟩ := hs
  unfold fn0 at e
  split at e
  case isFalse => cases e
  obtain ⟨o, e1, e2⟩ := bind_some e
  have w : Wd K G L [] (env0 N.length ds) (start N vs) H := ⟨[], by unfold env0 L2.start; rw [r.len]; exact rel0 r, n⟩
  refine h e1 w ?_
  match o, e2 with
  | .rt d' _, e2 => cases e2; exact fun v σ' G' H' x rd ⟨Lo, _, n'⟩ => q v G' H' x rd (n'.sub (List.sublist_append_right ..))
  | .nx _, e2 => cases e2; exact fun σ' G' H' x ⟨Lo, _, n'⟩ => q .non G' H' x (by rw [R]) (n'.sub (List.sublist_append_right ..))
theorem ok0N {k : Nat} {N : List Str} (h : RefS K ts ps) {vs : List V} {H : Hp} {Q : VK} {E : XK} (hs : sp0N K (fn0N k N.length ps) vs H Q E) : ts { nx := fun _ H' => Q .non H', rt := Q } (start N vs) H := by
  obtain ⟨G, L, ds, d, r, n, e, q⟩ := hs
  unfold fn0N at e
  split at e
  case isFalse => cases e
  obtain ⟨o, e1, e2⟩ := bind_some e
  have w : Wd K G L [] (env0 N.length ds) (start N vs) H := ⟨[], by unfold env0 L2.start; rw [r.len]; exact rel0 r, n⟩
  refine h e1 w ?_
  match o, e2 with
  | .rtN (.l d') _, e2 => cases e2; exact fun p hh σ' G' H' x ⟨xs, eh, rd⟩ ⟨Lo, _, n'⟩ => q p xs G' H' x rd (by subst eh; exact n'.sub (List.sublist_append_right ..))
/-! defs that may change one thing that they are handed -/
def env1 (n : Nat) (avs : List (Option D)) (o : Ob) : Env := (avs.map fun d => match d with | some d => some (C.v d) | none => some (C.io o)) ++ List.replicate (n - avs.length) none
def out1 : Env → Option Ob
  | [] => none
  | some (.io o) :: _ => some o
  | _ :: e => out1 e
theorem rel1 {G : Hp} {k : Nat} {p : Addr} {o : Ob} {cs : List (Addr × HO)} (ho : RO K G o p cs) : ∀ {avs : List (Option D)} {vs : List V}, RAV K G (.ref p) avs vs → ∃ m : Nat, m = (avs.filter Option.isNone).length ∧
    Rel K G (List.replicate m p) ((avs.map fun d => match d with | some d => some (C.v d) | none => some (C.io o)) ++ List.replicate k none) (vs.map some ++ List.replicate k none) (List.replicate m cs).flatten
  | [], _, hr => by rw [show _ = [] from hr]; exact ⟨0, rfl, rel_rep k⟩
  | some d :: avs, _, hr => by
    obtain ⟨v, r, rfl, h1, h2⟩ := hr
    obtain ⟨m, hm, q⟩ := rel1 ho h2
    exact ⟨m, by simpa using hm, .val h1 q⟩
  | none :: avs, _, hr => by
    obtain ⟨r, rfl, h2⟩ := hr
    obtain ⟨m, hm, q⟩ := rel1 ho h2
    exact ⟨m + 1, by simp [hm], .io ho q⟩
theorem rel_out {G : Hp} {p : Addr} {env : Env} {σ : L2.St} {Lo : List (Addr × HO)} {o : Ob} (r : Rel K G [p] env σ Lo) (ho : out1 env = some o) : ∃ cs Lo', RO K G o p cs ∧ Lo.Perm (cs ++ Lo') := by
  generalize hs : [p] = as at r
  induction r with
  | nil => cases hs
  | emp _ ih => exact ih ho hs
  | val _ _ ih => exact ih ho hs
  | @own as t s L o1 p1 h1 hd r ih =>
    obtain ⟨h, L', q1, q2⟩ := ih ho hs
    exact ⟨h, h1 ++ L', q1, (q2.append_left h1).trans (pmid h1 h L')⟩
  | @io as t s L o1 p1 h1 hd r ih =>
    cases hs
    cases ho
    exact ⟨h1, L, hd, List.Perm.refl _⟩
def fn1 (k n : Nat) (pb : PS') : List (Option D) → Ob → Option (D × Ob) := fun avs o => if avs.length = k ∧ (avs.filter Option.isNone).length = 1 then (pb (env1 n avs o)).bind fun z => match z with
  | .rt d e => (out1 e).bind fun o' => some (d, o')
  | .nx e => (out1 e).bind fun o' => some (.non, o')
  | _ => none
  else none
def fn1N (k n : Nat) (pb : PS') : List (Option D) → Ob → Option (List D × Ob) := fun avs o => if avs.length = k ∧ (avs.filter Option.isNone).length = 1 then (pb (env1 n avs o)).bind fun z => match z with
  | .rtN (.l d) e => (out1 e).bind fun o' => some (d, o')
  | _ => none
  else none
theorem ln1 {k n : Nat} {vs : List V} {H : Hp} {Q : VK} {E : XK} (h : sp1 K (fn1 k n ps) vs H Q E) : vs.length = k := by
  obtain ⟨G, L, avs, o, d, o', p, hh, r, ro, nw, e, _⟩ := h
  unfold fn1 at e
  split at e
  · rename_i hk; rw [r.len]; exact hk.1
  · cases e
theorem ln1N {k n : Nat} {vs : List V} {H : Hp} {Q : VK} {E : XK} (h : sp1N K (fn1N k n ps) vs H Q E) : vs.length = k := by
  obtain ⟨G, L, avs, o, d, o', p, hh, r, ro, nw, e, _⟩ := h
  unfold fn1N at e
  split at e
  · rename_i hk; rw [r.len]; exact hk.1
  · cases e
theorem ok1 {k : Nat} {N : List Str} (h : RefS K ts ps) {vs : List V} {H : Hp} {Q : VK} {E : XK} (hs : sp1 K (fn1 k N.length ps) vs H Q E) : ts { nx := fun _ H' => Q .non H', rt := Q } (start N vs) H := by
  obtain ⟨G, L, avs, o, d, o', p, hh, r, ro, n, e, q⟩ := hs
  unfold fn1 at e
  split at e
  case isFalse => cases e
  rename_i hk
  obtain ⟨z, e1, e2⟩ := bind_some e
  have w : Wd K G L [p] (env1 N.length avs o) (start N vs) H := by
    obtain ⟨m, hm, q1⟩ := rel1 (k := N.length - avs.length) ro r
    rw [hk.2] at hm
    subst hm
    exact ⟨hh, by unfold env1 L2.start; rw [r.len]; simpa using q1, n⟩
  refine h e1 w ?_
  match z, e2 with
  | .rt d' e', e2 =>
    obtain ⟨o2, e3, e4⟩ := bind_some e2
    cases e4
    refine fun v σ' G' H' x rd ⟨Lo, re, n'⟩ => ?_
    obtain ⟨h2, L2, k1, k2⟩ := rel_out re e3
    exact q v G' h2 H' x rd k1 (((by rw [← List.append_assoc]; exact n'.permL k2 : Now G' (h2 ++ (L2 ++ L)) H')).sub ((List.sublist_append_right ..).append_left h2))
  | .nx e', e2 =>
    obtain ⟨o2, e3, e4⟩ := bind_some e2
    cases e4
    refine fun σ' G' H' x ⟨Lo, re, n'⟩ => ?_
    obtain ⟨h2, L2, k1, k2⟩ := rel_out re e3
    exact q .non G' h2 H' x (by rw [R]) k1 (((by rw [← List.append_assoc]; exact n'.permL k2 : Now G' (h2 ++ (L2 ++ L)) H')).sub ((List.sublist_append_right ..).append_left h2))
theorem ok1N {k : Nat} {N : List Str} (h : RefS K ts ps) {vs : List V} {H : Hp} {Q : VK} {E : XK} (hs : sp1N K (fn1N k N.length ps) vs H Q E) : ts { nx := fun _ H' => Q .non H', rt := Q } (start N vs) H := by
  obtain ⟨G, L, avs, o, d, o', p, hh, r, ro, n, e, q⟩ := hs
  unfold fn1N at e
  split at e
  case isFalse => cases e
  rename_i hk
  obtain ⟨z, e1, e2⟩ := bind_some e
  have w : Wd K G L [p] (env1 N.length avs o) (start N vs) H := by
    obtain ⟨m, hm, q1⟩ := rel1 (k := N.length - avs.length) ro r
    rw [hk.2] at hm
    subst hm
    exact ⟨hh, by unfold env1 L2.start; rw [r.len]; simpa using q1, n⟩
  refine h e1 w ?_
  match z, e2 with
  | .rtN (.l d') e', e2 =>
    obtain ⟨o2, e3, e4⟩ := bind_some e2
    cases e4
    refine fun pq h3 σ' G' H' x ⟨xs, eh, rd⟩ ⟨Lo, re, n'⟩ => ?_
    subst eh
    obtain ⟨h2, L2, k1, k2⟩ := rel_out re e3
    have n2 : Now G' ((pq, .lst xs) :: (Lo ++ L)) H' := midN' n'
    have n3 : Now G' ((pq, .lst xs) :: ((h2 ++ L2) ++ L)) H' := n2.perm (List.Perm.cons _ (k2.append_right L))
    rw [List.append_assoc] at n3
    exact q pq xs G' h2 H' x rd k1 (n3.sub (List.Sublist.cons₂ _ ((List.sublist_append_right ..).append_left h2)))
end
end MA
/-! QO: operations on data. -/
namespace MA
open PySem PySem.Spec PyProof.Rows L2 SX
/-! ### data as the kit has it -/
mutual
def pd : D → PyData
  | .non => .none
  | .bl b => .bool b
  | .int i => .int i
  | .str l => .str (S l)
  | .lst l => .list (pds l)
  | .tup l => .tuple (pds l)
  | .scr _ => .none
  | .dic _ _ => .none
def pds : List D → List PyData
  | [] => []
  | d :: ds => pd d :: pds ds
end
/-- true signs, not too deep -/
def shp : Nat → D → Bool
  | _, .non => true
  | _, .bl _ => true
  | _, .int _ => true
  | _, .str l => l.all (· < 1114112)
  | n + 1, .lst l => l.all (shp n)
  | n + 1, .tup l => l.all (shp n)
  | _, _ => false
/-- no truths (k false), no numbers (k true) -/
def uni (k : Bool) : Nat → D → Bool
  | _, .non => true
  | _, .bl _ => k
  | _, .int _ => !k
  | _, .str l => l.all (· < 1114112)
  | n + 1, .lst l => l.all (uni k n)
  | n + 1, .tup l => l.all (uni k n)
  | _, _ => false
def eqd (d e : D) : Bool := PyData.eqv (pd d) (pd e)
section
variable {K : PySem.W.Frag} {G H : Hp} {L : List (Addr × HO)} {Q : VK}
theorem pds_map : ∀ l : List D, pds l = l.map pd
  | [] => rfl
  | d :: l => by rw [pds, pds_map l]; rfl
theorem RA.dpAll {ds : List D} {xs : List V} (h : RA K G ds xs) (hd : ∀ d ∈ ds, ∀ v, R K G d v → Dp K G v (pd d)) : DpAll K G xs (pds ds) := by
  induction ds generalizing xs with
  | nil => rw [RA] at h; subst h; exact .nil
  | cons d ds ih =>
    rw [RA] at h
    obtain ⟨v, r, rfl, h1, h2⟩ := h
    exact .cons (hd d (List.mem_cons_self ..) v h1) (ih h2 fun d' m => hd d' (List.mem_cons_of_mem _ m))
theorem R.dp (n : Nat) : ∀ (d : D) (v : V), shp n d = true → R K G d v → Dp K G v (pd d) := by
  induction n with
  | zero =>
    intro d v hs h
    cases d <;> first | (rw [R] at h; subst h; rw [pd]; constructor) | cases hs
  | succ n ih =>
    intro d v hs h
    cases d with
    | lst l =>
      rw [R] at h
      obtain ⟨a, xs, rfl, h1, h2⟩ := h
      rw [pd]
      rw [shp, List.all_eq_true] at hs
      exact .lst (sqL h1) (h2.dpAll fun d m v r => ih d v (hs d m) r)
    | tup l =>
      rw [R] at h
      obtain ⟨a, xs, rfl, h1, h2⟩ := h
      rw [pd]
      rw [shp, List.all_eq_true] at hs
      exact .tup h1 (h2.dpAll fun d m v r => ih d v (hs d m) r)
    | scr l => cases hs
    | dic _ _ => cases hs
    | non => rw [R] at h; subst h; rw [pd]; constructor
    | bl b => rw [R] at h; subst h; rw [pd]; constructor
    | int i => rw [R] at h; subst h; rw [pd]; constructor
    | str l => rw [R] at h; subst h; rw [pd]; constructor
theorem all_cps {l : List Nat} (h : l.all (· < 1114112) = true) : (S l).cps.all (· < 0x110000) = true := by
  show l.toArray.all (· < 0x110000) = true
  rw [List.all_toArray]
  exact h
theorem shp_lay (n : Nat) : ∀ d : D, shp n d = true → (pd d).canLay0 = true ∧ (pd d).depth ≤ n + 1 := by
  induction n with
  | zero =>
    intro d hs
    cases d with
    | str l => exact ⟨by rw [pd, PyData.canLay0]; exact all_cps hs, by simp [pd, PyData.depth]⟩
    | lst _ => cases hs
    | tup _ => cases hs
    | scr _ => cases hs
    | dic _ _ => cases hs
    | _ => simp [pd, PyData.canLay0, PyData.depth]
  | succ n ih =>
    intro d hs
    cases d with
    | str l => exact ⟨by rw [pd, PyData.canLay0]; exact all_cps hs, by simp [pd, PyData.depth]⟩
    | lst l =>
      rw [shp, List.all_eq_true] at hs
      refine ⟨?_, ?_⟩
      · rw [pd, PyData.canLay0, pds_map]
        refine lay_all _ fun x hx => ?_
        obtain ⟨d, hd, rfl⟩ := List.mem_map.mp hx
        exact (ih d (hs d hd)).1
      · rw [pd, PyData.depth, pds_map]
        have := dep_all (n := n + 1) (l.map pd) fun x hx => by
          obtain ⟨d, hd, rfl⟩ := List.mem_map.mp hx
          exact (ih d (hs d hd)).2
        omega
    | tup l =>
      rw [shp, List.all_eq_true] at hs
      refine ⟨?_, ?_⟩
      · rw [pd, PyData.canLay0, pds_map]
        refine lay_all _ fun x hx => ?_
        obtain ⟨d, hd, rfl⟩ := List.mem_map.mp hx
        exact (ih d (hs d hd)).1
      · rw [pd, PyData.depth, pds_map]
        have := dep_all (n := n + 1) (l.map pd) fun x hx => by
          obtain ⟨d, hd, rfl⟩ := List.mem_map.mp hx
          exact (ih d (hs d hd)).2
        omega
    | scr _ => cases hs
    | dic _ _ => cases hs
    | _ => simp [pd, PyData.canLay0, PyData.depth]
theorem shp_shaped {d : D} (h : shp 40 d = true) : SeqAt.shaped (pd d) = true := by
  obtain ⟨a, b⟩ := shp_lay 40 d h
  show ((pd d).canLay0 && decide ((pd d).depth ≤ 64)) = true
  rw [a, Bool.true_and]
  exact decide_eq_true (by omega)
/-! == -/
def oEq : D → D → Option D
  | .str l, .str m => some (.bl (decide (l = m)))
  | .int i, .int j => some (.bl (decide (i = j)))
  | .bl i, .bl j => some (.bl (decide (i = j)))
  | .non, .non => some (.bl true)
  | .str _, .int _ => some (.bl false)
  | .int _, .str _ => some (.bl false)
  | .non, .str _ => some (.bl false)
  | .str _, .non => some (.bl false)
  | .non, .int _ => some (.bl false)
  | .int _, .non => some (.bl false)
  | d, e => if shp 40 d && shp 40 e then some (.bl (eqd d e)) else none
def oNe (d e : D) : Option D := (oEq d e).bind fun z => match z with
  | .bl b => some (.bl (!b))
  | _ => none
theorem eq_gen {d e z : D} {x y : V} (h : (if shp 40 d && shp 40 e then some (D.bl (eqd d e)) else none) = some z) (hd : R K G d x) (he : R K G e y) (n : Now G L H) : ∃ b, z = .bl b ∧ Dp K H x (pd d) ∧ Dp K H y (pd e) ∧ SeqAt.shaped (pd d) = true ∧ SeqAt.shaped (pd e) = true ∧ PyData.eqv (pd d) (pd e) = b := by
  split at h
  · rename_i hs
    rw [Bool.and_eq_true] at hs
    cases h
    exact ⟨_, rfl, (R.dp 40 d x hs.1 hd).ex n.Ex, (R.dp 40 e y hs.2 he).ex n.Ex, shp_shaped hs.1, shp_shaped hs.2, rfl⟩
  · cases h
theorem eq_both {d e z : D} {x y : V} (h : oEq d e = some z) (hd : R K G d x) (he : R K G e y) (n : Now G L H) : ∃ b, z = .bl b ∧ (∀ Q : VK, Q (.bl b) H → rEqU K x y H Q) ∧ (∀ Q : VK, Q (.bl (!b)) H → rNeU K x y H Q) := by
  unfold oEq at h
  split at h
  · rw [R] at hd; rw [R] at he; subst hd; subst he; cases h; exact ⟨_, rfl, fun Q q => w_eqT q, fun Q q => w_neT q⟩
  · rw [R] at hd; rw [R] at he; subst hd; subst he; cases h; exact ⟨_, rfl, fun Q q => w_eqI q, fun Q q => w_neI q⟩
  · rw [R] at hd; rw [R] at he; subst hd; subst he; cases h; exact ⟨_, rfl, fun Q q => w_eqB q, fun Q q => w_neB q⟩
  · rw [R] at hd; rw [R] at he; subst hd; subst he; cases h; exact ⟨_, rfl, fun Q q => .inl ⟨rfl, by rw [decide_eq_true rfl]; exact q⟩, fun Q q => .inl ⟨rfl, by rw [decide_eq_true rfl]; exact q⟩⟩
  · rw [R] at hd; rw [R] at he; subst hd; subst he; cases h; exact ⟨_, rfl, fun Q q => .inl ⟨rfl, by rw [decide_eq_false (fun e => nomatch e)]; exact q⟩, fun Q q => .inl ⟨rfl, by rw [decide_eq_false (fun e => nomatch e)]; exact q⟩⟩
  · rw [R] at hd; rw [R] at he; subst hd; subst he; cases h; exact ⟨_, rfl, fun Q q => .inl ⟨rfl, by rw [decide_eq_false (fun e => nomatch e)]; exact q⟩, fun Q q => .inl ⟨rfl, by rw [decide_eq_false (fun e => nomatch e)]; exact q⟩⟩
  · rw [R] at hd; rw [R] at he; subst hd; subst he; cases h; exact ⟨_, rfl, fun Q q => .inl ⟨rfl, by rw [decide_eq_false (fun e => nomatch e)]; exact q⟩, fun Q q => .inl ⟨rfl, by rw [decide_eq_false (fun e => nomatch e)]; exact q⟩⟩
  · rw [R] at hd; rw [R] at he; subst hd; subst he; cases h; exact ⟨_, rfl, fun Q q => .inl ⟨rfl, by rw [decide_eq_false (fun e => nomatch e)]; exact q⟩, fun Q q => .inl ⟨rfl, by rw [decide_eq_false (fun e => nomatch e)]; exact q⟩⟩
  · rw [R] at hd; rw [R] at he; subst hd; subst he; cases h; exact ⟨_, rfl, fun Q q => .inl ⟨rfl, by rw [decide_eq_false (fun e => nomatch e)]; exact q⟩, fun Q q => .inl ⟨rfl, by rw [decide_eq_false (fun e => nomatch e)]; exact q⟩⟩
  · rw [R] at hd; rw [R] at he; subst hd; subst he; cases h; exact ⟨_, rfl, fun Q q => .inl ⟨rfl, by rw [decide_eq_false (fun e => nomatch e)]; exact q⟩, fun Q q => .inl ⟨rfl, by rw [decide_eq_false (fun e => nomatch e)]; exact q⟩⟩
  · obtain ⟨b, rfl, p1, p2, p3, p4, p5⟩ := eq_gen h hd he n
    exact ⟨b, rfl, fun Q q => .inr ⟨_, _, p1, p2, p3, p4, by rw [p5]; exact q⟩, fun Q q => .inr ⟨_, _, p1, p2, p3, p4, by rw [p5]; exact q⟩⟩
theorem ro_eq : RefO2 K (rEqU K) oEq := by
  intro G L H Q d e z x y h hd he n q
  obtain ⟨b, rfl, h1, _⟩ := eq_both h hd he n
  exact h1 Q (q _ _ _ (Ex.refl _) (by rw [R]) n)
theorem ro_ne : RefO2 K (rNeU K) oNe := by
  intro G L H Q d e z x y h hd he n q
  obtain ⟨w, h1, h2⟩ := bind_some h
  obtain ⟨b, rfl, _, h3⟩ := eq_both h1 hd he n
  cases h2
  exact h3 Q (q _ _ _ (Ex.refl _) (by rw [R]) n)
/-! numbers -/
def oI2 (f : Int → Int → D) : D → D → Option D
  | .int i, .int j => some (f i j)
  | _, _ => none
def oSub : D → D → Option D
  | .int i, .int j => some (.int (i - j))
  | .bl a, .int j => some (.int ((if a = true then (1 : Int) else 0) - j))
  | _, _ => none
theorem ro_sub : RefO2 K rSubU oSub := by
  intro G L H Q d e z x y h hd he n q
  unfold oSub at h
  split at h
  · rw [R] at hd; rw [R] at he; subst hd; subst he; cases h; exact w_subI (q _ _ _ (Ex.refl _) (by rw [R]) n)
  · rw [R] at hd; rw [R] at he; subst hd; subst he; cases h; exact .inr ⟨_, _, rfl, rfl, q _ _ _ (Ex.refl _) (by rw [R]) n⟩
  · cases h
def oFdiv : D → D → Option D
  | .int i, .int j => if 0 < j ∧ j < 1267650600228229401496703205376 then some (.int (i / j)) else none
  | _, _ => none
theorem ro_fdiv : RefO2 K rFdivU oFdiv := by
  intro G L H Q d e z x y h hd he n q
  unfold oFdiv at h
  split at h
  · rw [R] at hd; rw [R] at he; subst hd; subst he
    split at h
    · rename_i hj; cases h; exact w_fdivI hj.1 hj.2 (q _ _ _ (Ex.refl _) (by rw [R]) n)
    · cases h
  · cases h
theorem ri_fdiv : RefIp K ipFdivU oFdiv := ro_fdiv
def oMod : D → D → Option D
  | .int i, .int j => if 0 < j then some (.int (i % j)) else none
  | _, _ => none
theorem ro_mod : RefO2 K rModU oMod := by
  intro G L H Q d e z x y h hd he n q
  unfold oMod at h
  split at h
  · rw [R] at hd; rw [R] at he; subst hd; subst he
    split at h
    · rename_i hj; cases h; exact w_modI hj (q _ _ _ (Ex.refl _) (by rw [R]) n)
    · cases h
  · cases h
def oPow : D → D → Option D
  | .int i, .int j => if 0 ≤ j ∧ j ≤ 1000000 ∧ i.natAbs < 2 ^ 64 then some (.int (i ^ j.toNat)) else none
  | _, _ => none
theorem ro_pow : RefO2 K rPowU oPow := by
  intro G L H Q d e z x y h hd he n q
  unfold oPow at h
  split at h
  · rw [R] at hd; rw [R] at he; subst hd; subst he
    split at h
    · rename_i hj; cases h; exact w_powI hj (q _ _ _ (Ex.refl _) (by rw [R]) n)
    · cases h
  · cases h
/-- a great number that is never reckoned -/
def big : Nat := 2 ^ 100000
theorem lt_big {n k : Nat} (h : n < 2 ^ k) (hk : k ≤ 100000) : n < big := Nat.lt_of_lt_of_le h (Nat.pow_le_pow_right (by decide) hk)
def oShl : D → D → Option D
  | .int i, .int j => if 0 ≤ i ∧ i.toNat < big ∧ 0 ≤ j ∧ j ≤ 1000000 then some (.int (i * 2 ^ j.toNat)) else none
  | _, _ => none
theorem ro_shl : RefO2 K rShlU oShl := by
  intro G L H Q d e z x y h hd he n q
  unfold oShl at h
  split at h
  · rw [R] at hd; rw [R] at he; subst hd; subst he
    split at h
    · rename_i i j hj
      cases h
      refine ⟨i, j, rfl, rfl, ⟨hj.2.2.1, ?_⟩, q _ _ _ (Ex.refl _) (by rw [R]) n⟩
      have := bits_le (s := i.toNat) (N := 100000) hj.2.1
      have e : ((i.toNat : Nat) : Int) = i := by omega
      rw [e] at this
      omega
    · cases h
  · cases h
theorem ri_shl : RefIp K ipShlU oShl := ro_shl
def oShr : D → D → Option D
  | .int i, .int j => if 0 ≤ j then some (.int (i / 2 ^ j.toNat)) else none
  | _, _ => none
theorem ro_shr : RefO2 K rShrU oShr := by
  intro G L H Q d e z x y h hd he n q
  unfold oShr at h
  split at h
  · rw [R] at hd; rw [R] at he; subst hd; subst he
    split at h
    · rename_i hj; cases h; exact w_shrI hj (q _ _ _ (Ex.refl _) (by rw [R]) n)
    · cases h
  · cases h
theorem ri_shr : RefIp K ipShrU oShr := ro_shr
def oAnd : D → D → Option D
  | .int i, .int j => some (.int (Builtin.bitAnd i j))
  | _, _ => none
theorem ro_and : RefO2 K rAndU oAnd := by
  intro G L H Q d e z x y h hd he n q
  unfold oAnd at h
  split at h
  · rw [R] at hd; rw [R] at he; subst hd; subst he; cases h; exact ⟨_, _, rfl, rfl, q _ _ _ (Ex.refl _) (by rw [R]) n⟩
  · cases h
theorem ri_and : RefIp K ipAndU oAnd := ro_and
def oOr : D → D → Option D
  | .int i, .int j => some (.int (Builtin.bitOr i j))
  | _, _ => none
theorem ro_or : RefO2 K rOrU oOr := by
  intro G L H Q d e z x y h hd he n q
  unfold oOr at h
  split at h
  · rw [R] at hd; rw [R] at he; subst hd; subst he; cases h; exact ⟨_, _, rfl, rfl, q _ _ _ (Ex.refl _) (by rw [R]) n⟩
  · cases h
theorem ri_or : RefIp K ipOrU oOr := ro_or
def oXor : D → D → Option D
  | .int i, .int j => some (.int (Builtin.bitXor i j))
  | _, _ => none
theorem ro_xor : RefO2 K rXorU oXor := by
  intro G L H Q d e z x y h hd he n q
  unfold oXor at h
  split at h
  · rw [R] at hd; rw [R] at he; subst hd; subst he; cases h; exact ⟨_, _, rfl, rfl, q _ _ _ (Ex.refl _) (by rw [R]) n⟩
  · cases h
def oNeg : D → Option D
  | .int i => some (.int (-i))
  | _ => none
theorem ro_neg : RefO1 K rNegU oNeg := by
  intro G L H Q d z x h hd n q
  unfold oNeg at h
  split at h
  · rw [R] at hd; subst hd; cases h; exact ⟨_, rfl, q _ _ _ (Ex.refl _) (by rw [R]) n⟩
  · cases h
def oInv : D → Option D
  | .int i => some (.int (Builtin.bitNot i))
  | _ => none
theorem ro_inv : RefO1 K rInvU oInv := by
  intro G L H Q d z x h hd n q
  unfold oInv at h
  split at h
  · rw [R] at hd; subst hd; cases h; exact ⟨_, rfl, q _ _ _ (Ex.refl _) (by rw [R]) n⟩
  · cases h
/-! + and * -/
theorem RA_nil {ds : List D} {xs : List V} (h : RA K G ds xs) : xs = [] ↔ ds = [] := by
  have := h.len
  constructor <;> intro e
  · subst e; exact List.eq_nil_of_length_eq_zero this.symm
  · subst e; exact List.eq_nil_of_length_eq_zero this
def oAdd : D → D → Option D
  | .int i, .int j => some (.int (i + j))
  | .str l, .str m => if l.length + m.length ≤ 100000 then some (.str (l ++ m)) else none
  | .lst l, .lst m => if l.length + m.length ≤ 100000 then some (.lst (l ++ m)) else none
  | .tup l, .tup m => if l.length + m.length ≤ 100000 then some (.tup (l ++ m)) else none
  | .bl a, .int j => some (.int ((if a = true then (1 : Int) else 0) + j))
  | _, _ => none
theorem R_new {p : Addr} {xs : List V} {ds : List D} (n : Now G L H) (hp : H p = none) (r : RA K G ds xs) : R K (upd G p (.lst xs)) (.lst ds) (.ref p) := by
  rw [R]
  exact ⟨p, xs, rfl, upd_same, RA_ex (n.exn hp) _ _ r⟩
theorem R_newT {p : Addr} {xs : List V} {ds : List D} (n : Now G L H) (hp : H p = none) (r : RA K G ds xs) : R K (upd G p (.tup xs)) (.tup ds) (.ref p) := by
  rw [R]
  exact ⟨p, xs, rfl, sqT upd_same, RA_ex (n.exn hp) _ _ r⟩
theorem sizeL {n : Nat} (h : n ≤ 100000) : n ≤ sizeLine := Nat.le_trans h (by decide)
theorem ro_add : RefO2 K (rAddU K) oAdd := by
  intro G L H Q d e z x y h hd he n q
  unfold oAdd at h
  split at h
  · rw [R] at hd; rw [R] at he; subst hd; subst he; cases h; exact w_addI (q _ _ _ (Ex.refl _) (by rw [R]) n)
  · rw [R] at hd; rw [R] at he; subst hd; subst he
    split at h
    · rename_i hl; cases h; exact w_addT hl (q _ _ _ (Ex.refl _) (by rw [R]) n)
    · cases h
  · rw [R] at hd; rw [R] at he
    obtain ⟨a, xs, rfl, h1, h2⟩ := hd
    obtain ⟨b, ys, rfl, h3, h4⟩ := he
    split at h
    · rename_i hl; cases h
      exact .inr (.inr (.inl ⟨a, b, xs, ys, rfl, rfl, n.ex _ _ h1, n.ex _ _ h3, by rw [h2.len, h4.len]; exact sizeL hl, fun p hp => q _ _ _ (n.exn hp) (R_new n hp (h2.append h4)) (n.newG hp)⟩))
    · cases h
  · rw [R] at hd; rw [R] at he
    obtain ⟨a, xs, rfl, h1, h2⟩ := hd
    obtain ⟨b, ys, rfl, h3, h4⟩ := he
    split at h
    · rename_i hl; cases h
      refine .inr (.inr (.inr (.inl ⟨a, b, xs, ys, rfl, rfl, st_ex n.Ex h1, st_ex n.Ex h3, by rw [h2.len, h4.len]; exact sizeL hl, fun e => ?_, fun _ e => ?_, fun _ _ p hp => q _ _ _ (n.exn hp) (R_newT n hp (h2.append h4)) (n.newG hp)⟩)))
      · rw [RA_nil h2] at e
        subst e
        refine q _ _ _ (Ex.refl _) ?_ n
        rw [R, List.nil_append]
        exact ⟨b, ys, rfl, h3, h4⟩
      · rw [RA_nil h4] at e
        subst e
        refine q _ _ _ (Ex.refl _) ?_ n
        rw [R, List.append_nil]
        exact ⟨a, xs, rfl, h1, h2⟩
    · cases h
  · rw [R] at hd; rw [R] at he; subst hd; subst he; cases h; exact .inr (.inr (.inr (.inr ⟨_, _, rfl, rfl, q _ _ _ (Ex.refl _) (by rw [R]) n⟩)))
  · cases h
end
end MA
/-! QP: more operations on data. -/
namespace MA
open PySem PySem.Spec PyProof.Rows L2 SX
section
variable {K : PySem.W.Frag} {G H : Hp} {L : List (Addr × HO)} {Q : VK} {ta tb te : TE} {tt : TA} {pa pb pe : PP} {ps : Env → Option (List D)}
/-! * -/
theorem rep_foldL (l : List Nat) : ∀ (n : Nat) (acc : Array Nat), (List.replicate n l.toArray).foldl (· ++ ·) acc = acc ++ ((List.replicate n l).flatten).toArray
  | 0, acc => by simp
  | n + 1, acc => by
    rw [List.replicate_succ, List.foldl_cons, rep_foldL l n, List.replicate_succ]
    apply Array.ext'
    simp
theorem mulS (l : List Nat) {j : Int} (h : 0 ≤ j) : Txt.mul (S l) j = S (List.replicate j.toNat l).flatten := by
  unfold Txt.mul
  by_cases h0 : j < 1
  · rw [if_pos h0]
    have : j.toNat = 0 := by omega
    rw [this]; rfl
  rw [if_neg h0]
  by_cases h1 : j = 1
  · subst h1
    rw [show ((1 : Int) == 1) = true from rfl, Bool.true_or, if_pos rfl]
    show S l = S ((List.replicate 1 l).flatten)
    simp
  · by_cases hl : l = []
    · subst hl
      have e : (j == 1 || (S []).length == 0) = true := by rw [Bool.or_eq_true]; exact .inr rfl
      rw [e, if_pos rfl]
      have : (List.replicate j.toNat ([] : List Nat)).flatten = [] := by simp
      rw [this]
    · have e : (j == 1 || (S l).length == 0) = false := by
        rw [Bool.or_eq_false_iff]
        refine ⟨beq_eq_false_iff_ne.mpr h1, beq_eq_false_iff_ne.mpr ?_⟩
        rw [S_len]
        exact fun e => hl (List.eq_nil_of_length_eq_zero e)
      rw [e, if_neg Bool.false_ne_true]
      show (⟨(List.replicate j.toNat l.toArray).foldl (· ++ ·) #[]⟩ : Str) = _
      rw [rep_foldL]
      simp [S]
def oMul : D → D → Option D
  | .int i, .int j => if (-(2 ^ 64) < i ∧ i < 2 ^ 64) ∨ (-(2 ^ 64) < j ∧ j < 2 ^ 64) then some (.int (i * j)) else none
  | .str l, .int j => if 0 ≤ j ∧ j ≤ 1000 ∧ l.length ≤ 1000 then some (.str (List.replicate j.toNat l).flatten) else none
  | .lst l, .int j => if -(2 ^ 63) ≤ j ∧ j < 2 ^ 63 ∧ l.length * j.toNat ≤ 100000 then some (.lst (List.replicate j.toNat l).flatten) else none
  | .tup l, .int j => if 2 ≤ j ∧ j ≤ 1000 ∧ l.length ≤ 1000 ∧ l.isEmpty = false then some (.tup (List.replicate j.toNat l).flatten) else if j = 1 then some (.tup l) else none
  | _, _ => none
theorem ro_mul : RefO2 K (rMulU K) oMul := by
  intro G L H Q d e z x y h hd he n q
  unfold oMul at h
  split at h
  · rw [R] at hd; rw [R] at he; subst hd; subst he
    split at h
    · rename_i hl; cases h; exact w_mulI hl (q _ _ _ (Ex.refl _) (by rw [R]) n)
    · cases h
  · rename_i l j
    rw [R] at hd; rw [R] at he; subst hd; subst he
    split at h
    · rename_i hl; cases h
      refine .inr (.inr (.inl ⟨S l, j, rfl, rfl, ⟨?_, fun _ _ => ?_, fun _ _ => ?_⟩, by rw [mulS l hl.1]; exact q _ _ _ (Ex.refl _) (by rw [R]) n⟩))
      · rw [Bool.or_eq_false_iff]
        exact ⟨decide_eq_false (by omega), decide_eq_false (by omega)⟩
      · rw [S_len]
        have : (1000 : Int) ≤ (2 ^ 63 - 1) / j := by
          rw [Int.le_ediv_iff_mul_le (by omega)]
          omega
        omega
      · rw [S_len]
        have : l.length * j.toNat ≤ 1000 * 1000 := Nat.mul_le_mul hl.2.2 (by omega)
        exact decide_eq_false (show ¬ _ > 16777216 by omega)
    · cases h
  · rename_i l j
    rw [R] at hd; rw [R] at he; subst he
    obtain ⟨a, xs, rfl, h1, h2⟩ := hd
    split at h
    · rename_i hl; cases h
      exact .inr (.inr (.inr (.inl ⟨a, j, xs, rfl, rfl, n.ex _ _ h1, hl.1, hl.2.1, by rw [h2.len]; exact sizeL hl.2.2, fun p hp => q _ _ _ (n.exn hp) (R_new n hp (h2.rep _)) (n.newG hp)⟩)))
    · cases h
  · rename_i l j
    rw [R] at hd; rw [R] at he; subst he
    obtain ⟨a, xs, rfl, h1, h2⟩ := hd
    split at h
    · rename_i hl; cases h
      refine .inr (.inr (.inr (.inr (.inl ⟨a, j, xs, rfl, rfl, st_ex n.Ex h1, fun e => ?_, hl.1, hl.2.1, by rw [h2.len]; exact hl.2.2.1, fun p hp => q _ _ _ (n.exn hp) (R_newT n hp (h2.rep _)) (n.newG hp)⟩))))
      rw [RA_nil h2] at e; rw [e] at hl; exact absurd hl.2.2.2 (by decide)
    · split at h
      · rename_i hj; cases h; subst hj
        exact .inr (.inr (.inr (.inr (.inr ⟨a, xs, rfl, rfl, st_ex n.Ex h1, q _ _ _ (Ex.refl _) (by rw [R]; exact ⟨a, xs, rfl, h1, h2⟩) n⟩))))
      · cases h
  · cases h
/-! orders -/
def intsD : List D → Option (List Int)
  | [] => some []
  | .int i :: l => (intsD l).bind fun r => some (i :: r)
  | _ => none
theorem ints_ok : ∀ {ds : List D} {ns : List Int} {xs : List V}, intsD ds = some ns → RA K G ds xs → xs = ns.map V.int
  | [], _, _, h, r => by cases h; rw [RA] at r; exact r
  | .int i :: ds, _, _, h, r => by
    obtain ⟨ms, h1, h2⟩ := bind_some h
    cases h2
    rw [RA] at r
    obtain ⟨v, r', rfl, q1, q2⟩ := r
    rw [R] at q1
    rw [q1, ints_ok h1 q2]
    rfl
def oLt : D → D → Option D
  | .int i, .int j => some (.bl (decide (i < j)))
  | .str l, .str m => some (.bl (decide (l < m)))
  | .tup l, .tup m => (intsD l).bind fun a => (intsD m).bind fun b => some (.bl (HT.lexLt a b))
  | _, _ => none
theorem ro_lt : RefO2 K (rLtU K) oLt := by
  intro G L H Q d e z x y h hd he n q
  unfold oLt at h
  split at h
  · rw [R] at hd; rw [R] at he; subst hd; subst he; cases h; exact w_ltI (q _ _ _ (Ex.refl _) (by rw [R]) n)
  · rw [R] at hd; rw [R] at he; subst hd; subst he; cases h
    exact .inr (.inl ⟨_, _, rfl, rfl, q _ _ _ (Ex.refl _) (by rw [R]) n⟩)
  · rw [R] at hd; rw [R] at he
    obtain ⟨a, xs, rfl, h1, h2⟩ := hd
    obtain ⟨b, ys, rfl, h3, h4⟩ := he
    obtain ⟨ns, z1, z2⟩ := bind_some h
    obtain ⟨ms, z3, z4⟩ := bind_some z2
    cases z4
    rw [ints_ok z1 h2] at h1
    rw [ints_ok z3 h4] at h3
    exact .inr (.inr ⟨a, b, ns, ms, rfl, rfl, st_ex n.Ex h1, st_ex n.Ex h3, q _ _ _ (Ex.refl _) (by rw [R]) n⟩)
  · cases h
def oLe : D → D → Option D
  | .int i, .int j => some (.bl (decide (i ≤ j)))
  | .str l, .str m => some (.bl (!decide (m < l)))
  | _, _ => none
theorem ro_le : RefO2 K rLeU oLe := by
  intro G L H Q d e z x y h hd he n q
  unfold oLe at h
  split at h
  · rw [R] at hd; rw [R] at he; subst hd; subst he; cases h; exact w_leI (q _ _ _ (Ex.refl _) (by rw [R]) n)
  · rw [R] at hd; rw [R] at he; subst hd; subst he; cases h
    exact .inr ⟨_, _, rfl, rfl, q _ _ _ (Ex.refl _) (by rw [R]) n⟩
  · cases h
def oGt : D → D → Option D
  | .int i, .int j => some (.bl (decide (j < i)))
  | _, _ => none
theorem ro_gt : RefO2 K rGtU oGt := by
  intro G L H Q d e z x y h hd he n q
  unfold oGt at h
  split at h
  · rw [R] at hd; rw [R] at he; subst hd; subst he; cases h; exact w_gtI (q _ _ _ (Ex.refl _) (by rw [R]) n)
  · cases h
def oGe : D → D → Option D
  | .int i, .int j => some (.bl (decide (j ≤ i)))
  | _, _ => none
theorem ro_ge : RefO2 K rGeU oGe := by
  intro G L H Q d e z x y h hd he n q
  unfold oGe at h
  split at h
  · rw [R] at hd; rw [R] at he; subst hd; subst he; cases h; exact w_geI (q _ _ _ (Ex.refl _) (by rw [R]) n)
  · cases h
/-! in -/
def eqf : D → D → Bool
  | .non, .non => true
  | .bl a, .bl b => a == b
  | .bl a, .int b => (if a then 1 else 0) == b
  | .int a, .bl b => a == (if b then 1 else 0)
  | .int a, .int b => a == b
  | .str a, .str b => a == b
  | _, _ => false
theorem S_beq (l m : List Nat) : (S l == S m) = (l == m) := by rw [S_beq_eq]; rw [Bool.eq_iff_iff]; simp
theorem flat_of {d : D} {v : V} (hd : R K G d v) (h : d.sc = true) : flatV v = true := by
  cases d <;> first | (rw [R] at hd; subst hd; rfl) | cases h
theorem eqf_of {d e : D} {x y : V} (hd : R K G d x) (he : R K G e y) (h1 : d.sc = true) (h2 : e.sc = true) : eqV x y = eqf d e := by
  cases d <;> cases e <;> first | (rw [R] at hd; rw [R] at he; subst hd; subst he; first | rfl | exact S_beq _ _) | (cases h1; done) | (cases h2; done)
theorem inV_of {d : D} {x : V} (hd : R K G d x) (h1 : d.sc = true) : ∀ {ds : List D} {xs : List V}, RA K G ds xs → ds.all D.sc = true → xs.all flatV = true ∧ inV x xs = ds.any fun y => eqf y d
  | [], _, r, _ => by rw [RA] at r; subst r; exact ⟨rfl, rfl⟩
  | e :: ds, _, r, h => by
    rw [RA] at r
    obtain ⟨v, r', rfl, q1, q2⟩ := r
    rw [List.all_cons, Bool.and_eq_true] at h
    obtain ⟨a, b⟩ := inV_of hd h1 q2 h.2
    refine ⟨by rw [List.all_cons, a, flat_of q1 h.1]; rfl, ?_⟩
    unfold inV at b ⊢
    rw [List.any_cons, List.any_cons, b, eqf_of q1 hd h.1 h1]
def oInB : D → D → Option Bool
  | d, .lst l => if d.sc && l.all D.sc then some (l.any fun y => eqf y d) else none
  | d, .tup l => if d.sc && l.all D.sc then some (l.any fun y => eqf y d) else none
  | .str [c], .str l => some (decide (c ∈ l))
  | _, _ => none
def oIn (d e : D) : Option D := (oInB d e).bind fun b => some (.bl b)
def oNi (d e : D) : Option D := (oInB d e).bind fun b => some (.bl (!b))
theorem ro_in : RefO2 K (rInU K) oIn := by
  intro G L H Q d e z x y h hd he n q
  obtain ⟨b, h1, h2⟩ := bind_some h
  cases h2
  unfold oInB at h1
  split at h1
  · split at h1
    · rename_i hs; cases h1
      rw [Bool.and_eq_true] at hs
      rw [R] at he
      obtain ⟨a, xs, rfl, q1, q2⟩ := he
      obtain ⟨f, e⟩ := inV_of hd hs.1 q2 hs.2
      exact .inl ⟨a, xs, rfl, .inl (sqL (n.ex _ _ q1)), flat_of hd hs.1, f, by rw [if_neg Bool.false_ne_true, e]; exact q _ _ _ (Ex.refl _) (by rw [R]) n⟩
    · cases h1
  · split at h1
    · rename_i hs; cases h1
      rw [Bool.and_eq_true] at hs
      rw [R] at he
      obtain ⟨a, xs, rfl, q1, q2⟩ := he
      obtain ⟨f, e⟩ := inV_of hd hs.1 q2 hs.2
      exact .inl ⟨a, xs, rfl, .inr (st_ex n.Ex q1), flat_of hd hs.1, f, by rw [if_neg Bool.false_ne_true, e]; exact q _ _ _ (Ex.refl _) (by rw [R]) n⟩
    · cases h1
  · cases h1
    rw [R] at hd; rw [R] at he; subst hd; subst he
    exact w_inSg (q _ _ _ (Ex.refl _) (by rw [R]) n)
  · cases h1
theorem ro_ni : RefO2 K (rNiU K) oNi := by
  intro G L H Q d e z x y h hd he n q
  obtain ⟨b, h1, h2⟩ := bind_some h
  cases h2
  unfold oInB at h1
  split at h1
  · split at h1
    · rename_i hs; cases h1
      rw [Bool.and_eq_true] at hs
      rw [R] at he
      obtain ⟨a, xs, rfl, q1, q2⟩ := he
      obtain ⟨f, e⟩ := inV_of hd hs.1 q2 hs.2
      exact .inl ⟨a, xs, rfl, .inl (sqL (n.ex _ _ q1)), flat_of hd hs.1, f, by rw [if_pos rfl, e]; exact q _ _ _ (Ex.refl _) (by rw [R]) n⟩
    · cases h1
  · split at h1
    · rename_i hs; cases h1
      rw [Bool.and_eq_true] at hs
      rw [R] at he
      obtain ⟨a, xs, rfl, q1, q2⟩ := he
      obtain ⟨f, e⟩ := inV_of hd hs.1 q2 hs.2
      exact .inl ⟨a, xs, rfl, .inr (st_ex n.Ex q1), flat_of hd hs.1, f, by rw [if_pos rfl, e]; exact q _ _ _ (Ex.refl _) (by rw [R]) n⟩
    · cases h1
  · cases h1
    rw [R] at hd; rw [R] at he; subst hd; subst he
    exact w_notinSg (q _ _ _ (Ex.refl _) (by rw [R]) n)
  · cases h1
/-! is -/
def isNone : D → Bool
  | .non => true
  | _ => false
theorem isNone_ok {d : D} {v : V} (h : R K G d v) : decide (v = .non) = isNone d := by
  cases d with
  | lst l => rw [R] at h; obtain ⟨a, xs, rfl, _⟩ := h; rfl
  | tup l => rw [R] at h; obtain ⟨a, xs, rfl, _⟩ := h; rfl
  | scr l => rw [R] at h; obtain ⟨a, rfl, _⟩ := h; rfl
  | dic _ _ => rw [R] at h; obtain ⟨a, kvs, rfl, _⟩ := h; rfl
  | _ => rw [R] at h; subst h; rfl
def oIsB : D → D → Option Bool
  | d, .non => some (isNone d)
  | .bl a, .bl b => some (decide (a = b))
  | _, _ => none
def oIs (d e : D) : Option D := (oIsB d e).bind fun b => some (.bl b)
def oIsnt (d e : D) : Option D := (oIsB d e).bind fun b => some (.bl (!b))
theorem ro_is : RefO2 K rIsU oIs := by
  intro G L H Q d e z x y h hd he n q
  obtain ⟨b, h1, h2⟩ := bind_some h
  cases h2
  unfold oIsB at h1
  split at h1
  · cases h1; rw [R] at he; subst he; exact w_isN (by rw [isNone_ok hd]; exact q _ _ _ (Ex.refl _) (by rw [R]) n)
  · cases h1; rw [R] at hd; rw [R] at he; subst hd; subst he; exact .inr ⟨_, _, rfl, rfl, q _ _ _ (Ex.refl _) (by rw [R]) n⟩
  · cases h1
theorem ro_isnt : RefO2 K rIsntU oIsnt := by
  intro G L H Q d e z x y h hd he n q
  obtain ⟨b, h1, h2⟩ := bind_some h
  cases h2
  unfold oIsB at h1
  split at h1
  · cases h1; rw [R] at he; subst he; exact w_isntN (by rw [isNone_ok hd]; exact q _ _ _ (Ex.refl _) (by rw [R]) n)
  · cases h1; rw [R] at hd; rw [R] at he; subst hd; subst he; exact .inr ⟨_, _, rfl, rfl, q _ _ _ (Ex.refl _) (by rw [R]) n⟩
  · cases h1
/-! index, slice -/
def oIx : D → D → Option D
  | .lst l, .int j => atI l j
  | .tup l, .int j => atI l j
  | .scr l, .int j => (atI l j).bind fun i => some (.int i)
  | .str l, .int j => if l.length ≤ 100000 then (atI l j).bind fun c => some (.str [c]) else none
  | _, _ => none
theorem at_ok {ds : List D} {xs : List V} {j : Int} {d : D} (r : RA K G ds xs) (h : atI ds j = some d) : ∃ v, atI xs j = some v ∧ R K G d v := by
  unfold atI at h ⊢
  rw [r.len]
  obtain ⟨k, h1, h2⟩ := bind_some h
  obtain ⟨v, q1, q2⟩ := r.get h2
  exact ⟨v, by rw [h1]; exact q1, q2⟩
theorem ro_ix : RefO2 K (rIx K) oIx := by
  intro G L H Q d e z x y h hd he n q
  unfold oIx at h
  split at h
  · rw [R] at hd; rw [R] at he; subst he
    obtain ⟨a, xs, rfl, h1, h2⟩ := hd
    obtain ⟨v, q1, q2⟩ := at_ok h2 h
    exact w_ixL (sqL (n.ex _ _ h1)) q1 (q _ _ _ (Ex.refl _) q2 n)
  · rw [R] at hd; rw [R] at he; subst he
    obtain ⟨a, xs, rfl, h1, h2⟩ := hd
    obtain ⟨v, q1, q2⟩ := at_ok h2 h
    exact w_ixT (st_ex n.Ex h1) q1 (q _ _ _ (Ex.refl _) q2 n)
  · rw [R] at hd; rw [R] at he; subst he
    obtain ⟨a, rfl, h1⟩ := hd
    obtain ⟨i, h2, h3⟩ := bind_some h
    cases h3
    refine w_ixL (sq_ex n.Ex h1) (v := .int i) ?_ (q _ _ _ (Ex.refl _) (by rw [R]) n)
    unfold atI at h2 ⊢
    rw [List.length_map]
    obtain ⟨k, z1, z2⟩ := bind_some h2
    rw [z1]
    show (List.map V.int _)[k]? = _
    rw [List.getElem?_map, z2]
    rfl
  · rw [R] at hd; rw [R] at he; subst hd; subst he
    split at h
    · rename_i hl
      obtain ⟨c, h2, h3⟩ := bind_some h
      cases h3
      exact w_ixSg hl h2 (q _ _ _ (Ex.refl _) (by rw [R]) n)
    · cases h
  · cases h
def cutL {α : Type} (l : List α) (lo hi : Option Int) : List α := (l.drop (HT.sIx l.length 0 lo)).take (HT.sIx l.length l.length hi - HT.sIx l.length 0 lo)
theorem cut_ok {ds : List D} {xs : List V} {lo hi : Option Int} (r : RA K G ds xs) : RA K G (cutL ds lo hi) (cutV xs lo hi) := by
  unfold cutL cutV
  rw [r.len]
  exact (r.drop _).take _
theorem cutS_S (l : List Nat) (lo hi : Option Int) : cutS (S l) lo hi = S (cutL l lo hi) := by
  unfold cutS cutL
  rw [S_len]
theorem cutL_map {α β : Type} (f : α → β) (l : List α) (lo hi : Option Int) : cutL (l.map f) lo hi = (cutL l lo hi).map f := by
  unfold cutL
  rw [List.length_map, List.map_take, List.map_drop]
def oSl : D → Option Int → Option Int → Option D
  | .str l, lo, hi => if l.length ≤ 100000 then some (.str (cutL l lo hi)) else none
  | .lst l, lo, hi => some (.lst (cutL l lo hi))
  | .scr l, lo, hi => some (.lst ((cutL l lo hi).map .int))
  | .tup l, lo, hi => some (.tup (cutL l lo hi))
  | _, _, _ => none
theorem ro_sl : RefOS K (rSlU K) oSl := by
  intro G L H Q d z lo hi x h hd n q
  unfold oSl at h
  split at h
  · split at h
    · rename_i hl
      rw [R] at hd; subst hd; cases h
      exact .inl ⟨_, rfl, by rw [S_len]; exact sz hl, by rw [cutS_S]; exact q _ _ _ (Ex.refl _) (by rw [R]) n⟩
    · cases h
  · rw [R] at hd
    obtain ⟨a, xs, rfl, h1, h2⟩ := hd
    cases h
    exact .inr (.inl ⟨a, xs, rfl, sqL (n.ex _ _ h1), fun p hp => q _ _ _ (n.exn hp) (R_new n hp (cut_ok h2)) (n.newG hp)⟩)
  · rw [R] at hd
    obtain ⟨a, rfl, h1⟩ := hd
    cases h
    refine .inr (.inl ⟨a, _, rfl, sq_ex n.Ex h1, fun p hp => q _ _ _ (n.exn hp) (R_new n hp ?_) (n.newG hp)⟩)
    rw [show cutV (List.map V.int _) lo hi = cutL (List.map V.int _) lo hi from rfl, cutL_map]
    exact RA.map (fun i => by rw [R]) _
  · rw [R] at hd
    obtain ⟨a, xs, rfl, h1, h2⟩ := hd
    cases h
    refine .inr (.inr ⟨a, xs, rfl, st_ex n.Ex h1, fun hw => q _ _ _ (Ex.refl _) ?_ n, fun _ p hp => q _ _ _ (n.exn hp) (R_newT n hp (cut_ok h2)) (n.newG hp)⟩)
    rw [h2.len] at hw
    rw [R]
    unfold cutL
    rw [hw.1, hw.2, List.drop_zero, Nat.sub_zero, List.take_length]
    exact ⟨a, xs, rfl, h1, h2⟩
  · cases h
/-! built-in calls -/
def oLen : List D → Option D
  | [.str l] => if l.length ≤ 100000 then some (.int (l.length : Nat)) else none
  | [.lst l] => some (.int (l.length : Nat))
  | [.tup l] => some (.int (l.length : Nat))
  | [.scr l] => some (.int (l.length : Nat))
  | _ => none
theorem ro_len : RefOL K (rLenU K) oLen := by
  intro G L H Q ds z xs h hd n q
  unfold oLen at h
  split at h
  · obtain ⟨v, rfl, r⟩ := RA1 hd
    rw [R] at r; subst r
    split at h
    · rename_i hl; cases h; exact w_lenT' hl (q _ _ _ (Ex.refl _) (by rw [R]) n)
    · cases h
  · obtain ⟨v, rfl, r⟩ := RA1 hd
    rw [R] at r
    obtain ⟨a, xs, rfl, h1, h2⟩ := r
    cases h
    exact w_lenL (sqL (n.ex _ _ h1)) (by rw [h2.len]; exact q _ _ _ (Ex.refl _) (by rw [R]) n)
  · obtain ⟨v, rfl, r⟩ := RA1 hd
    rw [R] at r
    obtain ⟨a, xs, rfl, h1, h2⟩ := r
    cases h
    exact w_lenT (st_ex n.Ex h1) (by rw [h2.len]; exact q _ _ _ (Ex.refl _) (by rw [R]) n)
  · obtain ⟨v, rfl, r⟩ := RA1 hd
    rw [R] at r
    obtain ⟨a, rfl, h1⟩ := r
    cases h
    exact w_lenL (sq_ex n.Ex h1) (by rw [List.length_map]; exact q _ _ _ (Ex.refl _) (by rw [R]) n)
  · cases h
def oAbs : List D → Option D
  | [.int i] => some (.int (if i < 0 then -i else i))
  | _ => none
theorem ro_abs : RefOL K rAbs oAbs := by
  intro G L H Q ds z xs h hd n q
  unfold oAbs at h
  split at h
  · obtain ⟨v, rfl, r⟩ := RA1 hd
    rw [R] at r; subst r; cases h
    exact w_abs (q _ _ _ (Ex.refl _) (by rw [R]) n)
  · cases h
def oMin : List D → Option D
  | [.int i, .int j] => some (.int (if j < i then j else i))
  | _ => none
theorem ro_min : RefOL K (rMinU K) oMin := by
  intro G L H Q ds z xs h hd n q
  unfold oMin at h
  split at h
  · obtain ⟨v, w, rfl, r, r2⟩ := RA2 hd
    rw [R] at r; subst r; rw [R] at r2; subst r2; cases h
    exact w_min2 (q _ _ _ (Ex.refl _) (by rw [R]) n)
  · cases h
def oMax : List D → Option D
  | [.int i, .int j] => some (.int (if j > i then j else i))
  | _ => none
theorem ro_max : RefOL K (rMaxU K) oMax := by
  intro G L H Q ds z xs h hd n q
  unfold oMax at h
  split at h
  · obtain ⟨v, w, rfl, r, r2⟩ := RA2 hd
    rw [R] at r; subst r; rw [R] at r2; subst r2; cases h
    exact w_max2 (q _ _ _ (Ex.refl _) (by rw [R]) n)
  · cases h
def oDivmod : List D → Option D
  | [.int i, .int j] => if 0 < j ∧ j < 2 ^ 30 then some (.tup [.int (i / j), .int (i % j)]) else none
  | _ => none
theorem ro_divmod : RefOL K rDivmod oDivmod := by
  intro G L H Q ds z xs h hd n q
  unfold oDivmod at h
  split at h
  · obtain ⟨v, w, rfl, r, r2⟩ := RA2 hd
    rw [R] at r; subst r; rw [R] at r2; subst r2
    split at h
    · rename_i hj; cases h
      exact ⟨_, _, rfl, ⟨hj.1, PyProof.noPylong_small (by omega)⟩, fun p hp => q _ _ _ (n.exn hp) (R_newT n hp (RA.cons (by rw [R]) (RA.cons (by rw [R]) RA.nil))) (n.newG hp)⟩
    · cases h
  · cases h
def blos : List D → Option (List Bool)
  | [] => some []
  | .bl i :: l => (blos l).bind fun r => some (i :: r)
  | _ => none
theorem blos_ok : ∀ {ds : List D} {ns : List Bool} {xs : List V}, blos ds = some ns → RA K G ds xs → xs = ns.map V.bl
  | [], _, _, h, r => by cases h; rw [RA] at r; exact r
  | .bl i :: ds, _, _, h, r => by
    obtain ⟨ms, h1, h2⟩ := bind_some h
    cases h2
    rw [RA] at r
    obtain ⟨v, r', rfl, q1, q2⟩ := r
    rw [R] at q1
    rw [q1, blos_ok h1 q2]
    rfl
def oAll : List D → Option D
  | [.lst l] => (blos l).bind fun bs => some (.bl (bs.all id))
  | _ => none
theorem ro_all : RefOL K (rAll K) oAll := by
  intro G L H Q ds z xs h hd n q
  unfold oAll at h
  split at h
  · obtain ⟨v, rfl, r⟩ := RA1 hd
    rw [R] at r
    obtain ⟨a, xs, rfl, h1, h2⟩ := r
    obtain ⟨bs, h3, h4⟩ := bind_some h
    cases h4
    rw [blos_ok h3 h2] at h1
    exact ⟨a, bs, rfl, sqL (n.ex _ _ h1), q _ _ _ (Ex.refl _) (by rw [R]) n⟩
  · cases h
def oAny : List D → Option D
  | [.lst l] => (blos l).bind fun bs => some (.bl (bs.any id))
  | _ => none
theorem ro_any : RefOL K (rAny K) oAny := by
  intro G L H Q ds z xs h hd n q
  unfold oAny at h
  split at h
  · obtain ⟨v, rfl, r⟩ := RA1 hd
    rw [R] at r
    obtain ⟨a, xs, rfl, h1, h2⟩ := r
    obtain ⟨bs, h3, h4⟩ := bind_some h
    cases h4
    rw [blos_ok h3 h2] at h1
    exact ⟨a, bs, rfl, sqL (n.ex _ _ h1), q _ _ _ (Ex.refl _) (by rw [R]) n⟩
  · cases h
def unS (x : Str) : List Nat := x.cps.toList
theorem S_unS (x : Str) : S (unS x) = x := by cases x; simp [S, unS]
def oInt : List D → Option D
  | [.int i] => some (.int i)
  | [.bl b] => some (.int (if b then 1 else 0))
  | [.str l] => if l.length ≤ 640 then (PySem.intText? (S l)).bind fun i => some (.int i) else none
  | _ => none
theorem ro_int : RefOL K rIntU oInt := by
  intro G L H Q ds z xs h hd n q
  unfold oInt at h
  split at h
  · obtain ⟨v, rfl, r⟩ := RA1 hd
    rw [R] at r; subst r; cases h
    exact w_intI (q _ _ _ (Ex.refl _) (by rw [R]) n)
  · obtain ⟨v, rfl, r⟩ := RA1 hd
    rw [R] at r; subst r; cases h
    exact w_intB (q _ _ _ (Ex.refl _) (by rw [R]) n)
  · obtain ⟨v, rfl, r⟩ := RA1 hd
    rw [R] at r; subst r
    split at h
    · rename_i hl
      obtain ⟨i, h1, h2⟩ := bind_some h
      cases h2
      exact w_intS h1 (by rw [S_len]; exact hl) (q _ _ _ (Ex.refl _) (by rw [R]) n)
    · cases h
  · cases h
def oStr : List D → Option D
  | [.int i] => if i.natAbs < 2 ^ 1000 then some (.str (unS (toString i))) else none
  | [.str l] => some (.str l)
  | [.bl b] => some (.str (if b then [84, 114, 117, 101] else [70, 97, 108, 115, 101]))
  | _ => none
theorem ro_str : RefOL K (rStrU K) oStr := by
  intro G L H Q ds z xs h hd n q
  unfold oStr at h
  split at h
  · obtain ⟨v, rfl, r⟩ := RA1 hd
    rw [R] at r; subst r
    split at h
    · rename_i i hl
      cases h
      refine w_strI ?_ (q _ _ _ (Ex.refl _) (by rw [R, S_unS]) n)
      by_cases h0 : i.natAbs = 0
      · rw [h0]; decide
      · have := (Nat.log2_lt h0).mpr hl
        omega
    · cases h
  · obtain ⟨v, rfl, r⟩ := RA1 hd
    rw [R] at r; subst r; cases h
    exact .inr (.inl ⟨_, rfl, q _ _ _ (Ex.refl _) (by rw [R]) n⟩)
  · rename_i b
    obtain ⟨v, rfl, r⟩ := RA1 hd
    rw [R] at r; subst r; cases h
    have eT : (("True" : String) : Str) = S [84, 114, 117, 101] := by decide +kernel
    have eF : (("False" : String) : Str) = S [70, 97, 108, 115, 101] := by decide +kernel
    refine .inr (.inr ⟨b, rfl, q _ _ _ (Ex.refl _) ?_ n⟩)
    cases b with
    | true => rw [R]; exact congrArg V.str eT
    | false => rw [R]; exact congrArg V.str eF
  · cases h
def oTuple : List D → Option D
  | [.lst l] => some (.tup l)
  | [.tup l] => some (.tup l)
  | [.scr l] => some (.tup (l.map .int))
  | _ => none
theorem ro_tuple : RefOL K (rTupleU K) oTuple := by
  intro G L H Q ds z xs h hd n q
  unfold oTuple at h
  split at h
  · obtain ⟨v, rfl, r⟩ := RA1 hd
    rw [R] at r
    obtain ⟨a, xs, rfl, h1, h2⟩ := r
    cases h
    exact ⟨a, xs, rfl, .inl ⟨sqL (n.ex _ _ h1), fun p hp => q _ _ _ (n.exn hp) (R_newT n hp h2) (n.newG hp)⟩⟩
  · obtain ⟨v, rfl, r⟩ := RA1 hd
    have r0 := r
    rw [R] at r
    obtain ⟨a, xs, rfl, h1, h2⟩ := r
    cases h
    exact ⟨a, xs, rfl, .inr ⟨st_ex n.Ex h1, q _ _ _ (Ex.refl _) r0 n⟩⟩
  · obtain ⟨v, rfl, r⟩ := RA1 hd
    rw [R] at r
    obtain ⟨a, rfl, h1⟩ := r
    cases h
    exact ⟨a, _, rfl, .inl ⟨sq_ex n.Ex h1, fun p hp => q _ _ _ (n.exn hp) (R_newT n hp (RA.map (fun i => by rw [R]) _)) (n.newG hp)⟩⟩
  · cases h
/-! new lists -/
def RefOLN (K : PySem.W.Frag) (r : List V → Hp → VK → Prop) (o : List D → Option (List D)) : Prop := ∀ ⦃G : Hp⦄ ⦃L : List (Addr × HO)⦄ ⦃H : Hp⦄ ⦃Q : VK⦄ ⦃ds z : List D⦄ ⦃xs : List V⦄, o ds = some z → RA K G ds xs → Now G L H →
  (∀ p ys G' H', Ex G G' → RA K G' z ys → Now G' ((p, .lst ys) :: L) H' → Q (.ref p) H') → r xs H Q
def pnCB (o : List D → Option (List D)) (ps : Env → Option (List D)) : Env → Option (List D) := fun env => (ps env).bind o
theorem rp_cbN {r : List V → Hp → VK → Prop} {o : List D → Option (List D)} (ho : RefOLN K r o) (hs : RefPA K tt ps) : RefPN K (tCB r tt) (pnCB o ps) := by
  intro G L env σ H Q d e re n q
  obtain ⟨x, e1, e2⟩ := bind_some e
  refine hs e1 re n fun v G1 H1 x1 r1 n1 => ?_
  exact ho e2 r1 n1 fun p ys G' H' x3 r3 n3 => q p ys G' H' (x1.trans x3) r3 n3
def onList : List D → Option (List D)
  | [.lst l] => some l
  | [.tup l] => some l
  | [.scr l] => some (l.map .int)
  | [.str l] => if l.length ≤ 100000 then some (l.map fun c => .str [c]) else none
  | _ => none
theorem ro_listN : RefOLN K (rListU K) onList := by
  intro G L H Q ds z xs h hd n q
  unfold onList at h
  split at h
  · obtain ⟨v, rfl, r⟩ := RA1 hd
    rw [R] at r
    obtain ⟨a, xs, rfl, h1, h2⟩ := r
    cases h
    exact .inl ⟨a, xs, rfl, .inl (sqL (n.ex _ _ h1)), fun p hp => q _ _ _ _ (Ex.refl _) h2 (n.newL hp)⟩
  · obtain ⟨v, rfl, r⟩ := RA1 hd
    rw [R] at r
    obtain ⟨a, xs, rfl, h1, h2⟩ := r
    cases h
    exact .inl ⟨a, xs, rfl, .inr (st_ex n.Ex h1), fun p hp => q _ _ _ _ (Ex.refl _) h2 (n.newL hp)⟩
  · obtain ⟨v, rfl, r⟩ := RA1 hd
    rw [R] at r
    obtain ⟨a, rfl, h1⟩ := r
    cases h
    exact .inl ⟨a, _, rfl, .inl (sq_ex n.Ex h1), fun p hp => q _ _ _ _ (Ex.refl _) (RA.map (fun i => by rw [R]) _) (n.newL hp)⟩
  · obtain ⟨v, rfl, r⟩ := RA1 hd
    rw [R] at r; subst r
    split at h
    · rename_i hl
      cases h
      exact w_listS n hl fun p H' n' _ => q _ _ _ _ (Ex.refl _) (RA.map (fun i => by rw [R]) _) n'
    · cases h
  · cases h
def onAdd : D → D → Option (List D)
  | .lst l, .lst m => if l.length + m.length ≤ 100000 then some (l ++ m) else none
  | _, _ => none
def pnAdd (pa pb : PP) : Env → Option (List D) := fun env => (pa env).bind fun d => (pb env).bind fun e => onAdd d e
theorem rp_addN (ha : RefP K ta pa) (hb : RefP K tb pb) : RefPN K (tOp (rAddU K) ta tb) (pnAdd pa pb) := by
  intro G L env σ H Q d e re n q
  obtain ⟨x, e1, e2⟩ := bind_some e
  obtain ⟨y, e3, e4⟩ := bind_some e2
  refine ha e1 re n fun v G1 H1 x1 r1 n1 => ?_
  refine hb e3 (re.ex x1) n1 fun w G2 H2 x2 r2 n2 => ?_
  unfold onAdd at e4
  split at e4
  · split at e4
    · rename_i hl
      cases e4
      rw [R] at r1; rw [R] at r2
      obtain ⟨a, xs, rfl, h1, h2⟩ := r1
      obtain ⟨b, ys, rfl, h3, h4⟩ := r2
      exact .inr (.inr (.inl ⟨a, b, xs, ys, rfl, rfl, n2.ex _ _ (x2 _ _ h1), n2.ex _ _ h3, by rw [h2.len, h4.len]; exact sizeL hl, fun p hp => q _ _ _ _ (x1.trans x2) ((RA_ex x2 _ _ h2).append h4) (n2.newL hp)⟩))
    · cases e4
  · cases e4
def onSl : D → Option Int → Option Int → Option (List D)
  | .lst l, lo, hi => some (cutL l lo hi)
  | .scr l, lo, hi => some ((cutL l lo hi).map .int)
  | _, _, _ => none
def pnSl (pa : PP) (pl ph : Env → Option (Option Int)) : Env → Option (List D) := fun env => (pa env).bind fun d => (pl env).bind fun l => (ph env).bind fun h => onSl d l h
theorem rp_slN {tl th : TO} {pl ph : Env → Option (Option Int)} (ha : RefP K ta pa) (hl : RefPO K tl pl) (hh : RefPO K th ph) : RefPN K (tSl (rSlU K) ta tl th) (pnSl pa pl ph) := by
  intro G L env σ H Q d e re n q
  obtain ⟨x, e1, e2⟩ := bind_some e
  obtain ⟨y, e3, e4⟩ := bind_some e2
  obtain ⟨z, e5, e6⟩ := bind_some e4
  refine ha e1 re n fun v G1 H1 x1 r1 n1 => ?_
  refine hl e3 (re.ex x1) n1 fun G2 H2 x2 n2 => ?_
  refine hh e5 (re.ex (x1.trans x2)) n2 fun G3 H3 x3 n3 => ?_
  have xx := (x1.trans x2).trans x3
  replace r1 := R_ex (x2.trans x3) _ _ r1
  unfold onSl at e6
  split at e6
  · cases e6
    rw [R] at r1
    obtain ⟨a, xs, rfl, h1, h2⟩ := r1
    exact .inr (.inl ⟨a, xs, rfl, sqL (n3.ex _ _ h1), fun p hp => q _ _ _ _ xx (cut_ok h2) (n3.newL hp)⟩)
  · cases e6
    rw [R] at r1
    obtain ⟨a, rfl, h1⟩ := r1
    refine .inr (.inl ⟨a, _, rfl, sq_ex n3.Ex h1, fun p hp => q _ _ _ _ xx ?_ (n3.newL hp)⟩)
    rw [show cutV (List.map V.int _) y z = cutL (List.map V.int _) y z from rfl, cutL_map]
    exact RA.map (fun i => by rw [R]) _
  · cases e6
def pnRev (pe : PP) : Env → Option (List D) := fun env => (pe env).bind fun d => match d with
  | .lst l => some l.reverse
  | _ => none
theorem rp_revN (h : RefP K te pe) : RefPN K (tRevU K te) (pnRev pe) := by
  intro G L env σ H Q ds e re n q
  obtain ⟨d, e1, e2⟩ := bind_some e
  match d, e1, e2 with
  | .lst l, e1, e2 =>
    cases e2
    refine w_rev (h e1 re n fun v G1 H1 x1 r1 n1 => ?_)
    rw [R] at r1
    obtain ⟨a, xs, rfl, h1, h2⟩ := r1
    exact ⟨a, xs, rfl, sqL (n1.ex _ _ h1), fun p hp => q _ _ _ _ x1 h2.reverse (n1.newL hp)⟩
/-! kinds -/
def tyD : D → Option String
  | .non => some "NoneType" | .bl _ => some "bool" | .int _ => some "int" | .str _ => some "str" | .lst _ => some "list" | .tup _ => some "tuple" | .scr _ => some "list" | .dic _ _ => some "dict"
theorem tyX_R {d : D} {v : V} {t : String} (h : R K G d v) (n : Now G L H) (e : tyD d = some t) : TyX K H v (.type t) ∧ t ∈ tys := by
  cases d <;> cases e <;> rw [R] at h
  · subst h; exact ⟨.base .non, by decide⟩
  · subst h; exact ⟨.base (.bl _), by decide⟩
  · subst h; exact ⟨.base (.int _), by decide⟩
  · subst h; exact ⟨.base (.str _), by decide⟩
  · obtain ⟨a, xs, rfl, h1, h2⟩ := h; exact ⟨tyX_lst (sqL (n.ex _ _ h1)), by decide⟩
  · obtain ⟨a, xs, rfl, h1, h2⟩ := h; exact ⟨tyX_tup (st_ex n.Ex h1), by decide⟩
  · obtain ⟨a, rfl, h1⟩ := h; exact ⟨tyX_lst (sq_ex n.Ex h1), by decide⟩
  · obtain ⟨a, kvs, rfl, h1, _⟩ := h; exact ⟨(rd_ex n.Ex h1).elim (fun h => .base (.dK h)) (fun ⟨_, h⟩ => .fDict h), by decide⟩
def isD (c : String) (d : D) : Bool := match tyD d with
  | some t => isa t c
  | none => false
theorem tyD_some (d : D) : ∃ t, tyD d = some t := by cases d <;> exact ⟨_, rfl⟩
def pIsi1 (c : String) (pe : PP) : PP := fun env => (pe env).bind fun d => some (.bl (isD c d))
theorem rp_isi1 {c : String} (hc : c ∈ tys) (h : RefP K te pe) : RefP K (tCB (rIsiU K) (tCons te (tCons (tC (.ty c)) tNil))) (pIsi1 c pe) := by
  intro G L env σ H Q d e re n q
  obtain ⟨x, e1, e2⟩ := bind_some e
  cases e2
  refine w_cb (w_cons (h e1 re n fun v G1 H1 x1 r1 n1 => ?_))
  refine w_cons (w_c (w_nil ?_))
  obtain ⟨t, ht⟩ := tyD_some x
  obtain ⟨h1, h2⟩ := tyX_R r1 n1 ht
  refine .inl ⟨v, .ty c, _, .type c, _, rfl, .ty c, h1, kit_ty (kb_all _ h2 c hc), ?_⟩
  refine q _ _ _ x1 ?_ n1
  rw [R, isD, ht]
def pIsi2 (c1 c2 : String) (pe : PP) : PP := fun env => (pe env).bind fun d => some (.bl (isD c1 d || isD c2 d))
theorem rp_isi2 {c1 c2 : String} (hc1 : c1 ∈ tys) (hc2 : c2 ∈ tys) (h : RefP K te pe) : RefP K (tCB (rIsiU K) (tCons te (tCons (tTup (tCons (tC (.ty c1)) (tCons (tC (.ty c2)) tNil))) tNil))) (pIsi2 c1 c2 pe) := by
  intro G L env σ H Q d e re n q
  obtain ⟨x, e1, e2⟩ := bind_some e
  cases e2
  refine w_cb (w_cons (h e1 re n fun v G1 H1 x1 r1 n1 => ?_))
  refine w_cons (w_tup (w_cons (w_c (w_cons (w_c (w_nil ?_))))))
  refine w_tupG n1 (Nat.le_of_ble_eq_true rfl) fun p G2 H2 x2 hp n2 => w_nil ?_
  obtain ⟨t, ht⟩ := tyD_some x
  obtain ⟨h1, h2⟩ := tyX_R (R_ex x2 _ _ r1) n2 ht
  refine .inr ⟨v, p, _, _, [.type c1, .type c2], isa t c1 || isa t c2, rfl, n2.ex _ _ hp, .cons (.ty c1) (.cons (.ty c2) .nil), h1, ?_, ?_⟩
  · refine kitAny_cons (kit_ty (kb_all _ h2 c1 hc1)) (fun e => ?_) (fun e => by rw [e]; rfl)
    refine kitAny_cons (kit_ty (kb_all _ h2 c2 hc2)) (fun e2 => ?_) (fun e2 => by rw [e2, Bool.or_true])
    rw [e, e2]
    exact kitAny_nil
  · refine q _ _ _ (x1.trans x2) ?_ n2
    rw [R, isD, isD, ht]
/-! texts -/
def strsD : List D → Option (List (List Nat))
  | [] => some []
  | .str l :: r => (strsD r).bind fun s => some (l :: s)
  | _ => none
theorem strs_ok : ∀ {ds : List D} {ns : List (List Nat)} {xs : List V}, strsD ds = some ns → RA K G ds xs → xs = (ns.map S).map V.str
  | [], _, _, h, r => by cases h; rw [RA] at r; exact r
  | .str i :: ds, _, _, h, r => by
    obtain ⟨ms, h1, h2⟩ := bind_some h
    cases h2
    rw [RA] at r
    obtain ⟨v, r', rfl, q1, q2⟩ := r
    rw [R] at q1
    rw [q1, strs_ok h1 q2]
    rfl
theorem join_S (a : List Nat) (ls : List (List Nat)) : Txt.join (S a) (ls.map S) = S (TL.joinL a ls) := by
  rw [TL.join_eq]
  apply TL.ext_tl
  rw [TL.tl_join, List.map_map]
  have e : (TL.tl ∘ S) = id := by funext l; rfl
  rw [e, List.map_id]
def oJoin : D → List D → Option D
  | .str a, [.lst l] => (strsD l).bind fun ls => if (ls.map (·.length)).sum + ls.length * a.length ≤ 100000 then some (.str (TL.joinL a ls)) else none
  | .str a, [.tup l] => (strsD l).bind fun ls => if (ls.map (·.length)).sum + ls.length * a.length ≤ 100000 then some (.str (TL.joinL a ls)) else none
  | _, _ => none
theorem len_S (ls : List (List Nat)) : (ls.map S).map (·.length) = ls.map (·.length) := by
  rw [List.map_map]
  apply List.map_congr_left
  intro l _
  exact S_len l
theorem ro_join : RefOM K (rJoin K) oJoin := by
  refine ⟨fun d ds z h => ?_, ?_⟩
  · unfold oJoin at h
    split at h
    · exact ⟨_, rfl⟩
    · exact ⟨_, rfl⟩
    · cases h
  · intro G L H Q d z ds x xs h hd hs n q
    unfold oJoin at h
    split at h
    · rw [R] at hd; subst hd
      obtain ⟨v, rfl, r⟩ := RA1 hs
      rw [R] at r
      obtain ⟨a, ys, rfl, h1, h2⟩ := r
      obtain ⟨ls, h3, h4⟩ := bind_some h
      split at h4
      · rename_i hl
        cases h4
        rw [strs_ok h3 h2] at h1
        refine ⟨_, a, ls.map S, rfl, rfl, .inl (sqL (n.ex _ _ h1)), ?_, ?_⟩
        · rw [len_S, List.length_map, S_len]; omega
        · rw [join_S]; exact q _ _ _ (Ex.refl _) (by rw [R]) n
      · cases h4
    · rw [R] at hd; subst hd
      obtain ⟨v, rfl, r⟩ := RA1 hs
      rw [R] at r
      obtain ⟨a, ys, rfl, h1, h2⟩ := r
      obtain ⟨ls, h3, h4⟩ := bind_some h
      split at h4
      · rename_i hl
        cases h4
        rw [strs_ok h3 h2] at h1
        refine ⟨_, a, ls.map S, rfl, rfl, .inr (st_ex n.Ex h1), ?_, ?_⟩
        · rw [len_S, List.length_map, S_len]; omega
        · rw [join_S]; exact q _ _ _ (Ex.refl _) (by rw [R]) n
      · cases h4
    · cases h
def oCount : D → List D → Option D
  | .str a, [.str b] => some (.int (Txt.count (S a) (S b)))
  | _, _ => none
theorem ro_count : RefOM K rCount oCount := by
  refine ⟨fun d ds z h => ?_, ?_⟩
  · unfold oCount at h
    split at h
    · exact ⟨_, rfl⟩
    · cases h
  · intro G L H Q d z ds x xs h hd hs n q
    unfold oCount at h
    split at h
    · rw [R] at hd; subst hd
      obtain ⟨v, rfl, r⟩ := RA1 hs
      rw [R] at r; subst r; cases h
      exact ⟨_, _, rfl, rfl, q _ _ _ (Ex.refl _) (by rw [R]) n⟩
    · cases h
def oStrip : D → List D → Option D
  | .str a, [.str b] => if a.length ≤ 100000 then some (.str (unS (Txt.stripChars (S a) (S b)))) else none
  | _, _ => none
theorem ro_strip : RefOM K rStripU oStrip := by
  refine ⟨fun d ds z h => ?_, ?_⟩
  · unfold oStrip at h
    split at h
    · exact ⟨_, rfl⟩
    · cases h
  · intro G L H Q d z ds x xs h hd hs n q
    unfold oStrip at h
    split at h
    · rw [R] at hd; subst hd
      obtain ⟨v, rfl, r⟩ := RA1 hs
      rw [R] at r; subst r
      split at h
      · rename_i hl
        cases h
        exact ⟨_, _, rfl, rfl, by rw [S_len]; exact sz hl, q _ _ _ (Ex.refl _) (by rw [R, S_unS]) n⟩
      · cases h
    · cases h
def oRstrip : D → List D → Option D
  | .str a, [.str b] => if a.length ≤ 100000 then some (.str (unS (Txt.rstripChars (S a) (S b)))) else none
  | _, _ => none
theorem ro_rstrip : RefOM K rRstripU oRstrip := by
  refine ⟨fun d ds z h => ?_, ?_⟩
  · unfold oRstrip at h
    split at h
    · exact ⟨_, rfl⟩
    · cases h
  · intro G L H Q d z ds x xs h hd hs n q
    unfold oRstrip at h
    split at h
    · rw [R] at hd; subst hd
      obtain ⟨v, rfl, r⟩ := RA1 hs
      rw [R] at r; subst r
      split at h
      · rename_i hl
        cases h
        exact ⟨_, _, rfl, rfl, by rw [S_len]; exact sz hl, q _ _ _ (Ex.refl _) (by rw [R, S_unS]) n⟩
      · cases h
    · cases h
def oStartsw : D → List D → Option D
  | .str a, [.str b] => some (.bl (Txt.startswith (S a) (S b)))
  | _, _ => none
theorem ro_startsw : RefOM K rStartsw oStartsw := by
  refine ⟨fun d ds z h => ?_, ?_⟩
  · unfold oStartsw at h
    split at h
    · exact ⟨_, rfl⟩
    · cases h
  · intro G L H Q d z ds x xs h hd hs n q
    unfold oStartsw at h
    split at h
    · rw [R] at hd; subst hd
      obtain ⟨v, rfl, r⟩ := RA1 hs
      rw [R] at r; subst r; cases h
      exact ⟨_, _, rfl, rfl, q _ _ _ (Ex.refl _) (by rw [R]) n⟩
    · cases h
def oUpper : D → List D → Option D
  | .str a, [] => if a.length ≤ 100000 then some (.str (unS (Txt.upper (S a)))) else none
  | _, _ => none
theorem ro_upper : RefOM K rUpper oUpper := by
  refine ⟨fun d ds z h => ?_, ?_⟩
  · unfold oUpper at h
    split at h
    · exact ⟨_, rfl⟩
    · cases h
  · intro G L H Q d z ds x xs h hd hs n q
    unfold oUpper at h
    split at h
    · rw [R] at hd; subst hd
      rw [RA] at hs; subst hs
      split at h
      · rename_i hl
        cases h
        exact ⟨_, rfl, rfl, by rw [S_len]; omega, q _ _ _ (Ex.refl _) (by rw [R, S_unS]) n⟩
      · cases h
    · cases h
def pBits (pe : PP) : PP := fun env => (pe env).bind fun d => match d with
  | .int i => some (.int (Builtin.Int.intBits i : Nat))
  | _ => none
theorem rp_bits (h : RefP K te pe) : RefP K (tBits te) (pBits pe) := by
  intro G L env σ H Q d e re n q
  obtain ⟨x, e1, e2⟩ := bind_some e
  match x, e1, e2 with
  | .int i, e1, e2 =>
    cases e2
    refine h e1 re n fun v G1 H1 x1 r1 n1 => ?_
    rw [R] at r1
    exact ⟨i, r1, q _ _ _ x1 (by rw [R]) n1⟩
/-- a dict of the module's top -/
def toV : D → V
  | .non => .non | .bl b => .bl b | .int i => .int i | .str l => .str (S l) | _ => .non
def pKD (kd : List (List Nat × D)) (pe : PP) : PP := fun env => (pe env).bind fun d => match d with
  | .str l => kd.lookup l
  | _ => none
theorem lk_mem {α β : Type} [BEq α] [LawfulBEq α] : ∀ {l : List (α × β)} {k : α} {v : β}, l.lookup k = some v → (k, v) ∈ l
  | (a, b) :: l, k, v, h => by
    rw [List.lookup] at h
    split at h
    · rename_i e
      have := eq_of_beq e
      subst this
      cases h
      exact List.mem_cons_self ..
    · exact List.mem_cons_of_mem _ (lk_mem h)
theorem rp_kd {kv : List (List Nat × V)} {kd : List (List Nat × D)} (hk : kv = kd.map fun p => (p.1, toV p.2)) (hs : kd.all (fun p => p.2.sc) = true) (h : RefP K te pe) : RefP K (tKD kv te) (pKD kd pe) := by
  intro G L env σ H Q d e re n q
  obtain ⟨x, e1, e2⟩ := bind_some e
  match x, e1, e2 with
  | .str l, e1, e2 =>
    refine h e1 re n fun v G1 H1 x1 r1 n1 => ?_
    rw [R] at r1
    have hm := lk_mem e2
    refine ⟨(l, toV d), by rw [hk]; exact List.mem_map.mpr ⟨(l, d), hm, rfl⟩, r1, q _ _ _ x1 ?_ n1⟩
    have := List.all_eq_true.mp hs _ hm
    cases d <;> first | (rw [R]; rfl) | (cases this; done)
/-! in place -/
def oIAdd : D → D → Option D
  | .int i, .int j => some (.int (i + j))
  | .str l, .str m => if l.length + m.length ≤ 100000 then some (.str (l ++ m)) else none
  | _, _ => none
theorem ri_add : RefIp K (ipAddU K) oIAdd := by
  intro G L H Q d e z x y h hd he n q
  unfold oIAdd at h
  split at h
  · rw [R] at hd; rw [R] at he; subst hd; subst he; cases h; exact w_ipaddI (q _ _ _ (Ex.refl _) (by rw [R]) n)
  · rw [R] at hd; rw [R] at he; subst hd; subst he
    split at h
    · rename_i hl; cases h; exact w_ipaddT hl (q _ _ _ (Ex.refl _) (by rw [R]) n)
    · cases h
  · cases h
def oISub : D → D → Option D
  | .int i, .int j => some (.int (i - j))
  | _, _ => none
theorem ri_sub : RefIp K ipSubU oISub := by
  intro G L H Q d e z x y h hd he n q
  unfold oISub at h
  split at h
  · rw [R] at hd; rw [R] at he; subst hd; subst he; cases h; exact ⟨_, _, rfl, rfl, q _ _ _ (Ex.refl _) (by rw [R]) n⟩
  · cases h
def oIMul : D → D → Option D
  | .int i, .int j => if (-(2 ^ 64) < i ∧ i < 2 ^ 64) ∨ (-(2 ^ 64) < j ∧ j < 2 ^ 64) then some (.int (i * j)) else none
  | _, _ => none
theorem ri_mul : RefIp K (ipMulU K) oIMul := by
  intro G L H Q d e z x y h hd he n q
  unfold oIMul at h
  split at h
  · rw [R] at hd; rw [R] at he; subst hd; subst he
    split at h
    · rename_i hl; cases h; exact ⟨_, _, rfl, rfl, hl, q _ _ _ (Ex.refl _) (by rw [R]) n⟩
    · cases h
  · cases h
end
/-! ### methods that change a list -/
section
variable {K : PySem.W.Frag} {te : TE} {pe : PE'} {tt : TA} {ps : Env → Option (List D × Env)}
/-- x.m(..): the list behind, the answer -/
def RefMut (K : PySem.W.Frag) (r : V → List V → Hp → VK → Prop) (f : List D → List D → Option (D × List D)) : Prop := ∀ ⦃G : Hp⦄ ⦃L : List (Addr × HO)⦄ ⦃H : Hp⦄ ⦃Q : VK⦄ ⦃ds es ds' : List D⦄ ⦃z : D⦄ ⦃p : Addr⦄ ⦃xs ys : List V⦄, f ds es = some (z, ds') → RA K G ds xs → RA K G es ys → Now G ((p, .lst xs) :: L) H →
  (∀ v xs' H', RA K G ds' xs' → R K G z v → Now G ((p, .lst xs') :: L) H' → Q v H') → r (.ref p) ys H Q
def eMut (f : List D → List D → Option (D × List D)) (i : Nat) (ps : Env → Option (List D × Env)) : PE' := fun env => (obj env i).bind fun o0 => match o0 with
  | .l _ => (ps env).bind fun x => (obj x.2 i).bind fun o => (match o with
    | .l ds => (f ds x.1).bind fun z => some (z.1, setO x.2 i (.l z.2))
    | .st _ _ => none
    | .dk _ _ => none)
  | .st _ _ => none
  | .dk _ _ => none
theorem re_mut {r : V → List V → Hp → VK → Prop} {f : List D → List D → Option (D × List D)} {i : Nat} (hf : RefMut K r f) (hs : RefEA K tt ps) : RefE K (tBM K "list" r (tVar i) tt) (eMut f i ps) := by
  intro G L as env env' σ H Q d e w q
  obtain ⟨o0, z0, e⟩ := bind_some e
  cases o0 with
  | st _ _ => cases e
  | dk _ _ => cases e
  | l ds0 =>
  obtain ⟨⟨x, e1⟩, z1, z2⟩ := bind_some e
  obtain ⟨oo, z3, z4⟩ := bind_some z2
  cases oo with
  | st _ _ => cases z4
  | dk _ _ => cases z4
  | l ds =>
  obtain ⟨⟨z, ds'⟩, z5, z6⟩ := bind_some z4
  cases z6
  obtain ⟨Lo, re, n⟩ := w
  obtain ⟨p0, h0, L0, q1, q2, q3, _⟩ := re.obj z0
  have hty : ∃ xs, H p0 = some (.lst xs) := by
    have n0 := n.permL q3
    obtain ⟨xs, rfl, _⟩ := q2
    exact ⟨xs, n0.get0⟩
  obtain ⟨xs0, hx0⟩ := hty
  refine ⟨_, q1, w_tyl hx0 ?_⟩
  refine hs z1 ⟨Lo, re, n⟩ fun vs G1 H1 x1 r1 ⟨Lo1, re1, n1⟩ => ?_
  obtain ⟨p, hh, L', k1, k2, k3, k4⟩ := re1.obj z3
  have ep : p0 = p := by rw [q1] at k1; cases k1; rfl
  subst ep
  obtain ⟨xs, rfl, ra⟩ := k2
  refine hf z5 ra r1 (n1.permL k3) fun v xs' H' ra' rz n2 => ?_
  obtain ⟨Lo2, k5, k6⟩ := k4 (o' := .l ds') (cs' := [(p0, .lst xs')]) (Ex.refl _) ⟨xs', rfl, ra'⟩
  exact q _ _ _ x1 rz ⟨Lo2, k5, Now.permL (Lo := (p0, .lst xs') :: L') n2 k6.symm⟩
def eMut0 (f : List D → List D → Option (D × List D)) (i : Nat) : PE' := fun env => (obj env i).bind fun o => match o with
  | .l ds => (f ds []).bind fun z => some (z.1, setO env i (.l z.2))
  | .st _ _ => none
  | .dk _ _ => none
theorem re_mut0 {r : V → List V → Hp → VK → Prop} {f : List D → List D → Option (D × List D)} {i : Nat} (hf : RefMut K r f) : RefE K (tBM0 K "list" r (tVar i)) (eMut0 f i) := by
  intro G L as env env' σ H Q d e w q
  obtain ⟨oo, z3, z4⟩ := bind_some e
  cases oo with
  | st _ _ => cases z4
  | dk _ _ => cases z4
  | l ds =>
  obtain ⟨⟨z, ds'⟩, z5, z6⟩ := bind_some z4
  cases z6
  obtain ⟨Lo, re, n⟩ := w
  obtain ⟨p, hh, L', k1, k2, k3, k4⟩ := re.obj z3
  obtain ⟨xs, rfl, ra⟩ := k2
  have n1 := n.permL k3
  refine ⟨_, k1, w_tyl n1.get0 ?_⟩
  refine hf z5 ra RA.nil n1 fun v xs' H' ra' rz n2 => ?_
  obtain ⟨Lo2, k5, k6⟩ := k4 (o' := .l ds') (cs' := [(p, .lst xs')]) (Ex.refl _) ⟨xs', rfl, ra'⟩
  exact q _ _ _ (Ex.refl _) rz ⟨Lo2, k5, Now.permL (Lo := (p, .lst xs') :: L') n2 k6.symm⟩
def mAppend : List D → List D → Option (D × List D)
  | ds, [d] => if ds.length < 100000 then some (.non, ds ++ [d]) else none
  | _, _ => none
theorem rm_append : RefMut K rAppend mAppend := by
  intro G L H Q ds es ds' z p xs ys h r1 r2 n q
  unfold mAppend at h
  split at h
  · split at h
    · rename_i hl
      cases h
      obtain ⟨v, rfl, rv⟩ := RA1 r2
      exact w_append0 n (by rw [r1.len]; exact hl) fun H' n' => q .non _ H' (r1.append (RA.cons rv RA.nil)) (by rw [R]) n'
    · cases h
  · cases h
def mReverse : List D → List D → Option (D × List D)
  | ds, [] => some (.non, ds.reverse)
  | _, _ => none
theorem rm_reverse : RefMut K rReverse mReverse := by
  intro G L H Q ds es ds' z p xs ys h r1 r2 n q
  unfold mReverse at h
  split at h
  · cases h
    rw [RA] at r2; subst r2
    exact ⟨p, xs, rfl, rfl, n.get0, q .non _ _ r1.reverse (by rw [R]) n.set0⟩
  · cases h
def mClear : List D → List D → Option (D × List D)
  | _, [] => some (.non, [])
  | _, _ => none
theorem rm_clear : RefMut K rClear mClear := by
  intro G L H Q ds es ds' z p xs ys h r1 r2 n q
  unfold mClear at h
  split at h
  · cases h
    rw [RA] at r2; subst r2
    exact ⟨p, xs, rfl, rfl, n.get0, q .non _ _ RA.nil (by rw [R]) n.set0⟩
  · cases h
def mExtend : List D → List D → Option (D × List D)
  | ds, [.lst es] => if ds.length + es.length ≤ 100000 then some (.non, ds ++ es) else none
  | _, _ => none
theorem rm_extend : RefMut K rExtend mExtend := by
  intro G L H Q ds es ds' z p xs ys h r1 r2 n q
  unfold mExtend at h
  split at h
  · split at h
    · rename_i hl
      cases h
      obtain ⟨v, rfl, rv⟩ := RA1 r2
      rw [R] at rv
      obtain ⟨a, zs, rfl, h1, h2⟩ := rv
      exact ⟨p, a, xs, zs, rfl, rfl, n.get0, n.ex _ _ h1, by rw [r1.len, h2.len]; exact sizeL hl, q .non _ _ (r1.append h2) (by rw [R]) n.set0⟩
    · cases h
  · cases h
theorem RA.erase {G : Hp} {ds : List D} {xs : List V} (h : RA K G ds xs) (k : Nat) : RA K G (ds.eraseIdx k) (xs.eraseIdx k) := by
  rw [List.eraseIdx_eq_take_drop_succ, List.eraseIdx_eq_take_drop_succ]
  exact (h.take k).append (h.drop (k + 1))
def mPop : List D → List D → Option (D × List D)
  | ds, [.int j] => if -(2 ^ 63) ≤ j ∧ j < 2 ^ 63 then (ixN ds.length j).bind fun k => (ds[k]?).bind fun d => some (d, ds.eraseIdx k) else none
  | ds, [] => (ds[ds.length - 1]?).bind fun d => some (d, ds.dropLast)
  | _, _ => none
def rPopU : V → List V → Hp → VK → Prop := fun x xs H Q => rPop x xs H Q ∨ rPopAt x xs H Q
theorem rm_pop : RefMut K rPopU mPop := by
  intro G L H Q ds es ds' z p xs ys h r1 r2 n q
  unfold mPop at h
  split at h
  · split at h
    · rename_i hj
      obtain ⟨k, h1, h2⟩ := bind_some h
      obtain ⟨d, h3, h4⟩ := bind_some h2
      cases h4
      obtain ⟨v, rfl, rv⟩ := RA1 r2
      rw [R] at rv; subst rv
      obtain ⟨w, q1, q2⟩ := r1.get h3
      exact .inr ⟨p, xs, _, k, w, rfl, rfl, n.get0, hj.1, hj.2, by rw [r1.len]; exact (ixN_seq h1).1, q1, q _ _ _ (r1.erase k) q2 n.set0⟩
    · cases h
  · obtain ⟨d, h3, h4⟩ := bind_some h
    cases h4
    rw [RA] at r2; subst r2
    obtain ⟨w, q1, q2⟩ := r1.get h3
    refine .inl ⟨p, xs, w, rfl, rfl, n.get0, by rw [r1.len]; exact q1, q _ _ _ ?_ q2 n.set0⟩
    rw [List.dropLast_eq_take, List.dropLast_eq_take, r1.len]
    exact r1.take _
  · cases h
end
theorem u_pop {X : Cx} : MtM X "list.pop" rPopU := by
  intro pins s σ H x vs v us Q I rx rv h
  rcases h with h | h
  · exact mt_pop pins s σ H x vs v us Q I rx rv h
  · exact mt_popAt pins s σ H x vs v us Q I rx rv h
end MA
/-! QG: freezing; more with effects; the law. -/
namespace MA
open PySem PySem.Spec PyProof.Rows L2 SX
section
variable {K : PySem.W.Frag} {G G' H : Hp} {L : List (Addr × HO)} {as : List Addr} {env env' : Env} {σ : L2.St} {ta tb te : TE} {tt : TA} {ts : TS} {wi : TI} {pa pb pe : PE'} {ps : PS'} {pn : Env → Option (Ob × Env)} {pi : Env → Option (List D × Env)} {pz : Env → Option (List D × Env)}
def frz1 (env : Env) (i : Nat) : Option Env := match env[i]? with
  | some (some (.m (.l ds))) => some (env.set i (some (.v (.lst ds))))
  | some (some (.m (.st _ _))) => none
  | some (some (.m (.dk ks vs))) => some (env.set i (some (.v (.dic ks vs))))
  | some (some (.io _)) => none
  | _ => some env
theorem Wd.frz {i : Nat} (w : Wd K G L as env σ H) (h : frz1 env i = some env') : ∃ G', Ex G G' ∧ Wd K G' L as env' σ H := by
  obtain ⟨Lo, r, n⟩ := w
  unfold frz1 at h
  split at h
  · rename_i ds hi
    cases h
    obtain ⟨p, hh, L', q1, q2, q3, q4⟩ := r.frz (d := .lst ds) hi
    obtain ⟨xs, rfl, ra⟩ := id q2
    have n1 := n.permL q3
    have hp := n1.ap _ (List.mem_cons_self ..)
    exact ⟨_, n1.exf, L', q4 n1.exf (q2.frz hp), n1.freeze⟩
  · cases h
  · rename_i ks vs hi
    cases h
    obtain ⟨p, hh, L', q1, q2, q3, q4⟩ := r.frz (d := .dic ks vs) hi
    obtain ⟨xs, rfl, _, ra⟩ := id q2
    have n1 := n.permL q3
    have hp := n1.ap _ (List.mem_cons_self ..)
    exact ⟨_, n1.exf, L', q4 n1.exf (q2.frzD hp), n1.freeze⟩
  · cases h
  · cases h; exact ⟨G, Ex.refl _, Lo, r, n⟩
def eFrz (i : Nat) (pe : PE') : PE' := fun env => (frz1 env i).bind pe
theorem re_frz {i : Nat} (h : RefE K te pe) : RefE K te (eFrz i pe) := by
  intro G L as env env' σ H Q d e w q
  obtain ⟨e1, z1, z2⟩ := bind_some e
  obtain ⟨G1, x1, w1⟩ := w.frz z1
  exact h z2 w1 fun v G' H' x r w' => q v G' H' (x1.trans x) r w'
def eiFrz (i : Nat) (pe : Env → Option (List D × Env)) : Env → Option (List D × Env) := fun env => (frz1 env i).bind pe
theorem re_ifrz {i : Nat} (h : RefEI K wi pi) : RefEI K wi (eiFrz i pi) := by
  intro G L as env env' σ H Q d e w q
  obtain ⟨e1, z1, z2⟩ := bind_some e
  obtain ⟨G1, x1, w1⟩ := w.frz z1
  exact h z2 w1 fun v G' H' x r w' => q v G' H' (x1.trans x) r w'
def enFrz (i : Nat) (pe : Env → Option (Ob × Env)) : Env → Option (Ob × Env) := fun env => (frz1 env i).bind pe
theorem re_nfrz {i : Nat} (h : RefEN K te pn) : RefEN K te (enFrz i pn) := by
  intro G L as env env' σ H Q d e w q
  obtain ⟨e1, z1, z2⟩ := bind_some e
  obtain ⟨G1, x1, w1⟩ := w.frz z1
  exact h z2 w1 fun p hh G' H' x r w' => q p hh G' H' (x1.trans x) r w'
/-- x[j], x a list that may change: what it holds may not -/
def eIxM (i : Nat) (pj : PE') : PE' := fun env => (obj env i).bind fun _ => (pj env).bind fun x => (obj x.2 i).bind fun o => match o with
  | .l ds => (into x.1).bind fun j => (atI ds j).bind fun d => some (d, x.2)
  | .st _ _ => none
  | .dk _ _ => none
theorem re_ixM {i : Nat} {tj : TE} {pj : PE'} (hj : RefE K tj pj) : RefE K (tOp (rIx K) (tVar i) tj) (eIxM i pj) := by
  intro G L as env env' σ H Q d e w q
  obtain ⟨o0, z0, e⟩ := bind_some e
  obtain ⟨⟨x, e1⟩, z1, z2⟩ := bind_some e
  obtain ⟨oo, z3, z4⟩ := bind_some z2
  cases oo with
  | st _ _ => cases z4
  | dk _ _ => cases z4
  | l ds =>
  obtain ⟨j, z5, z6⟩ := bind_some z4
  obtain ⟨d', z7, z8⟩ := bind_some z6
  cases z8
  cases into_ok z5
  obtain ⟨Lo, re, n⟩ := w
  obtain ⟨p0, h0, L0, q1, _⟩ := re.obj z0
  refine w_op ⟨_, q1, ?_⟩
  refine hj z1 ⟨Lo, re, n⟩ fun u G1 H1 x1 r1 ⟨Lo1, re1, n1⟩ => ?_
  rw [R] at r1
  subst r1
  obtain ⟨p, hh, L', k1, k2, k3, k4⟩ := re1.obj z3
  have ep : p0 = p := by rw [q1] at k1; cases k1; rfl
  subst ep
  obtain ⟨xs, rfl, ra⟩ := k2
  have n2 := n1.permL k3
  obtain ⟨v, a1, a2⟩ := at_ok ra z7
  exact w_ixL (sqL n2.get0) a1 (q _ _ _ x1 a2 ⟨Lo1, re1, n1⟩)
/-- a list of two -/
def enAdd (pa pb : PE') : Env → Option (Ob × Env) := fun env => (pa env).bind fun x => (pb x.2).bind fun y => (onAdd x.1 y.1).bind fun z => some (.l z, y.2)
theorem re_addN (ha : RefE K ta pa) (hb : RefE K tb pb) : RefEN K (tOp (rAddU K) ta tb) (enAdd pa pb) := by
  intro G L as env env' σ H Q o e w q
  obtain ⟨⟨x, e1⟩, z1, z2⟩ := bind_some e
  obtain ⟨⟨y, e2⟩, z3, z4⟩ := bind_some z2
  obtain ⟨z, z5, z6⟩ := bind_some z4
  cases z6
  refine w_op (ha z1 w fun v G1 H1 x1 r1 w1 => ?_)
  refine hb z3 w1 fun u G2 H2 x2 r2 ⟨Lo, re, n⟩ => ?_
  change onAdd x y = some z at z5
  unfold onAdd at z5
  split at z5
  · split at z5
    · rename_i hl
      cases z5
      rw [R] at r1; rw [R] at r2
      obtain ⟨a, xs, rfl, h1, h2⟩ := r1
      obtain ⟨b, ys, rfl, h3, h4⟩ := r2
      exact .inr (.inr (.inl ⟨a, b, xs, ys, rfl, rfl, n.ex _ _ (x2 _ _ h1), n.ex _ _ h3, by rw [h2.len, h4.len]; exact sizeL hl, fun p hp => q _ _ _ _ (x1.trans x2) ⟨_, rfl, (RA_ex x2 _ _ h2).append h4⟩ ⟨Lo, re, midN (n.newL hp)⟩⟩))
    · cases z5
  · cases z5
/-- list(..) and its like -/
def enCB (o : List D → Option (List D)) (ps : Env → Option (List D × Env)) : Env → Option (Ob × Env) := fun env => (ps env).bind fun x => (o x.1).bind fun z => some (.l z, x.2)
theorem re_cbN {r : List V → Hp → VK → Prop} {o : List D → Option (List D)} (ho : RefOLN K r o) (hs : RefEA K tt pz) : RefEN K (tCB r tt) (enCB o pz) := by
  intro G L as env env' σ H Q d e w q
  obtain ⟨⟨x, e1⟩, z1, z2⟩ := bind_some e
  obtain ⟨z, z5, z6⟩ := bind_some z2
  cases z6
  refine w_cb (hs z1 w fun v G1 H1 x1 r1 ⟨Lo, re, n⟩ => ?_)
  exact ho z5 r1 n fun p ys G' H' x3 r3 n3 => q _ _ _ _ (x1.trans x3) ⟨_, rfl, r3⟩ ⟨Lo, re.ex x3, midN n3⟩
def eAndT (pa pb : PE') : PE' := fun env => (pa env).bind fun x => (tru x.1).bind fun b => if b then pb x.2 else some x
theorem re_andT (ha : RefE K ta pa) (hb : RefE K tb pb) : RefE K (tAndT K ta tb) (eAndT pa pb) := by
  intro G L as env env' σ H Q d e w q
  obtain ⟨⟨x, e1⟩, z1, z2⟩ := bind_some e
  obtain ⟨b, z3, z4⟩ := bind_some z2
  refine ha z1 w fun v G1 H1 x1 r1 w1 => ?_
  obtain ⟨Lo, re, n⟩ := w1
  refine ⟨b, tru_ok z3 r1 n, ?_⟩
  cases b with
  | true => exact hb z4 ⟨Lo, re, n⟩ fun v G2 H2 x2 r2 n2 => q _ _ _ (x1.trans x2) r2 n2
  | false => cases z4; exact q _ _ _ x1 r1 ⟨Lo, re, n⟩
def eOrT (pa pb : PE') : PE' := fun env => (pa env).bind fun x => (tru x.1).bind fun b => if b then some x else pb x.2
theorem re_orT (ha : RefE K ta pa) (hb : RefE K tb pb) : RefE K (tOrT K ta tb) (eOrT pa pb) := by
  intro G L as env env' σ H Q d e w q
  obtain ⟨⟨x, e1⟩, z1, z2⟩ := bind_some e
  obtain ⟨b, z3, z4⟩ := bind_some z2
  refine ha z1 w fun v G1 H1 x1 r1 w1 => ?_
  obtain ⟨Lo, re, n⟩ := w1
  refine ⟨b, tru_ok z3 r1 n, ?_⟩
  cases b with
  | false => exact hb z4 ⟨Lo, re, n⟩ fun v G2 H2 x2 r2 n2 => q _ _ _ (x1.trans x2) r2 n2
  | true => cases z4; exact q _ _ _ x1 r1 ⟨Lo, re, n⟩
def eNotT (pa : PE') : PE' := fun env => (pa env).bind fun x => (tru x.1).bind fun b => some (.bl (!b), x.2)
theorem re_notT (ha : RefE K ta pa) : RefE K (tNotT K ta) (eNotT pa) := by
  intro G L as env env' σ H Q d e w q
  obtain ⟨⟨x, e1⟩, z1, z2⟩ := bind_some e
  obtain ⟨b, z3, z4⟩ := bind_some z2
  cases z4
  refine ha z1 w fun v G1 H1 x1 r1 w1 => ?_
  obtain ⟨Lo, re, n⟩ := w1
  exact ⟨b, tru_ok z3 r1 n, q _ _ _ x1 (by rw [R]) ⟨Lo, re, n⟩⟩
/-- what is walked, with effects -/
def eSeq (pe : PE') : Env → Option (List D × Env) := fun env => (pe env).bind fun x => (itm x.1).bind fun ds => some (ds, x.2)
theorem re_seq (h : RefE K te pe) : RefEI K (iSeq K te) (eSeq pe) := by
  intro G L as env env' σ H Q ds e w q
  obtain ⟨⟨x, e1⟩, z1, z2⟩ := bind_some e
  obtain ⟨ds', z3, z4⟩ := bind_some z2
  cases z4
  refine h z1 w fun v G1 H1 x1 r1 ⟨Lo, re, n1⟩ => ?_
  obtain ⟨k, xs, rfl, hk, ra⟩ := r1.sk z3
  exact ⟨k, xs, rfl, hk _ n1.Ex, q _ _ _ x1 (it_seq hk ra) ⟨Lo, re, n1⟩⟩
def eRng (ps : Env → Option (List D × Env)) : Env → Option (List D × Env) := fun env => (ps env).bind fun x => match x.1 with
  | [.int j] => if -(2 ^ 62) ≤ j ∧ j < 2 ^ 62 then some (rngD 0 j, x.2) else none
  | _ => none
theorem re_rng1 (h : RefEA K tt pz) : RefEI K (iRng1 tt) (eRng pz) := by
  intro G L as env env' σ H Q ds e w q
  obtain ⟨⟨l, e1⟩, z1, z2⟩ := bind_some e
  match l, z1, z2 with
  | [.int j], z1, z2 =>
    simp only at z2
    split at z2
    · rename_i hj
      cases z2
      refine h z1 w fun vs G1 H1 x1 r1 w1 => ?_
      obtain ⟨v, rfl, r2⟩ := RA1 r1
      rw [R] at r2
      subst r2
      refine w_rngI hj.1 hj.2 (q _ _ _ x1 ?_ w1)
      unfold rngD
      rw [Int.sub_zero]
      exact it_rng 0 j.toNat
    · cases z2
end
/-! list(range(..)) -/
section
variable {K : PySem.W.Frag} {ta tb : TE} {pa pb : PP}
theorem rgV_ra {G : Hp} (i j : Int) : RA K G (rngD i j) (rgV i j) := by
  unfold rngD
  have e : rgV i j = (List.range (j - i).toNat).map fun (k : Nat) => V.int (i + (k : Nat)) := by
    first
    | rfl
    | (unfold rgV; simp)
  rw [e]
  exact RA.map (fun k => by rw [R]) _
def pnRg1 (pa : PP) : Env → Option (List D) := fun env => (pa env).bind fun d => (into d).bind fun j => if 0 ≤ j ∧ j ≤ 100000 then some (rngD 0 j) else none
theorem rp_rg1 (h : RefP K ta pa) : RefPN K (tLstRg (tRg1 ta)) (pnRg1 pa) := by
  intro G L env σ H Q ds e re n q
  obtain ⟨d, e1, e2⟩ := bind_some e
  obtain ⟨j, e3, e4⟩ := bind_some e2
  cases into_ok e3
  split at e4
  · rename_i hj
    cases e4
    refine h e1 re n fun v G1 H1 x1 r1 n1 => ?_
    rw [R] at r1
    refine ⟨j, r1, .of_le (by omega) (by omega) (by omega) (by omega), fun p hp => q _ _ _ _ x1 (rgV_ra _ _) (n1.newL hp)⟩
  · cases e4
def pnRg2 (pa pb : PP) : Env → Option (List D) := fun env => (pa env).bind fun d => (into d).bind fun i => (pb env).bind fun e => (into e).bind fun j => if 0 ≤ i ∧ i ≤ 100000 ∧ 0 ≤ j ∧ j ≤ 100000 then some (rngD i j) else none
theorem rp_rg2 (ha : RefP K ta pa) (hb : RefP K tb pb) : RefPN K (tLstRg (tRg2 ta tb)) (pnRg2 pa pb) := by
  intro G L env σ H Q ds e re n q
  obtain ⟨d, e1, e2⟩ := bind_some e
  obtain ⟨i, e3, e4⟩ := bind_some e2
  obtain ⟨d2, e5, e6⟩ := bind_some e4
  obtain ⟨j, e7, e8⟩ := bind_some e6
  cases into_ok e3
  cases into_ok e7
  split at e8
  · rename_i hj
    cases e8
    refine ha e1 re n fun v G1 H1 x1 r1 n1 => ?_
    refine hb e5 (re.ex x1) n1 fun v2 G2 H2 x2 r2 n2 => ?_
    rw [R] at r1; rw [R] at r2
    refine ⟨i, j, r1, r2, .of_le (by omega) (by omega) (by omega) (by omega), fun p hp => q _ _ _ _ (x1.trans x2) (rgV_ra _ _) (n2.newL hp)⟩
  · cases e8
end
/-! an object made for the call alone -/
section
variable {K : PySem.W.Frag} {te : TE} {tt : TA} {pn : Env → Option (Ob × Env)} {pz : Env → Option (List D × Env)}
theorem rav_some {G : Hp} {v0 : V} : ∀ {ds : List D} {vs : List V}, RA K G ds vs → RAV K G v0 (ds.map some) vs
  | [], _, h => by rw [RA] at h; exact h
  | d :: ds, _, h => by
    rw [RA] at h
    obtain ⟨v, r, rfl, h1, h2⟩ := h
    exact ⟨v, r, rfl, h1, rav_some h2⟩
def eCallT (f : List (Option D) → Ob → Option (D × Ob)) (pn : Env → Option (Ob × Env)) (pz : Env → Option (List D × Env)) : PE' := fun env => (pn env).bind fun x => (pz x.2).bind fun y => (f (none :: y.1.map some) x.1).bind fun z => some (z.1, y.2)
theorem re_callT {f : List (Option D) → Ob → Option (D × Ob)} {E : XK} (hn : RefEN K te pn) (hs : RefEA K tt pz) : RefE K (tCall (sp1 K f) [] E (tCons te tt)) (eCallT f pn pz) := by
  intro G L as env env' σ H Q d e w q
  obtain ⟨⟨o, e1⟩, z1, z2⟩ := bind_some e
  obtain ⟨⟨ds, e2⟩, z3, z4⟩ := bind_some z2
  obtain ⟨⟨z, o'⟩, z5, z6⟩ := bind_some z4
  cases z6
  refine hn z1 w fun p h G1 H1 x1 ro w1 => ?_
  refine hs z3 w1 fun vs G2 H2 x2 ra ⟨Lo, re, n⟩ => ?_
  refine ⟨G2, Lo ++ L, _, o, _, o', p, h, by rw [List.append_nil]; exact ⟨_, rfl, rav_some ra⟩, ro.ex x2, midC' n, z5, fun v G3 h3 H3 x3 r3 ro3 n3 => ?_⟩
  exact q _ _ _ ((x1.trans x2).trans x3) r3 ⟨Lo, re.ex x3, n3.sub (List.sublist_append_right ..)⟩
def enCallT (f : List (Option D) → Ob → Option (List D × Ob)) (pn : Env → Option (Ob × Env)) (pz : Env → Option (List D × Env)) : Env → Option (Ob × Env) := fun env => (pn env).bind fun x => (pz x.2).bind fun y => (f (none :: y.1.map some) x.1).bind fun z => some (.l z.1, y.2)
theorem re_callTN {f : List (Option D) → Ob → Option (List D × Ob)} {E : XK} (hn : RefEN K te pn) (hs : RefEA K tt pz) : RefEN K (tCall (sp1N K f) [] E (tCons te tt)) (enCallT f pn pz) := by
  intro G L as env env' σ H Q d e w q
  obtain ⟨⟨o, e1⟩, z1, z2⟩ := bind_some e
  obtain ⟨⟨ds, e2⟩, z3, z4⟩ := bind_some z2
  obtain ⟨⟨z, o'⟩, z5, z6⟩ := bind_some z4
  cases z6
  refine hn z1 w fun p h G1 H1 x1 ro w1 => ?_
  refine hs z3 w1 fun vs G2 H2 x2 ra ⟨Lo, re, n⟩ => ?_
  refine ⟨G2, Lo ++ L, _, o, z, o', p, h, by rw [List.append_nil]; exact ⟨_, rfl, rav_some ra⟩, ro.ex x2, midC' n, z5, fun pq xs G3 h3 H3 x3 r3 ro3 n3 => ?_⟩
  exact q _ _ _ _ ((x1.trans x2).trans x3) ⟨xs, rfl, r3⟩ ⟨Lo, re.ex x3, midN (n3.sub ((List.sublist_append_right ..).cons₂ _))⟩
end
/-! ### the law -/
def sp_law (K : PySem.W.Frag) : Sp := fun vs H Q _ => ∃ (a : Addr) (ns : List Int), vs = [.ref a] ∧ SqL K H a (ns.map V.int) ∧ ns.length ≤ 63 ∧ ∀ H', Q (.bl true) H'
theorem ln_law {K : PySem.W.Frag} {vs : List V} {H : Hp} {Q : VK} {E : XK} (h : sp_law K vs H Q E) : vs.length = 1 := by
  obtain ⟨a, ns, rfl, _⟩ := h; rfl
theorem now0 (H : Hp) : Now H [] H := ⟨fun _ _ h => h, fun _ h => (nomatch h), fun _ h => (nomatch h), List.nodup_nil⟩
theorem law_sp {K : PySem.W.Frag} {f : List D → Option D} (hf : ∀ ns : List Int, ns.length ≤ 63 → f [.scr ns] = some (.bl true)) {vs : List V} {H : Hp} {Q : VK} {E : XK} (h : sp_law K vs H Q E) : sp0 K f vs H Q E := by
  obtain ⟨a, ns, rfl, hS, hl, q⟩ := h
  refine ⟨H, [], [.scr ns], .bl true, RA.cons (by rw [R]; exact ⟨a, rfl, hS⟩) RA.nil, now0 H, hf ns hl, fun v G' H' _ r _ => ?_⟩
  rw [R] at r
  rw [r]
  exact q H'
theorem no0 {K : PySem.W.Frag} {vs : List V} {H : Hp} {Q : VK} {E : XK} (h : sp0 K (fun _ => none) vs H Q E) : False := by
  obtain ⟨_, _, _, _, _, _, e, _⟩ := h
  cases e
theorem no0N {K : PySem.W.Frag} {vs : List V} {H : Hp} {Q : VK} {E : XK} (h : sp0N K (fun _ => none) vs H Q E) : False := by
  obtain ⟨_, _, _, _, _, _, e, _⟩ := h
  cases e
theorem no1 {K : PySem.W.Frag} {vs : List V} {H : Hp} {Q : VK} {E : XK} (h : sp1 K (fun _ _ => none) vs H Q E) : False := by
  obtain ⟨_, _, _, _, _, _, _, _, _, _, _, e, _⟩ := h
  cases e
end MA
/-! QW: plain functions, step by step. -/
namespace MA
open PySem PySem.Spec PyProof.Rows L2 SX
def OkP {α : Type} (x : Option α) (P : α → Prop) : Prop := ∃ a, x = some a ∧ P a
def OkE {α : Type} (x : Option (α × Env)) (P : α → Env → Prop) : Prop := ∃ a e, x = some (a, e) ∧ P a e
/-- a statement's ends: it goes on, it returns, it returns a new list -/
def SW (x : Option Out) (N : Env → Prop) (T : D → Env → Prop) (TN : Ob → Env → Prop) : Prop := ∃ o, x = some o ∧ match o with
  | .nx e => N e
  | .rt d e => T d e
  | .rtN d e => TN d e
  | _ => False
section
variable {α : Type} {P : D → Prop} {PA : List D → Prop} {PB : Bool → Prop} {env : Env} {i : Nat} {d d1 d2 : D} {pa pb pc pe : PP} {ps : Env → Option (List D)} {pt pu : Env → Option Bool} {o o2 : D → D → Option D}
theorem OkP.of {x : Option α} {a : α} (h : OkP x (· = a)) : x = some a := by
  obtain ⟨b, h1, h2⟩ := h
  rw [h1, h2]
theorem k_eq {x : Option α} {P : α → Prop} {a : α} (h : x = some a) (q : P a) : OkP x P := ⟨a, h, q⟩
theorem k_eqE {x : Option (α × Env)} {P : α → Env → Prop} {a : α} {e : Env} (h : x = some (a, e)) (q : P a e) : OkE x P := ⟨a, e, h, q⟩
theorem OkP.imp {x : Option α} {P P' : α → Prop} (h : OkP x P) (q : ∀ a, P a → P' a) : OkP x P' := by
  obtain ⟨a, h1, h2⟩ := h
  exact ⟨a, h1, q a h2⟩
theorem OkE.imp {x : Option (α × Env)} {P P' : α → Env → Prop} (h : OkE x P) (q : ∀ a e, P a e → P' a e) : OkE x P' := by
  obtain ⟨a, e, h1, h2⟩ := h
  exact ⟨a, e, h1, q a e h2⟩
theorem k_some {P : α → Prop} {a : α} (q : P a) : OkP (some a) P := ⟨a, rfl, q⟩
theorem k_bind {β : Type} {x : Option α} {f : α → Option β} {P : β → Prop} (h : OkP x fun a => OkP (f a) P) : OkP (x.bind f) P := by
  obtain ⟨a, h1, b, h2, h3⟩ := h
  exact ⟨b, by rw [h1]; exact h2, h3⟩
theorem k_var (h : pget env i = some d) (q : P d) : OkP (pVar i env) P := ⟨d, h, q⟩
theorem k_c (q : P d) : OkP (pC d env) P := ⟨d, rfl, q⟩
theorem k_op (h : OkP (pa env) fun d => OkP (pb env) fun e => OkP (o d e) P) : OkP (pOp o pa pb env) P := k_bind (h.imp fun _ h => k_bind h)
theorem k_un {o : D → Option D} (h : OkP (pa env) fun d => OkP (o d) P) : OkP (pUn o pa env) P := k_bind h
theorem k_nil (q : PA []) : OkP (pNil env) PA := ⟨_, rfl, q⟩
theorem k_cons (h : OkP (pa env) fun d => OkP (ps env) fun ds => PA (d :: ds)) : OkP (pCons pa ps env) PA := k_bind (h.imp fun _ h => k_bind (h.imp fun _ q => k_some q))
theorem k_cb {o : List D → Option D} (h : OkP (ps env) fun ds => OkP (o ds) P) : OkP (pCB o ps env) P := k_bind h
theorem k_bm {o : D → List D → Option D} (h : OkP (pa env) fun d => OkP (ps env) fun ds => OkP (o d ds) P) : OkP (pBM o pa ps env) P := k_bind (h.imp fun _ h => k_bind h)
theorem k_bm0 {o : D → List D → Option D} (h : OkP (pa env) fun d => OkP (o d []) P) : OkP (pBM0 o pa env) P := k_bind h
def lenK {β : Type} (Q : List β → Prop) (ds : List β) : Prop := ds.length ≤ 100000 ∧ Q ds
theorem k_len {β : Type} {Q : List β → Prop} {ds : List β} (h : ds.length ≤ 100000) (q : Q ds) : lenK Q ds := ⟨h, q⟩
theorem k_lst (h : OkP (ps env) (lenK PA)) : OkP (pnLst ps env) PA := k_bind (h.imp fun ds h => by rw [if_pos h.1]; exact k_some h.2)
theorem k_tup (h : OkP (ps env) (lenK fun ds => P (.tup ds))) : OkP (pTup ps env) P := k_bind (h.imp fun ds h => by rw [if_pos h.1]; exact k_some h.2)
theorem k_fz {pn : Env → Option (List D)} (h : OkP (pn env) fun ds => P (.lst ds)) : OkP (pFz pn env) P := k_bind (h.imp fun _ q => k_some q)
theorem k_test (h : OkP (pe env) fun d => OkP (blo d) PB) : OkP (pTest pe env) PB := k_bind h
theorem k_blo {b : Bool} (q : PB b) : OkP (blo (.bl b)) PB := ⟨b, rfl, q⟩
theorem k_tru (h : OkP (pe env) fun d => OkP (tru d) PB) : OkP (pTru pe env) PB := k_bind h
theorem k_truB {b : Bool} (q : PB b) : OkP (tru (.bl b)) PB := ⟨b, rfl, q⟩
theorem k_not (h : OkP (pt env) fun b => PB (!b)) : OkP (pNot pt env) PB := k_bind (h.imp fun _ q => k_some q)
theorem k_ite {b : Bool} {A B : Prop} (h1 : b = true → A) (h2 : b = false → B) : if b = true then A else B := by
  cases b with
  | true => exact h1 rfl
  | false => exact h2 rfl
theorem k_and (h : OkP (pt env) fun b => if b = true then OkP (pu env) PB else PB false) : OkP (pAnd pt pu env) PB := k_bind (h.imp fun b q => by cases b with | true => exact q | false => exact k_some q)
theorem k_or (h : OkP (pt env) fun b => if b = true then PB true else OkP (pu env) PB) : OkP (pOr pt pu env) PB := k_bind (h.imp fun b q => by cases b with | true => exact k_some q | false => exact q)
theorem k_if (h : OkP (pt env) fun b => if b = true then OkP (pa env) P else OkP (pb env) P) : OkP (pIf pt pa pb env) P := k_bind (h.imp fun b q => by cases b with | true => exact q | false => exact q)
theorem k_andT (h : OkP (pa env) fun d => OkP (tru d) fun b => if b = true then OkP (pb env) P else P d) : OkP (pAndT pa pb env) P := k_bind (h.imp fun d h => k_bind (h.imp fun b q => by cases b with | true => exact q | false => exact k_some q))
theorem k_orT (h : OkP (pa env) fun d => OkP (tru d) fun b => if b = true then P d else OkP (pb env) P) : OkP (pOrT pa pb env) P := k_bind (h.imp fun d h => k_bind (h.imp fun b q => by cases b with | true => exact k_some q | false => exact q))
theorem k_notT (h : OkP (pa env) fun d => OkP (tru d) fun b => P (.bl (!b))) : OkP (pNotT pa env) P := k_bind (h.imp fun d h => k_bind (h.imp fun b q => k_some q))
theorem k_chain (h : OkP (pa env) fun x => OkP (pb env) fun y => OkP (o x y) fun z => OkP (blo z) fun b => if b = true then OkP (pc env) fun w => OkP (o2 y w) P else P (.bl false)) : OkP (pChain o o2 pa pb pc env) P :=
  k_bind (h.imp fun _ h => k_bind (h.imp fun _ h => k_bind (h.imp fun _ h => k_bind (h.imp fun b q => by cases b with | true => exact k_bind q | false => exact k_some q))))
theorem k_nopart {Q : Option Int → Prop} (q : Q none) : OkP (pNoPart env) Q := ⟨_, rfl, q⟩
theorem k_part {Q : Option Int → Prop} (h : OkP (pe env) fun d => OkP (into d) fun i => Q (some i)) : OkP (pPart pe env) Q := k_bind (h.imp fun _ h => k_bind (h.imp fun _ q => k_some q))
theorem k_into {Q : Int → Prop} {j : Int} (q : Q j) : OkP (into (.int j)) Q := ⟨_, rfl, q⟩
theorem k_sl {o : D → Option Int → Option Int → Option D} {pl ph : Env → Option (Option Int)} (h : OkP (pa env) fun d => OkP (pl env) fun l => OkP (ph env) fun u => OkP (o d l u) P) : OkP (pSl o pa pl ph env) P := k_bind (h.imp fun _ h => k_bind (h.imp fun _ h => k_bind h))
theorem k_call {f : List D → Option D} (h : OkP (ps env) fun ds => OkP (f ds) P) : OkP (pCall f ps env) P := k_bind h
theorem k_callN {f : List D → Option (List D)} (h : OkP (ps env) fun ds => OkP (f ds) PA) : OkP (pnCall f ps env) PA := k_bind h
theorem k_cbN {f : List D → Option (List D)} (h : OkP (ps env) fun ds => OkP (f ds) PA) : OkP (pnCB f ps env) PA := k_bind h
theorem k_addN (h : OkP (pa env) fun d => OkP (pb env) fun e => OkP (onAdd d e) PA) : OkP (pnAdd pa pb env) PA := k_bind (h.imp fun _ h => k_bind h)
theorem k_slN {pl ph : Env → Option (Option Int)} (h : OkP (pa env) fun d => OkP (pl env) fun l => OkP (ph env) fun u => OkP (onSl d l u) PA) : OkP (pnSl pa pl ph env) PA := k_bind (h.imp fun _ h => k_bind (h.imp fun _ h => k_bind h))
def revP (PA : List D → Prop) (d : D) : Prop := ∃ l, d = .lst l ∧ PA l.reverse
theorem k_rev1 {l : List D} (q : PA l.reverse) : revP PA (.lst l) := ⟨l, rfl, q⟩
theorem k_revN (h : OkP (pe env) (revP PA)) : OkP (pnRev pe env) PA := by
  obtain ⟨d, h1, l, rfl, q⟩ := h
  exact ⟨_, by unfold pnRev; rw [h1]; rfl, q⟩
theorem k_seq (h : OkP (pe env) fun d => OkP (itm d) PA) : OkP (pSeq pe env) PA := k_bind h
theorem k_itmL {l : List D} (q : PA l) : OkP (itm (.lst l)) PA := ⟨l, rfl, q⟩
theorem k_itmT {l : List D} (q : PA l) : OkP (itm (.tup l)) PA := ⟨l, rfl, q⟩
theorem k_itmS {l : List Nat} (q : PA (l.map fun c => .str [c])) : OkP (itm (.str l)) PA := ⟨_, rfl, q⟩
theorem k_itmC {l : List Int} (q : PA (l.map .int)) : OkP (itm (.scr l)) PA := ⟨_, rfl, q⟩
def rngP (PA : List D → Prop) (l : List D) : Prop := ∃ j : Int, l = [.int j] ∧ -(2 ^ 62) ≤ j ∧ j < 2 ^ 62 ∧ PA (rngD 0 j)
theorem k_rng1 {j : Int} (h1 : -(2 ^ 62) ≤ j) (h2 : j < 2 ^ 62) (q : PA (rngD 0 j)) : rngP PA [.int j] := ⟨j, rfl, h1, h2, q⟩
theorem k_rng (h : OkP (ps env) (rngP PA)) : OkP (pRng ps env) PA := by
  obtain ⟨l, h1, j, rfl, h2, h3, q⟩ := h
  refine ⟨_, ?_, q⟩
  unfold pRng
  rw [h1]
  exact if_pos ⟨h2, h3⟩
def rngP2 (PA : List D → Prop) (l : List D) : Prop := ∃ i j : Int, l = [.int i, .int j] ∧ (-(2 ^ 62) ≤ i ∧ i < 2 ^ 62 ∧ -(2 ^ 62) ≤ j ∧ j < 2 ^ 62) ∧ PA (rngD i j)
theorem k_rng21 {i j : Int} (h : -(2 ^ 62) ≤ i ∧ i < 2 ^ 62 ∧ -(2 ^ 62) ≤ j ∧ j < 2 ^ 62) (q : PA (rngD i j)) : rngP2 PA [.int i, .int j] := ⟨i, j, rfl, h, q⟩
theorem k_rng2 (h : OkP (ps env) (rngP2 PA)) : OkP (pRng2 ps env) PA := by
  obtain ⟨l, h1, i, j, rfl, h2, q⟩ := h
  refine ⟨_, ?_, q⟩
  unfold pRng2
  rw [h1]
  exact if_pos h2
def enumP (PA : List D → Prop) (l : List D) : Prop := ∃ d ds, l = [d] ∧ itm d = some ds ∧ PA (enumD 0 ds)
theorem k_enum1 {ds : List D} (h : itm d = some ds) (q : PA (enumD 0 ds)) : enumP PA [d] := ⟨d, ds, rfl, h, q⟩
theorem k_enum (h : OkP (ps env) (enumP PA)) : OkP (pEnum ps env) PA := by
  obtain ⟨l, h1, d, ds, rfl, h2, q⟩ := h
  refine ⟨_, ?_, q⟩
  unfold pEnum
  rw [h1]
  show (itm d).bind _ = _
  rw [h2]
  rfl
def zipP (s : Bool) (PA : List D → Prop) (l : List D) : Prop := ∃ d e ds es, l = [d, e] ∧ itm d = some ds ∧ itm e = some es ∧ (s = true → ds.length = es.length) ∧ PA (zipD ds es)
theorem k_zip1 {s : Bool} {ds es : List D} (h1 : itm d1 = some ds) (h2 : itm d2 = some es) (h3 : s = true → ds.length = es.length) (q : PA (zipD ds es)) : zipP s PA [d1, d2] := ⟨_, _, ds, es, rfl, h1, h2, h3, q⟩
theorem k_zip {s : Bool} (h : OkP (ps env) (zipP s PA)) : OkP (pZip s ps env) PA := by
  obtain ⟨l, h1, d, e, ds, es, rfl, h2, h3, h4, q⟩ := h
  refine ⟨_, ?_, q⟩
  unfold pZip
  rw [h1]
  show (itm d).bind _ = _
  rw [h2]
  show (itm e).bind _ = _
  rw [h3]
  show (if (s && ds.length != es.length) = true then none else some (zipD ds es)) = _
  rw [if_neg]
  intro hh
  rw [Bool.and_eq_true, bne_iff_ne] at hh
  exact hh.2 (h4 hh.1)
theorem k_enumZip (h : OkP (ps env) (zipP true fun l => PA (enumD 0 l))) : OkP (pEnumZip ps env) PA := k_bind ((k_zip h).imp fun _ q => k_some q)
def revSP (PA : List D → Prop) (d : D) : Prop := ∃ l, d = .str l ∧ l.length ≤ 100000 ∧ PA (l.reverse.map fun c => .str [c])
theorem k_revS1 {l : List Nat} (h : l.length ≤ 100000) (q : PA (l.reverse.map fun c => .str [c])) : revSP PA (.str l) := ⟨l, rfl, h, q⟩
theorem k_revS (h : OkP (pe env) (revSP PA)) : OkP (pRevS pe env) PA := by
  obtain ⟨d, h1, l, rfl, h2, q⟩ := h
  refine ⟨_, ?_, q⟩
  unfold pRevS
  rw [h1]
  exact if_pos h2
theorem k_yes (q : PB true) : OkP (pYes env) PB := ⟨_, rfl, q⟩
theorem k_isi1 {c : String} (h : OkP (pe env) fun d => P (.bl (isD c d))) : OkP (pIsi1 c pe env) P := k_bind (h.imp fun _ q => k_some q)
theorem k_isi2 {c1 c2 : String} (h : OkP (pe env) fun d => P (.bl (isD c1 d || isD c2 d))) : OkP (pIsi2 c1 c2 pe env) P := k_bind (h.imp fun _ q => k_some q)
theorem k_bits (h : OkP (pe env) fun d => ∃ i, d = .int i ∧ P (.int (Builtin.Int.intBits i : Nat))) : OkP (pBits pe env) P := by
  obtain ⟨d, h1, i, rfl, q⟩ := h
  exact ⟨_, by unfold pBits; rw [h1]; rfl, q⟩
/-! comprehensions -/
theorem k_lc {pi : Env → Option (List D)} {pg : PG'} {vs : List Nat} (h : OkP (pi env) (lenK fun items => OkP (lcP pg pt pe items (wipeF env vs)) PA)) : OkP (pnLc pi pg pt pe vs env) PA := k_bind (h.imp fun ds h => by rw [if_pos h.1]; exact h.2)
theorem lcP_map {β : Type} {pg : PG'} (enc f : β → D) : ∀ (l : List β), (∀ a ∈ l, OkP (pg (enc a) env) fun e => OkP (pt e) fun b => b = true ∧ OkP (pe e) fun y => y = f a) → lcP pg pt pe (l.map enc) env = some (l.map f)
  | [], _ => rfl
  | a :: l, h => by
    obtain ⟨e, h1, b, h2, rfl, y, h3, rfl⟩ := h a (List.mem_cons_self ..)
    rw [List.map_cons, lcP, h1]
    show (pt e).bind _ = _
    rw [h2]
    show (pe e).bind _ = _
    rw [h3]
    show (lcP pg pt pe (l.map enc) env).bind _ = _
    rw [lcP_map enc f l fun a m => h a (List.mem_cons_of_mem _ m)]
    rfl
theorem lcP_filter {β : Type} {pg : PG'} (enc f : β → D) (p : β → Bool) : ∀ (l : List β), (∀ a ∈ l, OkP (pg (enc a) env) fun e => OkP (pt e) fun b => b = p a ∧ (p a = true → OkP (pe e) fun y => y = f a)) → lcP pg pt pe (l.map enc) env = some ((l.filter p).map f)
  | [], _ => rfl
  | a :: l, h => by
    obtain ⟨e, h1, b, h2, rfl, h3⟩ := h a (List.mem_cons_self ..)
    have ih := lcP_filter enc f p l fun a m => h a (List.mem_cons_of_mem _ m)
    rw [List.map_cons, lcP, h1]
    show (pt e).bind _ = _
    rw [h2]
    cases hp : p a with
    | false =>
      rw [List.filter_cons, hp]
      exact ih
    | true =>
      obtain ⟨y, h4, rfl⟩ := h3 hp
      rw [List.filter_cons, hp]
      show (pe e).bind _ = _
      rw [h4]
      show (lcP pg pt pe (l.map enc) env).bind _ = _
      rw [ih]
      rfl
theorem k_lcP_map {β : Type} {pg : PG'} {l : List β} (enc f : β → D) (h : ∀ a ∈ l, OkP (pg (enc a) env) fun e => OkP (pt e) fun b => b = true ∧ OkP (pe e) fun y => y = f a) (q : PA (l.map f)) : OkP (lcP pg pt pe (l.map enc) env) PA := ⟨_, lcP_map enc f l h, q⟩
theorem k_lcP_filter {β : Type} {pg : PG'} {l : List β} (enc f : β → D) (p : β → Bool) (h : ∀ a ∈ l, OkP (pg (enc a) env) fun e => OkP (pt e) fun b => b = p a ∧ (p a = true → OkP (pe e) fun y => y = f a)) (q : PA ((l.filter p).map f)) : OkP (lcP pg pt pe (l.map enc) env) PA := ⟨_, lcP_filter enc f p l h, q⟩
theorem k_gN {Q : Env → Prop} (q : Q (env.set i (some (.v d)))) : OkP (gN i d env) Q := ⟨_, rfl, q⟩
theorem k_gT {Q : Env → Prop} {m : Nat} {pg : List D → Env → Option Env} {ds : List D} (h : ds.length = m) (q : OkP (pg ds env) Q) : OkP (gT m pg (.tup ds) env) Q := by
  show OkP (if ds.length = m then pg ds env else none) Q
  rw [if_pos h]; exact q
theorem k_gTL {Q : Env → Prop} {m : Nat} {pg : List D → Env → Option Env} {ds : List D} (h : ds.length = m) (q : OkP (pg ds env) Q) : OkP (gT m pg (.lst ds) env) Q := by
  show OkP (if ds.length = m then pg ds env else none) Q
  rw [if_pos h]; exact q
theorem k_gSt {Q : Env → Prop} {m i : Nat} {pg : List D → Env → Option Env} {ds : List D} (h : m ≤ ds.length + 1) (q : OkP (pg (ds.take i ++ [.lst ((ds.drop i).take (ds.length + 1 - m))] ++ ds.drop (i + (ds.length + 1 - m))) env) Q) : OkP (gSt m i pg (.tup ds) env) Q := by
  obtain ⟨e, h1, h2⟩ := q
  exact ⟨e, (if_pos h).trans h1, h2⟩
theorem k_gStL {Q : Env → Prop} {m i : Nat} {pg : List D → Env → Option Env} {ds : List D} (h : m ≤ ds.length + 1) (q : OkP (pg (ds.take i ++ [.lst ((ds.drop i).take (ds.length + 1 - m))] ++ ds.drop (i + (ds.length + 1 - m))) env) Q) : OkP (gSt m i pg (.lst ds) env) Q := by
  obtain ⟨e, h1, h2⟩ := q
  exact ⟨e, (if_pos h).trans h1, h2⟩
theorem k_gsCons {Q : Env → Prop} {pg : PG'} {qs : List D → Env → Option Env} {ds : List D} (h : OkP (pg d env) fun e => OkP (qs ds e) Q) : OkP (gsCons pg qs (d :: ds) env) Q := k_bind h
theorem k_gsNil {Q : Env → Prop} (q : Q env) : OkP (gsNil [] env) Q := ⟨_, rfl, q⟩
end
theorem ix_lt {n : Nat} {j : Int} (h0 : 0 ≤ j) (h : j < n) : ixN n j = some j.toNat := by
  unfold ixN
  rw [if_pos h0, if_pos h]
theorem at_lt {α : Type} {l : List α} {j : Int} (h0 : 0 ≤ j) (h : j.toNat < l.length) : atI l j = some (l[j.toNat]'h) := by
  unfold atI
  rw [ix_lt h0 (by omega)]
  exact List.getElem?_eq_getElem h
theorem at_nat {α : Type} {l : List α} {j : Nat} {a : α} (h : l[j]? = some a) : atI l (j : Int) = some a := atI_nat h
mutual
def ud : PyData → D
  | .none => .non
  | .bool b => .bl b
  | .int i => .int i
  | .str x => .str (unS x)
  | .list l => .lst (uds l)
  | .tuple l => .tup (uds l)
  | .dict _ => .non
def uds : List PyData → List D
  | [] => []
  | d :: l => ud d :: uds l
end
/-! ### operations -/
section
variable {P : D → Prop} {i j : Int} {l m : List Nat} {a b : Bool} {d : D} {ds es : List D}
theorem o_addI (q : P (.int (i + j))) : OkP (oAdd (.int i) (.int j)) P := ⟨_, rfl, q⟩
theorem o_addS (h : l.length + m.length ≤ 100000) (q : P (.str (l ++ m))) : OkP (oAdd (.str l) (.str m)) P := ⟨_, if_pos h, q⟩
theorem o_addL (h : ds.length + es.length ≤ 100000) (q : P (.lst (ds ++ es))) : OkP (oAdd (.lst ds) (.lst es)) P := ⟨_, if_pos h, q⟩
theorem o_addT (h : ds.length + es.length ≤ 100000) (q : P (.tup (ds ++ es))) : OkP (oAdd (.tup ds) (.tup es)) P := ⟨_, if_pos h, q⟩
theorem o_addN {PA : List D → Prop} (h : ds.length + es.length ≤ 100000) (q : PA (ds ++ es)) : OkP (onAdd (.lst ds) (.lst es)) PA := ⟨_, if_pos h, q⟩
theorem o_subI (q : P (.int (i - j))) : OkP (oSub (.int i) (.int j)) P := ⟨_, rfl, q⟩
theorem o_mulI (h : (-(2 ^ 64) < i ∧ i < 2 ^ 64) ∨ (-(2 ^ 64) < j ∧ j < 2 ^ 64)) (q : P (.int (i * j))) : OkP (oMul (.int i) (.int j)) P := ⟨_, if_pos h, q⟩
theorem o_mulS (h : 0 ≤ j ∧ j ≤ 1000 ∧ l.length ≤ 1000) (q : P (.str (List.replicate j.toNat l).flatten)) : OkP (oMul (.str l) (.int j)) P := ⟨_, if_pos h, q⟩
theorem o_mulL (h : -(2 ^ 63) ≤ j ∧ j < 2 ^ 63 ∧ ds.length * j.toNat ≤ 100000) (q : P (.lst (List.replicate j.toNat ds).flatten)) : OkP (oMul (.lst ds) (.int j)) P := ⟨_, if_pos h, q⟩
theorem o_fdivI (h0 : 0 < j) (h1 : j < 1267650600228229401496703205376) (q : P (.int (i / j))) : OkP (oFdiv (.int i) (.int j)) P := ⟨_, if_pos ⟨h0, h1⟩, q⟩
theorem o_modI (h0 : 0 < j) (q : P (.int (i % j))) : OkP (oMod (.int i) (.int j)) P := ⟨_, if_pos h0, q⟩
theorem o_powI (h : 0 ≤ j ∧ j ≤ 1000000 ∧ i.natAbs < 2 ^ 64) (q : P (.int (i ^ j.toNat))) : OkP (oPow (.int i) (.int j)) P := ⟨_, if_pos h, q⟩
theorem o_shl (h : 0 ≤ i ∧ i.toNat < big ∧ 0 ≤ j ∧ j ≤ 1000000) (q : P (.int (i * 2 ^ j.toNat))) : OkP (oShl (.int i) (.int j)) P := ⟨_, if_pos h, q⟩
theorem o_shl1 (h0 : 0 ≤ j) (h1 : j ≤ 1000000) (q : P (.int (2 ^ j.toNat))) : OkP (oShl (.int 1) (.int j)) P := o_shl ⟨by decide, lt_big (k := 1) (by decide) (by decide), h0, h1⟩ (by rw [Int.one_mul]; exact q)
theorem o_shr (h : 0 ≤ j) (q : P (.int (i / 2 ^ j.toNat))) : OkP (oShr (.int i) (.int j)) P := ⟨_, if_pos h, q⟩
theorem o_and (q : P (.int (Builtin.bitAnd i j))) : OkP (oAnd (.int i) (.int j)) P := ⟨_, rfl, q⟩
theorem o_or (q : P (.int (Builtin.bitOr i j))) : OkP (oOr (.int i) (.int j)) P := ⟨_, rfl, q⟩
theorem o_xor (q : P (.int (Builtin.bitXor i j))) : OkP (oXor (.int i) (.int j)) P := ⟨_, rfl, q⟩
theorem o_neg (q : P (.int (-i))) : OkP (oNeg (.int i)) P := ⟨_, rfl, q⟩
theorem o_inv (q : P (.int (Builtin.bitNot i))) : OkP (oInv (.int i)) P := ⟨_, rfl, q⟩
theorem o_eqS (q : P (.bl (decide (l = m)))) : OkP (oEq (.str l) (.str m)) P := ⟨_, rfl, q⟩
theorem o_eqI (q : P (.bl (decide (i = j)))) : OkP (oEq (.int i) (.int j)) P := ⟨_, rfl, q⟩
theorem o_eqB (q : P (.bl (decide (a = b)))) : OkP (oEq (.bl a) (.bl b)) P := ⟨_, rfl, q⟩
theorem o_neS (q : P (.bl (!decide (l = m)))) : OkP (oNe (.str l) (.str m)) P := ⟨_, rfl, q⟩
theorem o_neI (q : P (.bl (!decide (i = j)))) : OkP (oNe (.int i) (.int j)) P := ⟨_, rfl, q⟩
theorem o_neB (q : P (.bl (!decide (a = b)))) : OkP (oNe (.bl a) (.bl b)) P := ⟨_, rfl, q⟩
theorem eqd_refl (n : Nat) : ∀ d : D, shp n d = true → eqd d d = true := by
  have all : ∀ (m : Nat) (l : List D), (∀ d, shp m d = true → eqd d d = true) → l.all (shp m) = true → PyData.eqvAll (pds l) (pds l) = true := fun m l ih => by
    induction l with
    | nil => intro _; simp [pds, PyData.eqvAll]
    | cons d l ihl =>
      intro h
      rw [List.all_cons, Bool.and_eq_true] at h
      rw [pds, PyData.eqvAll, Bool.and_eq_true]
      exact ⟨ih d h.1, ihl h.2⟩
  induction n with
  | zero =>
    intro d h
    cases d with
    | lst _ => cases h
    | tup _ => cases h
    | scr _ => cases h
    | dic _ _ => cases h
    | _ => simp [eqd, pd, PyData.eqv, str_beq]
  | succ n ih =>
    intro d h
    cases d with
    | lst l => unfold eqd; rw [pd, PyData.eqv]; exact all n l ih h
    | tup l => unfold eqd; rw [pd, PyData.eqv]; exact all n l ih h
    | scr _ => cases h
    | dic _ _ => cases h
    | _ => simp [eqd, pd, PyData.eqv, str_beq]
theorem uni_shp (k : Bool) (n : Nat) : ∀ d : D, uni k n d = true → shp n d = true ∧ Pn k n (pd d) := by
  induction n with
  | zero =>
    intro d h
    cases d with
    | non => exact ⟨rfl, by rw [pd]; exact .non _⟩
    | bl b => exact ⟨rfl, by rw [pd]; exact .bl _ _ h⟩
    | int i => exact ⟨rfl, by rw [pd]; exact .int _ _ (by cases k; rfl; cases h)⟩
    | str l => exact ⟨h, by rw [pd]; exact .str _ _ (all_cps h)⟩
    | _ => cases h
  | succ n ih =>
    intro d h
    cases d with
    | non => exact ⟨rfl, by rw [pd]; exact .non _⟩
    | bl b => exact ⟨rfl, by rw [pd]; exact .bl _ _ h⟩
    | int i => exact ⟨rfl, by rw [pd]; exact .int _ _ (by cases k; rfl; cases h)⟩
    | str l => exact ⟨h, by rw [pd]; exact .str _ _ (all_cps h)⟩
    | lst l =>
      rw [uni, List.all_eq_true] at h
      refine ⟨by rw [shp, List.all_eq_true]; exact fun d hd => (ih d (h d hd)).1, ?_⟩
      rw [pd, pds_map]
      refine .lst fun x hx => ?_
      obtain ⟨d, hd, rfl⟩ := List.mem_map.mp hx
      exact (ih d (h d hd)).2
    | tup l =>
      rw [uni, List.all_eq_true] at h
      refine ⟨by rw [shp, List.all_eq_true]; exact fun d hd => (ih d (h d hd)).1, ?_⟩
      rw [pd, pds_map]
      refine .tup fun x hx => ?_
      obtain ⟨d, hd, rfl⟩ := List.mem_map.mp hx
      exact (ih d (h d hd)).2
    | scr _ => cases h
    | dic _ _ => cases h
theorem ud_pd (n : Nat) : ∀ d : D, shp n d = true → ud (pd d) = d := by
  have all : ∀ (m : Nat) (l : List D), (∀ d, shp m d = true → ud (pd d) = d) → l.all (shp m) = true → uds (pds l) = l := fun m l ih => by
    induction l with
    | nil => intro _; rfl
    | cons d l ihl =>
      intro h
      rw [List.all_cons, Bool.and_eq_true] at h
      rw [pds, uds, ih d h.1, ihl h.2]
  induction n with
  | zero =>
    intro d h
    cases d with
    | lst _ => cases h
    | tup _ => cases h
    | scr _ => cases h
    | dic _ _ => cases h
    | str l => rw [pd, ud]; simp [unS, S]
    | _ => rfl
  | succ n ih =>
    intro d h
    cases d with
    | lst l => rw [pd, ud, all n l ih h]
    | tup l => rw [pd, ud, all n l ih h]
    | scr _ => cases h
    | dic _ _ => cases h
    | str l => rw [pd, ud]; simp [unS, S]
    | _ => rfl
theorem pd_inj (k : Bool) (n : Nat) (d e : D) (h1 : uni k n d = true) (h2 : uni k n e = true) (h : pd d = pd e) : d = e := by
  rw [← ud_pd n d (uni_shp k n d h1).1, ← ud_pd n e (uni_shp k n e h2).1, h]
/-- == is being the same, where truths and numbers don't stand together -/
theorem eqd_iff (k : Bool) {n : Nat} {d e : D} (h1 : uni k n d = true) (h2 : uni k n e = true) : eqd d e = true ↔ d = e := by
  constructor
  · intro h
    exact pd_inj k n d e h1 h2 ((eqv_iff n _ _ (uni_shp k n d h1).2 (uni_shp k n e h2).2).mp h)
  · rintro rfl
    exact eqd_refl n d (uni_shp k n d h1).1
theorem o_eqL (h1 : shp 40 (.lst ds) = true) (h2 : shp 40 (.lst es) = true) (q : P (.bl (eqd (.lst ds) (.lst es)))) : OkP (oEq (.lst ds) (.lst es)) P := ⟨_, (if_pos (by rw [h1, h2]; rfl) : (if (shp 40 (.lst ds) && shp 40 (.lst es)) = true then some (D.bl (eqd (.lst ds) (.lst es))) else none) = _), q⟩
theorem o_eqT (h1 : shp 40 (.tup ds) = true) (h2 : shp 40 (.tup es) = true) (q : P (.bl (eqd (.tup ds) (.tup es)))) : OkP (oEq (.tup ds) (.tup es)) P := ⟨_, (if_pos (by rw [h1, h2]; rfl) : (if (shp 40 (.tup ds) && shp 40 (.tup es)) = true then some (D.bl (eqd (.tup ds) (.tup es))) else none) = _), q⟩
theorem o_ne {d e : D} (h : OkP (oEq d e) fun z => ∃ b, z = .bl b ∧ P (.bl (!b))) : OkP (oNe d e) P := by
  obtain ⟨z, h1, b, rfl, q⟩ := h
  exact ⟨_, by unfold oNe; rw [h1]; rfl, q⟩
theorem o_ltI (q : P (.bl (decide (i < j)))) : OkP (oLt (.int i) (.int j)) P := ⟨_, rfl, q⟩
theorem o_ltS (q : P (.bl (decide (l < m)))) : OkP (oLt (.str l) (.str m)) P := ⟨_, rfl, q⟩
theorem o_leI (q : P (.bl (decide (i ≤ j)))) : OkP (oLe (.int i) (.int j)) P := ⟨_, rfl, q⟩
theorem o_gtI (q : P (.bl (decide (j < i)))) : OkP (oGt (.int i) (.int j)) P := ⟨_, rfl, q⟩
theorem o_geI (q : P (.bl (decide (j ≤ i)))) : OkP (oGe (.int i) (.int j)) P := ⟨_, rfl, q⟩
theorem o_isN (q : P (.bl (isNone d))) : OkP (oIs d .non) P := ⟨_, by unfold oIs oIsB; rfl, q⟩
theorem o_isntN (q : P (.bl (!isNone d))) : OkP (oIsnt d .non) P := ⟨_, by unfold oIsnt oIsB; rfl, q⟩
theorem o_ixL (h : atI ds j = some d) (q : P d) : OkP (oIx (.lst ds) (.int j)) P := ⟨d, h, q⟩
theorem o_ixT (h : atI ds j = some d) (q : P d) : OkP (oIx (.tup ds) (.int j)) P := ⟨d, h, q⟩
theorem o_ixS {c : Nat} (hl : l.length ≤ 100000) (h : atI l j = some c) (q : P (.str [c])) : OkP (oIx (.str l) (.int j)) P := ⟨_, by
  show (if l.length ≤ 100000 then (atI l j).bind (fun c => some (D.str [c])) else none) = _
  rw [if_pos hl, h]; rfl, q⟩
theorem o_slS {lo hi : Option Int} (hl : l.length ≤ 100000) (q : P (.str (cutL l lo hi))) : OkP (oSl (.str l) lo hi) P := ⟨_, if_pos hl, q⟩
theorem o_slL {lo hi : Option Int} (q : P (.lst (cutL ds lo hi))) : OkP (oSl (.lst ds) lo hi) P := ⟨_, rfl, q⟩
theorem o_lenS (hl : l.length ≤ 100000) (q : P (.int (l.length : Nat))) : OkP (oLen [.str l]) P := ⟨_, if_pos hl, q⟩
theorem o_lenL (q : P (.int (ds.length : Nat))) : OkP (oLen [.lst ds]) P := ⟨_, rfl, q⟩
theorem o_lenT (q : P (.int (ds.length : Nat))) : OkP (oLen [.tup ds]) P := ⟨_, rfl, q⟩
theorem o_lenC {ns : List Int} (q : P (.int (ns.length : Nat))) : OkP (oLen [.scr ns]) P := ⟨_, rfl, q⟩
theorem o_abs (q : P (.int (if i < 0 then -i else i))) : OkP (oAbs [.int i]) P := ⟨_, rfl, q⟩
theorem o_min (q : P (.int (if j < i then j else i))) : OkP (oMin [.int i, .int j]) P := ⟨_, rfl, q⟩
theorem o_max (q : P (.int (if j > i then j else i))) : OkP (oMax [.int i, .int j]) P := ⟨_, rfl, q⟩
theorem o_divmod (h : 0 < j) (h1 : j < 2 ^ 30) (q : P (.tup [.int (i / j), .int (i % j)])) : OkP (oDivmod [.int i, .int j]) P := ⟨_, if_pos ⟨h, h1⟩, q⟩
theorem blos_map (bs : List Bool) : blos (bs.map D.bl) = some bs := by
  induction bs with
  | nil => rfl
  | cons b bs ih => rw [List.map_cons, blos, ih]; rfl
theorem o_all {bs : List Bool} (h : ds = bs.map D.bl) (q : P (.bl (bs.all id))) : OkP (oAll [.lst ds]) P := ⟨_, by rw [h, oAll, blos_map]; rfl, q⟩
theorem o_any {bs : List Bool} (h : ds = bs.map D.bl) (q : P (.bl (bs.any id))) : OkP (oAny [.lst ds]) P := ⟨_, by rw [h, oAny, blos_map]; rfl, q⟩
theorem o_intI (q : P (.int i)) : OkP (oInt [.int i]) P := ⟨_, rfl, q⟩
theorem o_intB (q : P (.int (if a then 1 else 0))) : OkP (oInt [.bl a]) P := ⟨_, rfl, q⟩
theorem o_tupL (q : P (.tup ds)) : OkP (oTuple [.lst ds]) P := ⟨_, rfl, q⟩
theorem o_tupT (q : P (.tup ds)) : OkP (oTuple [.tup ds]) P := ⟨_, rfl, q⟩
theorem o_listL {PA : List D → Prop} (q : PA ds) : OkP (onList [.lst ds]) PA := ⟨_, rfl, q⟩
theorem o_listT {PA : List D → Prop} (q : PA ds) : OkP (onList [.tup ds]) PA := ⟨_, rfl, q⟩
theorem o_listS {PA : List D → Prop} (h : l.length ≤ 100000) (q : PA (l.map fun c => .str [c])) : OkP (onList [.str l]) PA := ⟨_, if_pos h, q⟩
theorem strsD_map (ls : List (List Nat)) : strsD (ls.map D.str) = some ls := by
  induction ls with
  | nil => rfl
  | cons b bs ih => rw [List.map_cons, strsD, ih]; rfl
theorem joinL_nil : ∀ ls : List (List Nat), TL.joinL [] ls = ls.flatten
  | [] => rfl
  | [p] => by show p = [p].flatten; simp
  | p :: q :: r => by show p ++ ([] ++ TL.joinL [] (q :: r)) = _; rw [joinL_nil]; simp
/-- ''.join of single signs -/
theorem o_joinSg (hd : ds = l.map fun c => D.str [c]) (h : l.length ≤ 100000) (q : P (.str l)) : OkP (oJoin (.str []) [.lst ds]) P := by
  have e1 : (l.map fun c => D.str [c]) = (l.map fun c => [c]).map D.str := by rw [List.map_map]; rfl
  have e2 : ((l.map fun c => [c]).map (·.length)).sum = l.length := by
    clear h hd e1 q
    induction l with
    | nil => rfl
    | cons c l ih => rw [List.map_cons, List.map_cons, List.sum_cons, ih, List.length_cons]; simp; omega
  refine ⟨.str l, ?_, q⟩
  rw [hd, e1, oJoin, strsD_map]
  show (if _ then _ else _) = _
  rw [if_pos, joinL_nil, flat1]
  rw [e2, List.length_map]
  show l.length + l.length * 0 ≤ _
  omega
/-- ''.join of texts -/
theorem o_joinT {ls : List (List Nat)} (hd : ds = ls.map D.str) (h : ls.flatten.length ≤ 100000) (q : P (.str ls.flatten)) : OkP (oJoin (.str []) [.lst ds]) P := by
  refine ⟨.str ls.flatten, ?_, q⟩
  rw [hd, oJoin, strsD_map]
  show (if _ then _ else _) = _
  rw [if_pos, joinL_nil]
  rw [List.length_flatten] at h
  show _ + ls.length * 0 ≤ _
  omega
theorem inB_L : oInB d (.lst ds) = if (d.sc && ds.all D.sc) = true then some (ds.any fun y => eqf y d) else none := by
  cases d <;> first | rfl | (rename_i l; rcases l with _ | ⟨_, _ | _⟩ <;> rfl)
theorem inB_T : oInB d (.tup ds) = if (d.sc && ds.all D.sc) = true then some (ds.any fun y => eqf y d) else none := by
  cases d <;> first | rfl | (rename_i l; rcases l with _ | ⟨_, _ | _⟩ <;> rfl)
theorem o_inL (h1 : d.sc = true) (h2 : ds.all D.sc = true) (q : P (.bl (ds.any fun y => eqf y d))) : OkP (oIn d (.lst ds)) P := ⟨_, by unfold oIn; rw [inB_L, h1, h2]; rfl, q⟩
theorem o_inT (h1 : d.sc = true) (h2 : ds.all D.sc = true) (q : P (.bl (ds.any fun y => eqf y d))) : OkP (oIn d (.tup ds)) P := ⟨_, by unfold oIn; rw [inB_T, h1, h2]; rfl, q⟩
theorem o_niT (h1 : d.sc = true) (h2 : ds.all D.sc = true) (q : P (.bl (!ds.any fun y => eqf y d))) : OkP (oNi d (.tup ds)) P := ⟨_, by unfold oNi; rw [inB_T, h1, h2]; rfl, q⟩
theorem o_niL (h1 : d.sc = true) (h2 : ds.all D.sc = true) (q : P (.bl (!ds.any fun y => eqf y d))) : OkP (oNi d (.lst ds)) P := ⟨_, by unfold oNi; rw [inB_L, h1, h2]; rfl, q⟩
theorem o_inS {c : Nat} (q : P (.bl (decide (c ∈ l)))) : OkP (oIn (.str [c]) (.str l)) P := ⟨_, by unfold oIn oInB; rfl, q⟩
theorem o_niS {c : Nat} (q : P (.bl (!decide (c ∈ l)))) : OkP (oNi (.str [c]) (.str l)) P := ⟨_, by unfold oNi oInB; rfl, q⟩
theorem o_iaddI (q : P (.int (i + j))) : OkP (oIAdd (.int i) (.int j)) P := ⟨_, rfl, q⟩
theorem o_iaddS (h : l.length + m.length ≤ 100000) (q : P (.str (l ++ m))) : OkP (oIAdd (.str l) (.str m)) P := ⟨_, if_pos h, q⟩
theorem o_imulI (h : (-(2 ^ 64) < i ∧ i < 2 ^ 64) ∨ (-(2 ^ 64) < j ∧ j < 2 ^ 64)) (q : P (.int (i * j))) : OkP (oIMul (.int i) (.int j)) P := ⟨_, if_pos h, q⟩
end
/-! ### with effects -/
section
variable {α : Type} {P : D → Env → Prop} {PA : List D → Env → Prop} {PB : Bool → Env → Prop} {PO : Ob → Env → Prop} {env : Env} {i : Nat} {d : D} {pa pb pe : PE'} {ps : Env → Option (List D × Env)} {pt pu : Env → Option (Bool × Env)} {o : D → D → Option D} {pp : PP} {pn : Env → Option (Ob × Env)}
theorem k_bindE {β : Type} {x : Option (α × Env)} {f : α × Env → Option β} {Q : β → Prop} (h : OkE x fun a e => OkP (f (a, e)) Q) : OkP (x.bind f) Q := by
  obtain ⟨a, e, h1, b, h2, h3⟩ := h
  exact ⟨b, by rw [h1]; exact h2, h3⟩
theorem k_bindEE {β : Type} {x : Option (α × Env)} {f : α × Env → Option (β × Env)} {Q : β → Env → Prop} (h : OkE x fun a e => OkE (f (a, e)) Q) : OkE (x.bind f) Q := by
  obtain ⟨a, e, h1, b, e2, h2, h3⟩ := h
  exact ⟨b, e2, by rw [h1]; exact h2, h3⟩
theorem k_bindPE {β : Type} {x : Option α} {f : α → Option (β × Env)} {Q : β → Env → Prop} (h : OkP x fun a => OkE (f a) Q) : OkE (x.bind f) Q := by
  obtain ⟨a, h1, b, e2, h2, h3⟩ := h
  exact ⟨b, e2, by rw [h1]; exact h2, h3⟩
theorem k_someE {P : α → Env → Prop} {a : α} {e : Env} (q : P a e) : OkE (some (a, e)) P := ⟨a, e, rfl, q⟩
theorem e_L (h : OkP (pp (hide env)) fun d => P d env) : OkE (eL pp env) P := k_bindPE (h.imp fun _ q => k_someE q)
theorem e_LA {ps : Env → Option (List D)} (h : OkP (ps (hide env)) fun d => PA d env) : OkE (eLA ps env) PA := k_bindPE (h.imp fun _ q => k_someE q)
theorem e_LI {ps : Env → Option (List D)} (h : OkP (ps (hide env)) fun d => PA d env) : OkE (eLI ps env) PA := k_bindPE (h.imp fun _ q => k_someE q)
def scP (P : D → Env → Prop) (env : Env) (d : D) : Prop := d.sc = true ∧ P d env
theorem e_sc (h : d.sc = true) (q : P d env) : scP P env d := ⟨h, q⟩
theorem e_P (h : OkP (pp env) (scP P env)) : OkE (eP pp env) P := k_bindPE (h.imp fun _ q => by rw [if_pos q.1]; exact k_someE q.2)
theorem e_T {pt : Env → Option Bool} (h : OkP (pt env) fun b => PB b env) : OkE (eT pt env) PB := k_bindPE (h.imp fun _ q => k_someE q)
theorem e_N {pn : Env → Option (List D)} (h : OkP (pn (hide env)) fun ds => PO (.l ds) env) : OkE (eN pn env) PO := k_bindPE (h.imp fun _ q => k_someE q)
theorem e_Fz (h : OkE (pn env) fun o e => match o with | .l ds => P (.lst ds) e | .st _ _ => False | .dk ks vs => P (.dic ks vs) e) : OkE (eFz pn env) P := k_bindEE (h.imp fun o _ q => match o, q with
  | .l _, q => k_someE q
  | .dk _ _, q => k_someE q
  | .st _ _, q => q.elim)
theorem e_op (h : OkE (pa env) fun d e => OkE (pb e) fun d2 e2 => OkP (o d d2) fun z => P z e2) : OkE (eOp o pa pb env) P := k_bindEE (h.imp fun _ _ h => k_bindEE (h.imp fun _ _ h => k_bindPE (h.imp fun _ q => k_someE q)))
theorem e_un {o : D → Option D} (h : OkE (pa env) fun d e => OkP (o d) fun z => P z e) : OkE (eUn o pa env) P := k_bindEE (h.imp fun _ _ h => k_bindPE (h.imp fun _ q => k_someE q))
theorem e_nil (q : PA [] env) : OkE (eNil env) PA := k_someE q
theorem e_cons (h : OkE (pa env) fun d e => OkE (ps e) fun ds e2 => PA (d :: ds) e2) : OkE (eCons pa ps env) PA := k_bindEE (h.imp fun _ _ h => k_bindEE (h.imp fun _ _ q => k_someE q))
theorem e_cb {o : List D → Option D} (h : OkE (ps env) fun ds e => OkP (o ds) fun z => P z e) : OkE (eCB o ps env) P := k_bindEE (h.imp fun _ _ h => k_bindPE (h.imp fun _ q => k_someE q))
theorem e_bm {o : D → List D → Option D} (h : OkE (pa env) fun d e => OkE (ps e) fun ds e2 => OkP (o d ds) fun z => P z e2) : OkE (eBM o pa ps env) P := k_bindEE (h.imp fun _ _ h => k_bindEE (h.imp fun _ _ h => k_bindPE (h.imp fun _ q => k_someE q)))
def lenE (Q : List D → Env → Prop) (ds : List D) (e : Env) : Prop := ds.length ≤ 100000 ∧ Q ds e
theorem e_len {ds : List D} {Q : List D → Env → Prop} (h : ds.length ≤ 100000) (q : Q ds env) : lenE Q ds env := ⟨h, q⟩
theorem e_lst (h : OkE (ps env) (lenE fun ds e => PO (.l ds) e)) : OkE (enLst ps env) PO := k_bindEE (h.imp fun _ _ q => by rw [if_pos q.1]; exact k_someE q.2)
theorem e_tup (h : OkE (ps env) (lenE fun ds e => P (.tup ds) e)) : OkE (eTup ps env) P := k_bindEE (h.imp fun _ _ q => by rw [if_pos q.1]; exact k_someE q.2)
theorem e_test (h : OkE (pe env) fun d e => OkP (blo d) fun b => PB b e) : OkE (eTest pe env) PB := k_bindEE (h.imp fun _ _ h => k_bindPE (h.imp fun _ q => k_someE q))
theorem e_tru (h : OkE (pe env) fun d e => OkP (tru d) fun b => PB b e) : OkE (eTru pe env) PB := k_bindEE (h.imp fun _ _ h => k_bindPE (h.imp fun _ q => k_someE q))
theorem e_not (h : OkE (pt env) fun b e => PB (!b) e) : OkE (eNot pt env) PB := k_bindEE (h.imp fun _ _ q => k_someE q)
theorem e_and (h : OkE (pt env) fun b e => if b = true then OkE (pu e) PB else PB false e) : OkE (eAnd pt pu env) PB := k_bindEE (h.imp fun b e q => by cases b with | true => exact q | false => exact k_someE q)
theorem e_or (h : OkE (pt env) fun b e => if b = true then PB true e else OkE (pu e) PB) : OkE (eOr pt pu env) PB := k_bindEE (h.imp fun b e q => by cases b with | true => exact k_someE q | false => exact q)
theorem e_if (h : OkE (pt env) fun b e => if b = true then OkE (pa e) P else OkE (pb e) P) : OkE (eIf pt pa pb env) P := k_bindEE (h.imp fun b e q => by cases b with | true => exact q | false => exact q)
theorem e_andT (h : OkE (pa env) fun d e => OkP (tru d) fun b => if b = true then OkE (pb e) P else P d e) : OkE (eAndT pa pb env) P := k_bindEE (h.imp fun d e h => k_bindPE (h.imp fun b q => by cases b with | true => exact q | false => exact k_someE q))
theorem e_orT (h : OkE (pa env) fun d e => OkP (tru d) fun b => if b = true then P d e else OkE (pb e) P) : OkE (eOrT pa pb env) P := k_bindEE (h.imp fun d e h => k_bindPE (h.imp fun b q => by cases b with | true => exact k_someE q | false => exact q))
theorem e_call {f : List D → Option D} (h : OkE (ps env) fun ds e => OkP (f ds) fun z => P z e) : OkE (eCall f ps env) P := k_bindEE (h.imp fun _ _ h => k_bindPE (h.imp fun _ q => k_someE q))
theorem e_callN {f : List D → Option (List D)} (h : OkE (ps env) fun ds e => OkP (f ds) fun z => PO (.l z) e) : OkE (enCall f ps env) PO := k_bindEE (h.imp fun _ _ h => k_bindPE (h.imp fun _ q => k_someE q))
theorem e_vnil {PV : List (Option D) → Env → Prop} (q : PV [] env) : OkE (vNil env) PV := k_someE q
theorem e_vcons {PV : List (Option D) → Env → Prop} {pv : Env → Option (List (Option D) × Env)} (h : OkE (pa env) fun d e => OkE (pv e) fun ds e2 => PV (some d :: ds) e2) : OkE (vCons pa pv env) PV := k_bindEE (h.imp fun _ _ h => k_bindEE (h.imp fun _ _ q => k_someE q))
theorem e_vio {PV : List (Option D) → Env → Prop} {pv : Env → Option (List (Option D) × Env)} (h : OkE (pv env) fun ds e2 => PV (none :: ds) e2) : OkE (vIo pv env) PV := k_bindEE (h.imp fun _ _ q => k_someE q)
def ioP (f : List (Option D) → Ob → Option (D × Ob)) (i : Nat) (P : D → Env → Prop) (ds : List (Option D)) (e : Env) : Prop := ∃ o, obj e i = some o ∧ OkP (f ds o) fun z => P z.1 (setO e i z.2)
theorem e_io1 {f : List (Option D) → Ob → Option (D × Ob)} {ds : List (Option D)} {ob : Ob} (h : obj env i = some ob) (q : OkP (f ds ob) fun z => P z.1 (setO env i z.2)) : ioP f i P ds env := ⟨ob, h, q⟩
theorem e_callIo {f : List (Option D) → Ob → Option (D × Ob)} {pv : Env → Option (List (Option D) × Env)} {o0 : Ob} (h0 : obj env i = some o0) (h : OkE (pv env) (ioP f i P)) : OkE (eCallIo f i pv env) P := by
  unfold eCallIo
  rw [h0]
  show OkE ((pv env).bind _) P
  refine k_bindEE (h.imp fun ds e ⟨ob, h1, h2⟩ => ?_)
  show OkE ((obj e i).bind _) P
  rw [h1]
  show OkE ((f ds ob).bind _) P
  exact k_bindPE (h2.imp fun _ q => k_someE q)
def ioPN (f : List (Option D) → Ob → Option (List D × Ob)) (i : Nat) (P : Ob → Env → Prop) (ds : List (Option D)) (e : Env) : Prop := ∃ o, obj e i = some o ∧ OkP (f ds o) fun z => P (.l z.1) (setO e i z.2)
theorem e_io1N {f : List (Option D) → Ob → Option (List D × Ob)} {ds : List (Option D)} {ob : Ob} (h : obj env i = some ob) (q : OkP (f ds ob) fun z => PO (.l z.1) (setO env i z.2)) : ioPN f i PO ds env := ⟨ob, h, q⟩
theorem e_callIoN {f : List (Option D) → Ob → Option (List D × Ob)} {pv : Env → Option (List (Option D) × Env)} {o0 : Ob} (h0 : obj env i = some o0) (h : OkE (pv env) (ioPN f i PO)) : OkE (enCallIo f i pv env) PO := by
  unfold enCallIo
  rw [h0]
  show OkE ((pv env).bind _) PO
  refine k_bindEE (h.imp fun ds e ⟨ob, h1, h2⟩ => ?_)
  show OkE ((obj e i).bind _) PO
  rw [h1]
  show OkE ((f ds ob).bind _) PO
  exact k_bindPE (h2.imp fun _ q => k_someE q)
theorem e_callT {f : List (Option D) → Ob → Option (D × Ob)} (h : OkE (pn env) fun o e => OkE (ps e) fun ds e2 => OkP (f (none :: ds.map some) o) fun z => P z.1 e2) : OkE (eCallT f pn ps env) P := k_bindEE (h.imp fun _ _ h => k_bindEE (h.imp fun _ _ h => k_bindPE (h.imp fun _ q => k_someE q)))
theorem e_callTN {f : List (Option D) → Ob → Option (List D × Ob)} (h : OkE (pn env) fun o e => OkE (ps e) fun ds e2 => OkP (f (none :: ds.map some) o) fun z => PO (.l z.1) e2) : OkE (enCallT f pn ps env) PO := k_bindEE (h.imp fun _ _ h => k_bindEE (h.imp fun _ _ h => k_bindPE (h.imp fun _ q => k_someE q)))
theorem e_frz {e1 : Env} (h : frz1 env i = some e1) (q : OkE (pe e1) P) : OkE (eFrz i pe env) P := k_bindPE ⟨_, h, q⟩
theorem e_ifrz {e1 : Env} (h : frz1 env i = some e1) (q : OkE (ps e1) PA) : OkE (eiFrz i ps env) PA := k_bindPE ⟨_, h, q⟩
theorem e_nfrz {e1 : Env} (h : frz1 env i = some e1) (q : OkE (pn e1) PO) : OkE (enFrz i pn env) PO := k_bindPE ⟨_, h, q⟩
def ixMP (i : Nat) (P : D → Env → Prop) (x : D) (e : Env) : Prop := ∃ ds j d, obj e i = some (.l ds) ∧ x = .int j ∧ atI ds j = some d ∧ P d e
theorem e_ixM1 {ds : List D} {j : Int} (h : obj env i = some (.l ds)) (h2 : atI ds j = some d) (q : P d env) : ixMP i P (.int j) env := ⟨ds, j, d, h, rfl, h2, q⟩
theorem e_ixM {pj : PE'} {o0 : Ob} (h0 : obj env i = some o0) (h : OkE (pj env) (ixMP i P)) : OkE (eIxM i pj env) P := by
  unfold eIxM
  rw [h0]
  show OkE ((pj env).bind _) P
  refine k_bindEE (h.imp fun x e ⟨ds, j, d, h1, h2, h3, q⟩ => ?_)
  subst h2
  show OkE ((obj e i).bind _) P
  rw [h1]
  show OkE ((atI ds j).bind _) P
  rw [h3]
  exact k_someE q
theorem e_addN (h : OkE (pa env) fun d e => OkE (pb e) fun d2 e2 => OkP (onAdd d d2) fun z => PO (.l z) e2) : OkE (enAdd pa pb env) PO := k_bindEE (h.imp fun _ _ h => k_bindEE (h.imp fun _ _ h => k_bindPE (h.imp fun _ q => k_someE q)))
theorem e_cbN {o : List D → Option (List D)} (h : OkE (ps env) fun ds e => OkP (o ds) fun z => PO (.l z) e) : OkE (enCB o ps env) PO := k_bindEE (h.imp fun _ _ h => k_bindPE (h.imp fun _ q => k_someE q))
theorem e_seq (h : OkE (pe env) fun d e => OkP (itm d) fun ds => PA ds e) : OkE (eSeq pe env) PA := k_bindEE (h.imp fun _ _ h => k_bindPE (h.imp fun _ q => k_someE q))
def rngE (PA : List D → Env → Prop) (l : List D) (e : Env) : Prop := ∃ j : Int, l = [.int j] ∧ -(2 ^ 62) ≤ j ∧ j < 2 ^ 62 ∧ PA (rngD 0 j) e
theorem e_rng1 {j : Int} (h1 : -(2 ^ 62) ≤ j) (h2 : j < 2 ^ 62) (q : PA (rngD 0 j) env) : rngE PA [.int j] env := ⟨j, rfl, h1, h2, q⟩
theorem e_rng (h : OkE (ps env) (rngE PA)) : OkE (eRng ps env) PA := by
  obtain ⟨l, e, h1, j, rfl, h2, h3, q⟩ := h
  refine ⟨_, e, ?_, q⟩
  unfold eRng
  rw [h1]
  exact if_pos ⟨h2, h3⟩
theorem e_var {ob : Ob} (h : env[i]? = some (some (.m ob))) (q : PO ob (env.set i none)) : OkE (enVar i env) PO := ⟨_, _, by unfold enVar; rw [h], q⟩
def mutP (f : List D → List D → Option (D × List D)) (i : Nat) (P : D → Env → Prop) (es : List D) (e : Env) : Prop := ∃ ds, obj e i = some (.l ds) ∧ OkP (f ds es) fun z => P z.1 (setO e i (.l z.2))
theorem e_mut1 {f : List D → List D → Option (D × List D)} {ds es : List D} (h : obj env i = some (.l ds)) (q : OkP (f ds es) fun z => P z.1 (setO env i (.l z.2))) : mutP f i P es env := ⟨ds, h, q⟩
theorem e_mut {f : List D → List D → Option (D × List D)} {o0 : List D} (h0 : obj env i = some (.l o0)) (h : OkE (ps env) (mutP f i P)) : OkE (eMut f i ps env) P := by
  unfold eMut
  rw [h0]
  show OkE ((ps env).bind _) P
  refine k_bindEE (h.imp fun es e ⟨ds, h1, h2⟩ => ?_)
  show OkE ((obj e i).bind _) P
  rw [h1]
  show OkE ((f ds es).bind _) P
  exact k_bindPE (h2.imp fun _ q => k_someE q)
theorem e_mut0 {f : List D → List D → Option (D × List D)} {ds : List D} (h0 : obj env i = some (.l ds)) (h : OkP (f ds []) fun z => P z.1 (setO env i (.l z.2))) : OkE (eMut0 f i env) P := by
  unfold eMut0
  rw [h0]
  show OkE ((f ds []).bind _) P
  exact k_bindPE (h.imp fun _ q => k_someE q)
theorem m_append {P : D × List D → Prop} {ds : List D} (h : ds.length < 100000) (q : P (.non, ds ++ [d])) : OkP (mAppend ds [d]) P := ⟨_, if_pos h, q⟩
theorem m_extend {P : D × List D → Prop} {ds es : List D} (h : ds.length + es.length ≤ 100000) (q : P (.non, ds ++ es)) : OkP (mExtend ds [.lst es]) P := ⟨_, if_pos h, q⟩
theorem m_reverse {P : D × List D → Prop} {ds : List D} (q : P (.non, ds.reverse)) : OkP (mReverse ds []) P := ⟨_, rfl, q⟩
theorem m_pop {P : D × List D → Prop} {ds : List D} {j : Int} {k : Nat} (h : -(2 ^ 63) ≤ j ∧ j < 2 ^ 63) (h1 : ixN ds.length j = some k) (h2 : ds[k]? = some d) (q : P (d, ds.eraseIdx k)) : OkP (mPop ds [.int j]) P := ⟨_, by
  show (if -(2 ^ 63) ≤ j ∧ j < 2 ^ 63 then (ixN ds.length j).bind (fun k => ds[k]?.bind fun d => some (d, ds.eraseIdx k)) else none) = _
  rw [if_pos h, h1]; show (ds[k]?).bind _ = _; rw [h2]; rfl, q⟩
/-! comprehensions -/
theorem e_lc {pi : Env → Option (List D × Env)} {pg : PG'} {vs : List Nat} (h : OkE (pi env) (lenE fun items e => vs.all (notIo e) = true ∧ OkE (lcE pg pt pe vs items (wipeF e vs)) fun r e2 => PO (.l r) e2)) : OkE (enLc pi pg pt pe vs env) PO := by
  refine k_bindEE (h.imp fun items e ⟨h1, h2, h3⟩ => ?_)
  show OkE ((wipeE e vs).bind _) PO
  have : wipeE e vs = some (wipeF e vs) := by unfold wipeE; rw [if_pos h2]
  rw [this]
  show OkE (if _ then _ else _) PO
  rw [if_pos h1]
  exact k_bindEE (h3.imp fun _ _ q => k_someE q)
theorem e_yes (q : PB true env) : OkE (eYes env) PB := k_someE q
/-- by an invariant of what is made and of the slots -/
theorem lcE_inv {β : Type} {pg : PG'} {vs : List Nat} (enc : β → D) (I : Nat → List D → Env → Prop) : ∀ (l : List β) (k : Nat) (acc : List D) (e : Env), I k acc e →
    (∀ (j : Nat) (a : β) (acc : List D) (e : Env), k ≤ j → l[j - k]? = some a → I j acc e → OkP (pg (enc a) e) fun e1 => OkE (pt e1) fun b e2 => if b = true then OkE (pe e2) fun y e3 => vs.all (notIo e3) = true ∧ I (j + 1) (acc ++ [y]) (wipeF e3 vs) else vs.all (notIo e2) = true ∧ I (j + 1) acc (wipeF e2 vs)) →
    OkE (lcE pg pt pe vs (l.map enc) e) fun r e2 => I (k + l.length) (acc ++ r) e2
  | [], k, acc, e, h0, _ => k_someE (by rw [List.append_nil]; exact h0)
  | a :: l, k, acc, e, h0, hs => by
    have h1 := hs k a acc e (Nat.le_refl _) (by rw [Nat.sub_self]; rfl) h0
    obtain ⟨e1, g1, b, e2, g2, h3⟩ := h1
    have hs' : ∀ (j : Nat) (a : β) (acc : List D) (e : Env), k + 1 ≤ j → l[j - (k + 1)]? = some a → I j acc e → OkP (pg (enc a) e) fun e1 => OkE (pt e1) fun b e2 => if b = true then OkE (pe e2) fun y e3 => vs.all (notIo e3) = true ∧ I (j + 1) (acc ++ [y]) (wipeF e3 vs) else vs.all (notIo e2) = true ∧ I (j + 1) acc (wipeF e2 vs) := fun j a acc e hj hl hi => by
      refine hs j a acc e (by omega) ?_ hi
      have : j - k = (j - (k + 1)) + 1 := by omega
      rw [this]
      exact hl
    have el : ∀ n, k + 1 + n = k + (n + 1) := fun n => by omega
    rw [List.map_cons, lcE, g1]
    show OkE ((pt e1).bind _) _
    rw [g2]
    cases b with
    | true =>
      obtain ⟨y, e3, g3, g4, g5⟩ := h3
      have ih := lcE_inv enc I l (k + 1) (acc ++ [y]) (wipeF e3 vs) g5 hs'
      show OkE ((pe e2).bind _) _
      rw [g3]
      show OkE ((wipeE e3 vs).bind _) _
      have : wipeE e3 vs = some (wipeF e3 vs) := by unfold wipeE; rw [if_pos g4]
      rw [this]
      refine k_bindEE (ih.imp fun r e4 q => k_someE ?_)
      rw [el, List.append_assoc] at q
      exact q
    | false =>
      obtain ⟨g4, g5⟩ := h3
      have ih := lcE_inv enc I l (k + 1) acc (wipeF e2 vs) g5 hs'
      show OkE ((wipeE e2 vs).bind _) _
      have : wipeE e2 vs = some (wipeF e2 vs) := by unfold wipeE; rw [if_pos g4]
      rw [this]
      refine ih.imp fun r e4 q => ?_
      rw [el] at q
      exact q
theorem e_lcI {β : Type} {pg : PG'} {vs : List Nat} {Q : List D → Env → Prop} (enc : β → D) (I : Nat → List D → Env → Prop) {l : List β} {e : Env} (h0 : I 0 [] e)
    (hs : ∀ (j : Nat) (a : β) (acc : List D) (e : Env), l[j]? = some a → I j acc e → OkP (pg (enc a) e) fun e1 => OkE (pt e1) fun b e2 => if b = true then OkE (pe e2) fun y e3 => vs.all (notIo e3) = true ∧ I (j + 1) (acc ++ [y]) (wipeF e3 vs) else vs.all (notIo e2) = true ∧ I (j + 1) acc (wipeF e2 vs))
    (hd : ∀ r e, I l.length r e → Q r e) : OkE (lcE pg pt pe vs (l.map enc) e) Q := by
  refine (lcE_inv enc I l 0 [] e h0 fun j a acc e _ hl hi => hs j a acc e (by simpa using hl) hi).imp fun r e2 q => hd r e2 ?_
  rw [Nat.zero_add, List.nil_append] at q
  exact q
end
/-! ### statements -/
section
variable {N : Env → Prop} {T : D → Env → Prop} {TN : Ob → Env → Prop} {env : Env} {i : Nat} {d : D} {pe : PE'} {pn : Env → Option (Ob × Env)} {pt : Env → Option (Bool × Env)} {ps pu : PS'} {pg : PG'}
theorem s_next (q : N env) : SW (sNext env) N T TN := ⟨_, rfl, q⟩
theorem s_bindE {α : Type} {x : Option (α × Env)} {f : α × Env → Option Out} (h : OkE x fun a e => SW (f (a, e)) N T TN) : SW (x.bind f) N T TN := by
  obtain ⟨a, e, h1, h2⟩ := h
  rw [h1]; exact h2
theorem s_bindP {α : Type} {x : Option α} {f : α → Option Out} (h : OkP x fun a => SW (f a) N T TN) : SW (x.bind f) N T TN := by
  obtain ⟨a, h1, h2⟩ := h
  rw [h1]; exact h2
theorem s_seq (h : SW (ps env) (fun e => SW (pu e) N T TN) T TN) : SW (sSeq ps pu env) N T TN := by
  obtain ⟨o, h1, h2⟩ := h
  unfold sSeq
  rw [h1]
  cases o with
  | nx e => exact h2
  | rt d e => exact ⟨_, rfl, h2⟩
  | rtN d e => exact ⟨_, rfl, h2⟩
  | bk e => exact h2.elim
  | ct e => exact h2.elim
theorem SW.imp {x : Option Out} {N' : Env → Prop} {T' : D → Env → Prop} (h : SW x N' T' TN) (hn : ∀ e, N' e → N e) (ht : ∀ d e, T' d e → T d e) : SW x N T TN := by
  obtain ⟨o, h1, h2⟩ := h
  refine ⟨o, h1, ?_⟩
  cases o with
  | nx e => exact hn e h2
  | rt d e => exact ht d e h2
  | rtN d e => exact h2
  | bk e => exact h2
  | ct e => exact h2
theorem s_mid (M : Env → Prop) (h : SW (ps env) M T TN) (h2 : ∀ e, M e → SW (pu e) N T TN) : SW (sSeq ps pu env) N T TN := s_seq (h.imp h2 fun _ _ h => h)
theorem s_if (h : OkE (pt env) fun b e => if b = true then SW (ps e) N T TN else SW (pu e) N T TN) : SW (sIf pt ps pu env) N T TN := s_bindE (h.imp fun b e q => by cases b with | true => exact q | false => exact q)
theorem s_ret (h : OkE (pe env) T) : SW (sRet pe env) N T TN := s_bindE (h.imp fun _ _ q => ⟨_, rfl, q⟩)
theorem s_retO (q : T .non env) : SW (sRetO env) N T TN := ⟨_, rfl, q⟩
theorem s_retN (h : OkE (pn env) TN) : SW (sRetN pn env) N T TN := s_bindE (h.imp fun _ _ q => ⟨_, rfl, q⟩)
theorem s_asg (h : OkE (pe env) fun d e => OkP (pg d e) N) : SW (sAsg pe pg env) N T TN := s_bindE (h.imp fun _ _ h => s_bindP (h.imp fun _ q => ⟨_, rfl, q⟩))
theorem notIo_of {z : Option D} (h : env[i]? = some (z.map C.v)) : notIo env i = true := by
  unfold notIo
  rw [h]
  cases z <;> rfl
theorem s_tN {Q : Env → Prop} (h : notIo env i = true) (q : Q (env.set i (some (.v d)))) : OkP (tN i d env) Q := ⟨_, by unfold tN; rw [if_pos h], q⟩
def subP (i : Nat) (d : D) (Q : Env → Prop) (x : D) (e : Env) : Prop := ∃ ds j k, obj e i = some (.l ds) ∧ x = .int j ∧ ixN ds.length j = some k ∧ Q (setO e i (.l (ds.set k d)))
theorem s_sub1 {Q : Env → Prop} {ds : List D} {j : Int} {k : Nat} (h : obj env i = some (.l ds)) (h2 : ixN ds.length j = some k) (q : Q (setO env i (.l (ds.set k d)))) : subP i d Q (.int j) env := ⟨ds, j, k, h, rfl, h2, q⟩
theorem s_sub {Q : Env → Prop} {pj : PE'} {o0 : Ob} (h0 : obj env i = some o0) (h : OkE (pj env) (subP i d Q)) : OkP (tSub i pj d env) Q := by
  unfold tSub
  rw [h0]
  show OkP ((pj env).bind _) Q
  refine k_bindE (h.imp fun x e ⟨ds, j, k, h1, h2, h3, q⟩ => ?_)
  subst h2
  show OkP ((obj e i).bind _) Q
  rw [h1]
  show OkP ((ixN ds.length j).bind _) Q
  rw [h3]
  exact k_some q
theorem s_asgN (h : OkE (pn env) fun o e => notIo e i = true ∧ N (e.set i (some (.m o)))) : SW (sAsgN pn i env) N T TN := s_bindE (h.imp fun o e q => by
  show SW (if _ then _ else _) N T TN
  rw [if_pos q.1]; exact ⟨_, rfl, q.2⟩)
theorem s_drop (h : OkE (pe env) fun _ e => N e) : SW (sDrop pe env) N T TN := s_bindE (h.imp fun _ _ q => ⟨_, rfl, q⟩)
theorem s_aug {o : D → D → Option D} (h0 : env[i]? = some (some (.v d))) (h : OkE (pe env) fun x e => OkP (o d x) fun z => notIo e i = true ∧ N (e.set i (some (.v z)))) : SW (sAug i pe o env) N T TN := by
  unfold sAug
  rw [h0]
  show SW ((pe env).bind _) N T TN
  refine s_bindE (h.imp fun x e h => s_bindP (h.imp fun z q => ?_))
  rw [if_pos q.1]
  exact ⟨_, rfl, q.2⟩
theorem w_wnil {PW : List AV → Env → Prop} (q : PW [] env) : OkE (wNil env) PW := k_someE q
theorem w_wcons {PW : List AV → Env → Prop} {pw : Env → Option (List AV × Env)} (h : OkE (pe env) fun d e => OkE (pw e) fun ds e2 => PW (.d d :: ds) e2) : OkE (wCons pe pw env) PW := k_bindEE (h.imp fun _ _ h => k_bindEE (h.imp fun _ _ q => k_someE q))
theorem w_wnew {PW : List AV → Env → Prop} {pw : Env → Option (List AV × Env)} (h : OkE (pn env) fun d e => OkE (pw e) fun ds e2 => PW (.n d :: ds) e2) : OkE (wNew pn pw env) PW := k_bindEE (h.imp fun _ _ h => k_bindEE (h.imp fun _ _ q => k_someE q))
def parP (i j : Nat) (N : Env → Prop) (l : List AV) (e : Env) : Prop := ∃ a b, l = [a, b] ∧ OkP (setAV e i a) fun e1 => OkP (setAV e1 j b) N
theorem s_par1 {a b : AV} {j : Nat} (h : OkP (setAV env i a) fun e1 => OkP (setAV e1 j b) N) : parP i j N [a, b] env := ⟨a, b, rfl, h⟩
theorem s_avD {Q : Env → Prop} (h : notIo env i = true) (q : Q (env.set i (some (.v d)))) : OkP (setAV env i (.d d)) Q := ⟨_, if_pos h, q⟩
theorem s_avN {Q : Env → Prop} {o : Ob} (h : notIo env i = true) (q : Q (env.set i (some (.m o)))) : OkP (setAV env i (.n o)) Q := ⟨_, if_pos h, q⟩
theorem s_par {j : Nat} {pw : Env → Option (List AV × Env)} (h : OkE (pw env) (parP i j N)) : SW (sPar i j pw env) N T TN := by
  refine s_bindE (h.imp fun l e ⟨a, b, h1, h2⟩ => ?_)
  subst h1
  exact s_bindP (h2.imp fun e1 h => s_bindP (h.imp fun e2 q => ⟨_, rfl, q⟩))
def parP3 (i j k : Nat) (N : Env → Prop) (l : List AV) (e : Env) : Prop := ∃ a b c, l = [a, b, c] ∧ OkP (setAV e i a) fun e1 => OkP (setAV e1 j b) fun e2 => OkP (setAV e2 k c) N
theorem s_par31 {a b c : AV} {j k : Nat} (h : OkP (setAV env i a) fun e1 => OkP (setAV e1 j b) fun e2 => OkP (setAV e2 k c) N) : parP3 i j k N [a, b, c] env := ⟨a, b, c, rfl, h⟩
theorem s_par3 {j k : Nat} {pw : Env → Option (List AV × Env)} (h : OkE (pw env) (parP3 i j k N)) : SW (sPar3 i j k pw env) N T TN := by
  refine s_bindE (h.imp fun l e ⟨a, b, c, h1, h2⟩ => ?_)
  subst h1
  exact s_bindP (h2.imp fun e1 h => s_bindP (h.imp fun e2 h => s_bindP (h.imp fun e3 q => ⟨_, rfl, q⟩)))
/-- a loop by an invariant -/
theorem pfor_inv {β : Type} (enc : β → D) (I : Nat → Env → Prop) : ∀ (l : List β) (k : Nat) (e : Env), I k e →
    (∀ (j : Nat) (a : β) (e : Env), k ≤ j → l[j - k]? = some a → I j e → OkP (pg (enc a) e) fun e1 => SW (ps e1) (I (j + 1)) T TN) → (∀ e, I (k + l.length) e → N e) → SW (pfor pg ps (l.map enc) e) N T TN
  | [], k, e, h0, _, hd => ⟨_, rfl, hd e h0⟩
  | a :: l, k, e, h0, hs, hd => by
    obtain ⟨e1, g1, o, g2, g3⟩ := hs k a e (Nat.le_refl _) (by rw [Nat.sub_self]; rfl) h0
    rw [List.map_cons, pfor, g1]
    show SW ((ps e1).bind _) N T TN
    rw [g2]
    cases o with
    | nx e2 =>
      refine pfor_inv enc I l (k + 1) e2 g3 (fun j a e hj hl hi => hs j a e (by omega) ?_ hi) fun e h => hd e ?_
      · have : j - k = (j - (k + 1)) + 1 := by omega
        rw [this]; exact hl
      · have : k + (l.length + 1) = k + 1 + l.length := by omega
        rw [List.length_cons, this]; exact h
    | rt d e2 => exact ⟨_, rfl, g3⟩
    | rtN d e2 => exact ⟨_, rfl, g3⟩
    | bk e2 => exact g3.elim
    | ct e2 => exact g3.elim
theorem s_forI {β : Type} (enc : β → D) (I : Nat → Env → Prop) {l : List β} {e : Env} (h0 : I 0 e) (hs : ∀ (j : Nat) (a : β) (e : Env), l[j]? = some a → I j e → OkP (pg (enc a) e) fun e1 => SW (ps e1) (I (j + 1)) T TN) (hd : ∀ e, I l.length e → N e) : SW (pfor pg ps (l.map enc) e) N T TN :=
  pfor_inv enc I l 0 e h0 (fun j a e _ hl hi => hs j a e (by simpa using hl) hi) (fun e h => hd e (by rw [Nat.zero_add] at h; exact h))
theorem s_for {pi : Env → Option (List D × Env)} (h : OkE (pi env) fun items e => SW (pfor pg ps items e) N T TN) : SW (sFor pi pg ps env) N T TN := s_bindE h
/-- a while by a measure -/
theorem pwhile_inv (I : Nat → Env → Prop) : ∀ (n m : Nat) (e : Env), m < n → I m e →
    (∀ (m : Nat) (e : Env), I m e → OkE (pt e) fun b e1 => if b = true then SW (ps e1) (fun e2 => ∃ m', m' < m ∧ I m' e2) T TN else N e1) → SW (pwhile pt ps n e) N T TN
  | 0, m, e, h, _, _ => by omega
  | n + 1, m, e, h, h0, hs => by
    obtain ⟨b, e1, g1, g2⟩ := hs m e h0
    rw [pwhile, g1]
    cases b with
    | false => exact ⟨_, rfl, g2⟩
    | true =>
      obtain ⟨o, g3, g4⟩ := g2
      show SW ((ps e1).bind _) N T TN
      rw [g3]
      cases o with
      | nx e2 =>
        obtain ⟨m', h1, h2⟩ := g4
        exact pwhile_inv I n m' e2 (by omega) h2 hs
      | rt d e2 => exact ⟨_, rfl, g4⟩
      | rtN d e2 => exact ⟨_, rfl, g4⟩
      | bk e2 => exact g4.elim
      | ct e2 => exact g4.elim
theorem s_while (I : Nat → Env → Prop) (m : Nat) (hm : m < 1000000) (h0 : I m env) (hs : ∀ (m : Nat) (e : Env), I m e → OkE (pt e) fun b e1 => if b = true then SW (ps e1) (fun e2 => ∃ m', m' < m ∧ I m' e2) T TN else N e1) : SW (sWhile pt ps env) N T TN := pwhile_inv I turns m env hm h0 hs
/-! defs -/
theorem f0_of {k n : Nat} {pb : PS'} {ds : List D} {P : D → Prop} (h : ds.length = k) (q : SW (pb (env0 n ds)) (fun _ => P .non) (fun d _ => P d) (fun _ _ => False)) : OkP (fn0 k n pb ds) P := by
  unfold fn0
  rw [if_pos h]
  obtain ⟨o, h1, h2⟩ := q
  rw [h1]
  cases o with
  | nx e => exact ⟨_, rfl, h2⟩
  | rt d e => exact ⟨_, rfl, h2⟩
  | _ => exact h2.elim
theorem f0N_of {k n : Nat} {pb : PS'} {ds : List D} {P : List D → Prop} (h : ds.length = k) (q : SW (pb (env0 n ds)) (fun _ => False) (fun _ _ => False) (fun o _ => match o with | .l ds => P ds | .st _ _ => False | .dk _ _ => False)) : OkP (fn0N k n pb ds) P := by
  unfold fn0N
  rw [if_pos h]
  obtain ⟨o, h1, h2⟩ := q
  rw [h1]
  cases o with
  | rtN d e => cases d with
    | l ds => exact ⟨_, rfl, h2⟩
    | st _ _ => exact h2.elim
    | dk _ _ => exact h2.elim
  | _ => exact h2.elim
theorem f1_of {k n : Nat} {pb : PS'} {avs : List (Option D)} {ob : Ob} {P : D × Ob → Prop} (h : avs.length = k) (h1 : (avs.filter Option.isNone).length = 1)
    (q : SW (pb (env1 n avs ob)) (fun e => ∃ o', out1 e = some o' ∧ P (.non, o')) (fun d e => ∃ o', out1 e = some o' ∧ P (d, o')) (fun _ _ => False)) : OkP (fn1 k n pb avs ob) P := by
  unfold fn1
  rw [if_pos ⟨h, h1⟩]
  obtain ⟨o, h1, h2⟩ := q
  rw [h1]
  cases o with
  | nx e => obtain ⟨o', g1, g2⟩ := h2; exact ⟨_, by show (out1 e).bind _ = _; rw [g1]; rfl, g2⟩
  | rt d e => obtain ⟨o', g1, g2⟩ := h2; exact ⟨_, by show (out1 e).bind _ = _; rw [g1]; rfl, g2⟩
  | _ => exact h2.elim
theorem f1N_of {k n : Nat} {pb : PS'} {avs : List (Option D)} {ob : Ob} {P : List D × Ob → Prop} (h : avs.length = k) (h1 : (avs.filter Option.isNone).length = 1)
    (q : SW (pb (env1 n avs ob)) (fun _ => False) (fun _ _ => False) (fun d e => ∃ ds o', d = .l ds ∧ out1 e = some o' ∧ P (ds, o'))) : OkP (fn1N k n pb avs ob) P := by
  unfold fn1N
  rw [if_pos ⟨h, h1⟩]
  obtain ⟨o, h1, h2⟩ := q
  rw [h1]
  cases o with
  | rtN d e => obtain ⟨ds, o', rfl, g1, g2⟩ := h2; exact ⟨_, by show (out1 e).bind _ = _; rw [g1]; rfl, g2⟩
  | _ => exact h2.elim
end
end MA
/-! QX: more operations on data. -/
namespace MA
open PySem PySem.Spec PyProof.Rows L2 SX
section
variable {K : PySem.W.Frag} {G H : Hp} {L : List (Addr × HO)} {Q : VK}
def inos : List D → Option (List Int)
  | [] => some []
  | .int i :: l => (inos l).bind fun r => some (i :: r)
  | _ => none
theorem inos_ok : ∀ {ds : List D} {ns : List Int} {xs : List V}, inos ds = some ns → RA K G ds xs → xs = ns.map V.int
  | [], _, _, h, r => by cases h; rw [RA] at r; exact r
  | .int i :: ds, _, _, h, r => by
    obtain ⟨ms, h1, h2⟩ := bind_some h
    cases h2
    rw [RA] at r
    obtain ⟨v, r', rfl, q1, q2⟩ := r
    rw [R] at q1
    rw [q1, inos_ok h1 q2]
    rfl
theorem inos_map : ∀ ns : List Int, inos (ns.map D.int) = some ns
  | [] => rfl
  | i :: ns => by show (inos (ns.map D.int)).bind _ = _; rw [inos_map ns]; rfl
def oSum : List D → Option D
  | [.lst l] => (inos l).bind fun ns => some (.int ns.sum)
  | [.tup l] => (inos l).bind fun ns => some (.int ns.sum)
  | _ => none
theorem ro_sum : RefOL K (rSumU K) oSum := by
  intro G L H Q ds z xs h hd n q
  unfold oSum at h
  split at h
  · obtain ⟨v, rfl, r⟩ := RA1 hd
    rw [R] at r
    obtain ⟨a, xs, rfl, h1, h2⟩ := r
    obtain ⟨bs, h3, h4⟩ := bind_some h
    cases h4
    rw [inos_ok h3 h2] at h1
    exact .inl ⟨a, bs, rfl, sqL (n.ex _ _ h1), q _ _ _ (Ex.refl _) (by rw [R]) n⟩
  · obtain ⟨v, rfl, r⟩ := RA1 hd
    rw [R] at r
    obtain ⟨a, xs, rfl, h1, h2⟩ := r
    obtain ⟨bs, h3, h4⟩ := bind_some h
    cases h4
    rw [inos_ok h3 h2] at h1
    exact .inr ⟨a, bs, rfl, st_ex n.Ex h1, q _ _ _ (Ex.refl _) (by rw [R]) n⟩
  · cases h
/-- a new list in either case -/
def pnIf (pt : Env → Option Bool) (pa pb : Env → Option (List D)) : Env → Option (List D) := fun env => (pt env).bind fun b => if b then pa env else pb env
theorem rp_ifN {t1 : TT} {ta tb : TE} {pt : Env → Option Bool} {pa pb : Env → Option (List D)} (h : RefPT K t1 pt) (ha : RefPN K ta pa) (hb : RefPN K tb pb) : RefPN K (tIf t1 ta tb) (pnIf pt pa pb) := by
  intro G L env σ H Q ds e re n q
  obtain ⟨x, e1, e2⟩ := bind_some e
  refine h e1 re n fun G1 H1 x1 n1 => ?_
  cases x with
  | true => exact ha e2 (re.ex x1) n1 fun p xs G2 H2 x2 r2 n2 => q _ _ _ _ (x1.trans x2) r2 n2
  | false => exact hb e2 (re.ex x1) n1 fun p xs G2 H2 x2 r2 n2 => q _ _ _ _ (x1.trans x2) r2 n2
theorem k_ifN {pt : Env → Option Bool} {pa pb : Env → Option (List D)} {env : Env} {PA : List D → Prop} (h : OkP (pt env) fun b => if b = true then OkP (pa env) PA else OkP (pb env) PA) : OkP (pnIf pt pa pb env) PA := k_bind (h.imp fun b q => by cases b with | true => exact q | false => exact q)
/-- bool(x) of a number, a truth -/
def oBool : List D → Option D
  | [.int i] => some (.bl (i != 0))
  | [.bl b] => some (.bl b)
  | _ => none
theorem ro_bool : RefOL K rBool1 oBool := by
  intro G L H Q ds z xs h hd n q
  unfold oBool at h
  split at h
  · obtain ⟨v, rfl, r⟩ := RA1 hd
    rw [R] at r; subst r; cases h
    exact .inl ⟨_, rfl, q _ _ _ (Ex.refl _) (by rw [R]) n⟩
  · obtain ⟨v, rfl, r⟩ := RA1 hd
    rw [R] at r; subst r; cases h
    exact .inr ⟨_, rfl, q _ _ _ (Ex.refl _) (by rw [R]) n⟩
  · cases h
def isBin (c : Nat) : Bool := c == 48 || c == 49
theorem isBin_of {c : Nat} (h : isBin c = true) : Bn.IsBin c := by
  unfold isBin at h
  rw [Bool.or_eq_true, beq_iff_eq, beq_iff_eq] at h
  exact h
def oIntBin : List D → Option D
  | [.str l, .int j] => if j = 2 ∧ l.isEmpty = false ∧ l.length ≤ 640 ∧ l.all isBin = true then some (.int ((Bn.binNum l : Nat) : Int)) else none
  | _ => none
theorem ro_intBin : RefOL K rIntBin oIntBin := by
  intro G L H Q ds z xs h hd n q
  unfold oIntBin at h
  split at h
  · obtain ⟨v, w, rfl, r, r2⟩ := RA2 hd
    rw [R] at r; subst r; rw [R] at r2; subst r2
    split at h
    · rename_i l j hj; cases h
      obtain ⟨rfl, h1, h2, h3⟩ := hj
      exact ⟨l, rfl, (fun e => by rw [e] at h1; cases h1), h2, fun c hc => isBin_of (List.all_eq_true.mp h3 c hc), q _ _ _ (Ex.refl _) (by rw [R]) n⟩
    · cases h
  · cases h
end
/-! ### a look at what may change that tells no list -/
mutual
def nl : D → Bool
  | .tup l => nls l
  | .lst _ => false
  | .scr _ => false
  | .dic _ _ => false
  | _ => true
def nls : List D → Bool
  | [] => true
  | d :: l => nl d && nls l
end
section
variable {K : PySem.W.Frag} {G G' H H' : Hp} {L Lo : List (Addr × HO)}
/-- but for these -/
def less (G : Hp) (Lo : List (Addr × HO)) : Hp := fun a => if a ∈ Lo.map (·.1) then none else G a
/-- may not change -/
def nM : HO → Prop
  | .lst _ => False
  | .dK _ => False
  | _ => True
theorem Rel.lsts {as : List Addr} {env : Env} {σ : L2.St} (r : Rel K G as env σ Lo) : ∀ q ∈ Lo, ¬ nM q.2 := by
  have ro : ∀ {o : Ob} {p : Addr} {cs : List (Addr × HO)}, RO K G o p cs → ∀ q ∈ cs, ¬ nM q.2 := fun {o p cs} ho q hq => by
    cases o with
    | l ds =>
      obtain ⟨xs, rfl, _⟩ := ho
      rw [List.mem_singleton.mp hq]
      exact fun h => h
    | st ns t =>
      obtain ⟨p2, rfl⟩ := ho
      rcases List.mem_cons.mp hq with e | e
      · rw [e]; exact fun h => h
      · rw [List.mem_singleton.mp e]; exact fun h => h
    | dk ks vs =>
      obtain ⟨kvs, rfl, _⟩ := ho
      rw [List.mem_singleton.mp hq]
      exact fun h => h
  induction r with
  | nil => exact fun _ h => nomatch h
  | emp _ ih => exact ih
  | val _ _ ih => exact ih
  | own h _ ih =>
    intro q hq
    rcases List.mem_append.mp hq with e | hq
    · exact ro h q e
    · exact ih q hq
  | io h _ ih =>
    intro q hq
    rcases List.mem_append.mp hq with e | hq
    · exact ro h q e
    · exact ih q hq
mutual
theorem R_nl (hg : ∀ a u, nM u → G' a = some u → G a = some u) : ∀ (d : D) (v : V), nl d = true → R K G' d v → R K G d v
  | .non, _, _, h => h
  | .bl _, _, _, h => h
  | .int _, _, _, h => h
  | .str _, _, _, h => h
  | .lst _, _, hn, _ => nomatch hn
  | .scr _, _, hn, _ => nomatch hn
  | .tup ds, v, hn, h => by
    rw [R] at h ⊢
    obtain ⟨a, xs, rfl, h1, h2⟩ := h
    refine ⟨a, xs, rfl, ?_, RA_nl hg ds xs (by rw [nl] at hn; exact hn) h2⟩
    rcases h1 with (h1 | ⟨o, h1⟩) | h1
    · exact .inl (.inl (hg _ _ trivial h1))
    · exact .inl (.inr ⟨o, hg _ _ trivial h1⟩)
    · exact .inr h1
theorem RA_nl (hg : ∀ a u, nM u → G' a = some u → G a = some u) : ∀ (ds : List D) (xs : List V), nls ds = true → RA K G' ds xs → RA K G ds xs
  | [], _, _, h => h
  | d :: ds, _, hn, h => by
    rw [nls, Bool.and_eq_true] at hn
    rw [RA] at h ⊢
    obtain ⟨v, r, rfl, h1, h2⟩ := h
    exact ⟨v, r, rfl, R_nl hg d v hn.1 h1, RA_nl hg ds r hn.2 h2⟩
end
theorem Now.thawL {L' : List (Addr × HO)} (n : Now G (Lo ++ L) H) (e : MA.Ex (ov G Lo) G') (n' : Now G' (L' ++ L) H') (hd : ∀ q ∈ L', q.1 ∉ Lo.map (·.1)) : Now (less G' Lo) (Lo ++ (L' ++ L)) H' where
  ex := fun a u h => by
    unfold less at h
    split at h
    · cases h
    · exact n'.ex a u h
  mu := fun x hx => by
    rcases List.mem_append.mp hx with h | h
    · have hd := n.nd
      rw [List.map_append, List.nodup_append] at hd
      exact n'.ex _ _ (e _ _ (ov_mem hd.1 h))
    · exact n'.mu x h
  ap := fun x hx => by
    unfold less
    split
    · rfl
    · rename_i hm
      rcases List.mem_append.mp hx with h | h
      · exact absurd (List.mem_map.mpr ⟨x, h, rfl⟩) hm
      · exact n'.ap x h
  nd := by
    rw [List.map_append, List.nodup_append]
    have hn := n.nd
    rw [List.map_append, List.nodup_append] at hn
    refine ⟨hn.1, n'.nd, fun a ha b hb hab => ?_⟩
    rw [List.map_append] at hb
    rcases List.mem_append.mp hb with hb | hb
    · obtain ⟨q, hq, rfl⟩ := List.mem_map.mp hb
      exact hd q hq (hab ▸ ha)
    · exact hn.2.2 a ha b hb hab
theorem less_ex (n : Now G (Lo ++ L) H) (e : MA.Ex (ov G Lo) G') : MA.Ex G (less G' Lo) := fun a u h => by
  unfold less
  rw [if_neg]
  · exact e a u (n.ovEx a u h)
  · intro hm
    obtain ⟨q, hq, rfl⟩ := List.mem_map.mp hm
    have := n.ap q (List.mem_append_left _ hq)
    rw [this] at h; cases h
theorem less_hg (n : Now G (Lo ++ L) H) (e : MA.Ex (ov G Lo) G') (hl : ∀ q ∈ Lo, ¬ nM q.2) : ∀ a u, nM u → G' a = some u → less G' Lo a = some u := fun a u hu h => by
  unfold less
  rw [if_neg]
  · exact h
  · intro hm
    obtain ⟨q, hq, rfl⟩ := List.mem_map.mp hm
    have hd := n.nd
    rw [List.map_append, List.nodup_append] at hd
    have h2 := e _ _ (ov_mem (G := G) hd.1 hq)
    rw [h2] at h
    cases h
    exact hl q hq hu
def eQ (pe : PP) : PE' := fun env => (pe env).bind fun d => if nl d then some (d, env) else none
theorem ref_eQ {te : TE} {pe : PP} (h : RefP K te pe) : RefE K te (eQ pe) := by
  intro G L as env env' σ H Q d e ⟨Lo, r, n⟩ q
  obtain ⟨a, e1, e2⟩ := bind_some e
  split at e2
  · rename_i hs
    cases e2
    refine h e1 (r.relF n) n.frzAll fun v G' H' x rd n' => q v (less G' Lo) H' (less_ex n x) (R_nl (less_hg n x r.lsts) _ _ hs rd) ⟨Lo, r.ex (less_ex n x), ?_⟩
    exact n.thawL (L' := []) x n' (fun _ h => nomatch h)
  · cases e2
def eQN (pn : Env → Option (List D)) : Env → Option (Ob × Env) := fun env => (pn env).bind fun ds => if nls ds then some (.l ds, env) else none
theorem ref_eQN {te : TE} {pn : Env → Option (List D)} (h : RefPN K te pn) : RefEN K te (eQN pn) := by
  intro G L as env env' σ H Q d e ⟨Lo, r, n⟩ q
  obtain ⟨a, e1, e2⟩ := bind_some e
  split at e2
  · rename_i hs
    cases e2
    refine h e1 (r.relF n) n.frzAll fun p xs G' H' x rd n' => q p _ (less G' Lo) H' (less_ex n x) ⟨xs, rfl, RA_nl (less_hg n x r.lsts) _ _ hs rd⟩ ⟨Lo, r.ex (less_ex n x), ?_⟩
    refine n.thawL (L' := [(p, .lst xs)]) x n' fun q hq hm => ?_
    rw [List.mem_singleton.mp hq] at hm
    obtain ⟨q2, hq2, e3⟩ := List.mem_map.mp hm
    have hd := n.nd
    rw [List.map_append, List.nodup_append] at hd
    have h2 := x _ _ (ov_mem (G := G) hd.1 hq2)
    have h3 := n'.ap (p, .lst xs) (List.mem_cons_self ..)
    rw [e3] at h2
    rw [h2] at h3
    cases h3
  · cases e2
/-- list(x), x a list that may change -/
def enCopy (i : Nat) : Env → Option (Ob × Env) := fun env => (obj env i).bind fun o => match o with
  | .l ds => some (.l ds, env)
  | .st _ _ => none
  | .dk _ _ => none
theorem re_copy (i : Nat) : RefEN K (tCB (rListU K) (tCons (tVar i) tNil)) (enCopy i) := by
  intro G L as env env' σ H Q o e w q
  obtain ⟨o0, z0, e⟩ := bind_some e
  obtain ⟨Lo, re, n⟩ := w
  obtain ⟨p0, h0, L0, q1, q2, q3, _⟩ := re.obj z0
  cases o0 with
  | st _ _ => cases e
  | dk _ _ => cases e
  | l ds =>
    cases e
    obtain ⟨xs, rfl, ra⟩ := q2
    have n2 := n.permL q3
    refine w_cb (w_cons ⟨_, q1, ?_⟩)
    exact .inl ⟨p0, xs, rfl, .inl (sqL n2.get0), fun p hp => q p _ G _ (Ex.refl _) ⟨xs, rfl, ra⟩ ⟨Lo, re, midN (n.newL hp)⟩⟩
theorem e_copy {i : Nat} {env : Env} {PO : Ob → Env → Prop} {o0 : List D} (h : obj env i = some (.l o0)) (q : PO (.l o0) env) : OkE (enCopy i env) PO := ⟨.l o0, env, by unfold enCopy; rw [h]; rfl, q⟩
theorem Wd.newH {as : List Addr} {env : Env} {σ : L2.St} {p : Addr} {o : HO} (w : Wd K G L as env σ H) (h : H p = none) : Wd K G L as env σ (upd H p o) := by
  obtain ⟨Lo, r, n⟩ := w
  exact ⟨Lo, r, n.new h⟩
/-- by way of a tuple -/
theorem rs_parT {ta : TA} {i j : Nat} {pw : Env → Option (List AV × Env)} (h : RefEW K ta pw) : RefS K (tAsg (tTup ta) (gSq K 2 (gCons (gName i) (gCons (gName j) gNil)))) (sPar i j pw) := by
  intro G L as env σ H E out e w q
  obtain ⟨⟨x, e1⟩, z1, z2⟩ := bind_some e
  match x, z1, z2 with
  | [a, b], z1, z2 =>
    obtain ⟨e2, z3, z4⟩ := bind_some z2
    obtain ⟨e3, z5, z6⟩ := bind_some z4
    cases z6
    refine w_asg (w_tup (h z1 w fun vs Ln G1 H1 x1 r1 w1 => ?_))
    obtain ⟨v, rs, L1, rfl, r2, w2⟩ := w1.setAV z3 r1
    obtain ⟨v2, rs2, L2, rfl, r3, w3⟩ := w2.setAV z5 r2
    obtain ⟨rfl, rfl⟩ := r3
    refine ⟨by show 2 ≤ _; decide, fun p hp => ?_⟩
    exact ⟨p, _, rfl, .inl (.inl (.inl upd_same)), rfl, w_gcons (w_gname (w_gcons (w_gname (w_gnil (q _ _ _ x1 (w3.newH hp))))))⟩
theorem rs_par3T {ta : TA} {i j k : Nat} {pw : Env → Option (List AV × Env)} (h : RefEW K ta pw) : RefS K (tAsg (tTup ta) (gSq K 3 (gCons (gName i) (gCons (gName j) (gCons (gName k) gNil))))) (sPar3 i j k pw) := by
  intro G L as env σ H E out e w q
  obtain ⟨⟨x, e1⟩, z1, z2⟩ := bind_some e
  match x, z1, z2 with
  | [a, b, c], z1, z2 =>
    obtain ⟨e2, z3, z4⟩ := bind_some z2
    obtain ⟨e3, z5, z6⟩ := bind_some z4
    obtain ⟨e4, z7, z8⟩ := bind_some z6
    cases z8
    refine w_asg (w_tup (h z1 w fun vs Ln G1 H1 x1 r1 w1 => ?_))
    obtain ⟨v, rs, L1, rfl, r2, w2⟩ := w1.setAV z3 r1
    obtain ⟨v2, rs2, L2, rfl, r3, w3⟩ := w2.setAV z5 r2
    obtain ⟨v3, rs3, L3, rfl, r4, w4⟩ := w3.setAV z7 r3
    obtain ⟨rfl, rfl⟩ := r4
    refine ⟨by show 3 ≤ _; decide, fun p hp => ?_⟩
    exact ⟨p, _, rfl, .inl (.inl (.inl upd_same)), rfl, w_gcons (w_gname (w_gcons (w_gname (w_gcons (w_gname (w_gnil (q _ _ _ x1 (w4.newH hp))))))))⟩
def nlK (PE : D → Env → Prop) (env : Env) (d : D) : Prop := nl d = true ∧ PE d env
theorem k_nlK {PE : D → Env → Prop} {env : Env} {d : D} (h : nl d = true) (q : PE d env) : nlK PE env d := ⟨h, q⟩
theorem e_Q {pe : PP} {env : Env} {PE : D → Env → Prop} (h : OkP (pe env) (nlK PE env)) : OkE (eQ pe env) PE := by
  obtain ⟨d, h1, h2, h3⟩ := h
  exact ⟨d, env, by unfold eQ; rw [h1]; show (if nl d = true then _ else _) = _; rw [if_pos h2], h3⟩
def nlsK (PO : Ob → Env → Prop) (env : Env) (ds : List D) : Prop := nls ds = true ∧ PO (.l ds) env
theorem k_nlsK {PO : Ob → Env → Prop} {env : Env} {ds : List D} (h : nls ds = true) (q : PO (.l ds) env) : nlsK PO env ds := ⟨h, q⟩
theorem e_QN {pn : Env → Option (List D)} {env : Env} {PO : Ob → Env → Prop} (h : OkP (pn env) (nlsK PO env)) : OkE (eQN pn env) PO := by
  obtain ⟨ds, h1, h2, h3⟩ := h
  exact ⟨.l ds, env, by unfold eQN; rw [h1]; show (if nls ds = true then _ else _) = _; rw [if_pos h2], h3⟩
theorem nls_of {ds : List D} (h : ∀ d ∈ ds, nl d = true) : nls ds = true := by
  induction ds with
  | nil => rfl
  | cons d ds ih => rw [nls, Bool.and_eq_true]; exact ⟨h d (List.mem_cons_self ..), ih fun d' m => h d' (List.mem_cons_of_mem _ m)⟩
end
section
variable {P : D → Prop} {ds : List D} {l : List Nat}
theorem o_sumL {ns : List Int} (h : ds = ns.map D.int) (q : P (.int ns.sum)) : OkP (oSum [.lst ds]) P := ⟨_, by rw [h, oSum, inos_map]; rfl, q⟩
theorem o_sumT {ns : List Int} (h : ds = ns.map D.int) (q : P (.int ns.sum)) : OkP (oSum [.tup ds]) P := ⟨_, by rw [h, oSum, inos_map]; rfl, q⟩
theorem o_isubI {i j : Int} (q : P (.int (i - j))) : OkP (oISub (.int i) (.int j)) P := ⟨_, rfl, q⟩
theorem o_slT {lo hi : Option Int} (q : P (.tup (cutL ds lo hi))) : OkP (oSl (.tup ds) lo hi) P := ⟨_, rfl, q⟩
theorem o_slC {ns : List Int} {lo hi : Option Int} (q : P (.lst ((cutL ns lo hi).map D.int))) : OkP (oSl (.scr ns) lo hi) P := ⟨_, rfl, q⟩
theorem o_addB {a : Bool} {j : Int} (q : P (.int ((if a = true then (1 : Int) else 0) + j))) : OkP (oAdd (.bl a) (.int j)) P := ⟨_, rfl, q⟩
theorem o_subB {a : Bool} {j : Int} (q : P (.int ((if a = true then (1 : Int) else 0) - j))) : OkP (oSub (.bl a) (.int j)) P := ⟨_, rfl, q⟩
theorem o_boolI {i : Int} (q : P (.bl (i != 0))) : OkP (oBool [.int i]) P := ⟨_, rfl, q⟩
theorem o_boolB {a : Bool} (q : P (.bl a)) : OkP (oBool [.bl a]) P := ⟨_, rfl, q⟩
theorem o_slN {PA : List D → Prop} {lo hi : Option Int} (q : PA (cutL ds lo hi)) : OkP (onSl (.lst ds) lo hi) PA := ⟨_, rfl, q⟩
theorem o_intBin (h1 : l.isEmpty = false) (h2 : l.length ≤ 640) (h3 : ∀ c ∈ l, c = 48 ∨ c = 49) (q : P (.int ((Bn.binNum l : Nat) : Int))) : OkP (oIntBin [.str l, .int 2]) P :=
  ⟨_, if_pos ⟨rfl, h1, h2, List.all_eq_true.mpr fun c m => by unfold isBin; rw [Bool.or_eq_true, beq_iff_eq, beq_iff_eq]; exact h3 c m⟩, q⟩
end
/-! ### sorted -/
section
variable {K : PySem.W.Frag} {G H : Hp} {L : List (Addr × HO)} {Q : VK}
def sortI (ns : List Int) : List Int := ns.mergeSort fun a b => decide (a ≤ b)
def sortT (ls : List (List Int)) : List (List Int) := ls.mergeSort fun a b => !HT.lexLt b a
theorem sortI_perm (ns : List Int) : (sortI ns).Perm ns := List.mergeSort_perm ..
theorem sortI_srt (ns : List Int) : (sortI ns).Pairwise (· ≤ ·) := by
  have := List.pairwise_mergeSort (le := fun (a b : Int) => decide (a ≤ b)) (fun a b c h1 h2 => by have := of_decide_eq_true h1; have := of_decide_eq_true h2; exact decide_eq_true (by omega)) (fun a b => by rw [Bool.or_eq_true]; by_cases h : a ≤ b; exact .inl (decide_eq_true h); exact .inr (decide_eq_true (by omega))) ns
  exact this.imp fun h => of_decide_eq_true h
theorem lex_anti : ∀ xs ys : List Int, HT.lexLt xs ys = false → HT.lexLt ys xs = false → xs = ys
  | [], [], _, _ => rfl
  | [], _ :: _, h, _ => nomatch h
  | _ :: _, [], _, h => nomatch h
  | x :: xs, y :: ys, h1, h2 => by
    rw [HT.lexLt_cons] at h1 h2
    by_cases e : x = y
    · rw [if_pos e] at h1
      rw [if_pos e.symm] at h2
      rw [e, lex_anti xs ys h1 h2]
    · rw [if_neg e] at h1
      rw [if_neg (fun z => e z.symm)] at h2
      have := of_decide_eq_false h1
      have := of_decide_eq_false h2
      omega
theorem sortT_perm (ns : List (List Int)) : (sortT ns).Perm ns := List.mergeSort_perm ..
theorem sortT_srt (ns : List (List Int)) : (sortT ns).Pairwise (fun a b => HT.lexLt b a = false) := by
  have := List.pairwise_mergeSort (le := fun (a b : List Int) => !HT.lexLt b a) (fun a b c h1 h2 => by
    rw [Bool.not_eq_true'] at h1 h2 ⊢
    exact NtL.lex_tr _ _ _ h1 h2) (fun a b => by
    rw [Bool.or_eq_true, Bool.not_eq_true', Bool.not_eq_true']
    cases h : HT.lexLt b a with
    | false => exact .inl rfl
    | true => exact .inr (NtL.lex_asym _ _ h)) ns
  exact this.imp fun h => by rw [Bool.not_eq_true'] at h; exact h
theorem srt_uniq {α : Type} {le : α → α → Prop} (anti : ∀ a b, le a b → le b a → a = b) {l m : List α} (p : l.Perm m) (h1 : l.Pairwise le) (h2 : m.Pairwise le) : l = m :=
  List.Perm.eq_of_pairwise (fun a b _ _ => anti a b) h1 h2 p
/-- tuples of numbers -/
def tupI : D → Option (List Int)
  | .tup l => intsD l
  | _ => none
def tupsI : List D → Option (List (List Int))
  | [] => some []
  | d :: l => (tupI d).bind fun n => (tupsI l).bind fun r => some (n :: r)
/-- pairs of a number and a text -/
def prsD : List D → Option (List (Int × List Nat))
  | [] => some []
  | .tup [.int n, .str z] :: l => (prsD l).bind fun r => some ((n, z) :: r)
  | _ => none
def sortP (ps : List (Int × List Nat)) : List (Int × List Nat) := ps.mergeSort fun a b => decide (a.1 ≤ b.1)
def prD (p : Int × List Nat) : D := .tup [.int p.1, .str p.2]
theorem sortP_perm (ps : List (Int × List Nat)) : (sortP ps).Perm ps := List.mergeSort_perm ..
theorem sortP_srt (ps : List (Int × List Nat)) : (sortP ps).Pairwise (fun a b => a.1 ≤ b.1) := by
  have := List.pairwise_mergeSort (le := fun (a b : Int × List Nat) => decide (a.1 ≤ b.1)) (fun a b c h1 h2 => by simp only [decide_eq_true_eq] at *; omega) (fun a b => by simp only [Bool.or_eq_true, decide_eq_true_eq]; omega) ps
  exact this.imp fun h => of_decide_eq_true h
def onSorted : List D → Option (List D)
  | [.lst l] => match intsD l with
    | some ns => some ((sortI ns).map D.int)
    | none => match tupsI l with
      | some ls => (match ls with
        | [] => none
        | x :: r => if 1 ≤ x.length ∧ r.all (fun y => y.length == x.length) = true then some ((sortT (x :: r)).map fun ns => .tup (ns.map D.int)) else none)
      | none => (prsD l).bind fun ps => if (ps.map (·.1)).Nodup then some ((sortP ps).map prD) else none
  | _ => none
theorem RA_ints {G : Hp} : ∀ ns : List Int, RA K G (ns.map D.int) (ns.map V.int)
  | [] => by rw [List.map_nil, RA]; rfl
  | n :: ns => by rw [List.map_cons, RA]; exact ⟨_, _, rfl, by rw [R], RA_ints ns⟩
theorem tupI_R {d : D} {v : V} {ns : List Int} (h : tupI d = some ns) (r : R K G d v) : TupI K G v ns := by
  cases d with
  | tup l =>
    rw [R] at r
    obtain ⟨a, xs, rfl, h1, h2⟩ := r
    rw [ints_ok h h2] at h1
    exact ⟨a, rfl, h1⟩
  | _ => cases h
theorem TupI.R {v : V} {ns : List Int} (h : TupI K G v ns) : R K G (.tup (ns.map D.int)) v := by
  obtain ⟨t, rfl, h1⟩ := h
  rw [MA.R]
  exact ⟨t, _, rfl, h1, RA_ints ns⟩
theorem tupsI_R : ∀ {ds : List D} {ls : List (List Int)} {xs : List V}, tupsI ds = some ls → RA K G ds xs → xs.length = ls.length ∧ ∀ (i : Nat) (x : V) (n : List Int), xs[i]? = some x → ls[i]? = some n → TupI K G x n
  | [], _, _, h, r => by
    cases h; rw [RA] at r; subst r
    exact ⟨rfl, fun i x n h => nomatch h⟩
  | d :: ds, _, _, h, r => by
    obtain ⟨n, h1, h2⟩ := bind_some h
    obtain ⟨ls, h3, h4⟩ := bind_some h2
    cases h4
    rw [RA] at r
    obtain ⟨v, r', rfl, q1, q2⟩ := r
    obtain ⟨i1, i2⟩ := tupsI_R h3 q2
    refine ⟨by simp [i1], fun i x m hx hm => ?_⟩
    cases i with
    | zero => cases hx; cases hm; exact tupI_R h1 q1
    | succ i => exact i2 i x m hx hm
theorem TupI.ex {G' : Hp} (e : Ex G G') {v : V} {ns : List Int} (h : TupI K G v ns) : TupI K G' v ns := by
  obtain ⟨t, rfl, h1⟩ := h
  exact ⟨t, rfl, st_ex e h1⟩
theorem RA_mem : ∀ {ys : List V} {g : V → D}, (∀ y ∈ ys, R K G (g y) y) → RA K G (ys.map g) ys
  | [], _, _ => by rw [List.map_nil, RA]
  | y :: ys, g, h => by rw [List.map_cons, RA]; exact ⟨_, _, rfl, h y (List.mem_cons_self ..), RA_mem fun z m => h z (List.mem_cons_of_mem _ m)⟩
theorem PairIS.ex {G' : Hp} (e : Ex G G') {v : V} {m : Int} {z : Str} (h : PairIS K G v m z) : PairIS K G' v m z := by
  obtain ⟨t, rfl, h1⟩ := h
  exact ⟨t, rfl, st_ex e h1⟩
theorem nodup_fst {α : Type} {ps : List (Int × α)} (h : (ps.map (·.1)).Nodup) {a b : Int × α} (ha : a ∈ ps) (hb : b ∈ ps) (e : a.1 = b.1) : a = b := by
  induction ps with
  | nil => cases ha
  | cons p ps ih =>
    rw [List.map_cons, List.nodup_cons] at h
    rcases List.mem_cons.mp ha with rfl | ha'
    · rcases List.mem_cons.mp hb with rfl | hb'
      · rfl
      · exact absurd (List.mem_map.mpr ⟨b, hb', e.symm⟩) h.1
    · rcases List.mem_cons.mp hb with rfl | hb'
      · exact absurd (List.mem_map.mpr ⟨a, ha', e⟩) h.1
      · exact ih h.2 ha' hb'
def txOf (ps : List (Int × List Nat)) (m : Int) : List Nat := ((ps.find? fun p => decide (p.1 = m)).map (·.2)).getD []
theorem txOf_eq {ps : List (Int × List Nat)} (hnd : (ps.map (·.1)).Nodup) {p : Int × List Nat} (hp : p ∈ ps) : txOf ps p.1 = p.2 := by
  unfold txOf
  cases hf : ps.find? (fun p' => decide (p'.1 = p.1)) with
  | none =>
    have := List.find?_eq_none.mp hf p hp
    simp at this
  | some p' =>
    have h7 := nodup_fst hnd (List.mem_of_find?_eq_some hf) hp (by have := List.find?_some hf; simpa using this)
    rw [h7]
    rfl
theorem prsD_R : ∀ {ds : List D} {ps : List (Int × List Nat)} {xs : List V}, prsD ds = some ps → RA K G ds xs → xs.length = ps.length ∧ ∀ (i : Nat) (x : V) (p : Int × List Nat), xs[i]? = some x → ps[i]? = some p → PairIS K G x p.1 (S p.2)
  | [], _, _, h, r => by
    cases h; rw [RA] at r; subst r
    exact ⟨rfl, fun i x n h => nomatch h⟩
  | d :: ds, ps, _, h, r => by
    unfold prsD at h
    split at h
    · rename_i h0; cases h0
    · rename_i n z l heq
      cases heq
      obtain ⟨ls, h3, h4⟩ := bind_some h
      cases h4
      rw [RA] at r
      obtain ⟨v, r', rfl, q1, q2⟩ := r
      obtain ⟨i1, i2⟩ := prsD_R h3 q2
      refine ⟨by simp [i1], fun i x m hx hm => ?_⟩
      cases i with
      | zero =>
        cases hx; cases hm
        rw [R] at q1
        obtain ⟨a, ys, rfl, k1, k2⟩ := q1
        obtain ⟨v1, v2, rfl, r1, r2⟩ := RA2 k2
        rw [R] at r1
        rw [R] at r2
        subst r1 r2
        exact ⟨a, rfl, k1⟩
      | succ i => exact i2 i x m hx hm
    · cases h
theorem ro_sortedN : RefOLN K (rSortedU K) onSorted := by
  intro G L H Q ds z xs h hd n q
  unfold onSorted at h
  split at h
  · obtain ⟨v, rfl, r⟩ := RA1 hd
    rw [R] at r
    obtain ⟨a, xs, rfl, h1, h2⟩ := r
    split at h
    · rename_i ns hn
      cases h
      rw [ints_ok hn h2] at h1
      refine .inl (.inl (.inl ⟨a, ns, rfl, sqL (n.ex _ _ h1), fun ns' p hp hs hf => ?_⟩))
      have e : ns' = sortI ns := srt_uniq (fun a b h1 h2 => Int.le_antisymm h1 h2) (hp.trans (sortI_perm ns).symm) hs (sortI_srt ns)
      rw [e]
      exact q _ _ _ _ (Ex.refl _) (RA_ints _) (n.newL hf)
    · split at h
      rotate_left
      · obtain ⟨ps, h3, h4⟩ := bind_some h
        split at h4
        · rename_i hnd
          cases h4
          obtain ⟨el, ht⟩ := prsD_R h3 h2
          have hT : ∀ v ∈ xs, ∃ p ∈ ps, PairIS K G v p.1 (S p.2) := fun v hv => by
            obtain ⟨i, hi⟩ := List.getElem?_of_mem hv
            have hil : i < ps.length := by rw [← el]; exact (List.getElem?_eq_some_iff.mp hi).1
            exact ⟨_, List.getElem_mem hil, ht i v _ hi (List.getElem?_eq_getElem hil)⟩
          obtain ⟨F, hF⟩ : ∃ F : Int → List Nat, ∀ p ∈ ps, F p.1 = p.2 := ⟨txOf ps, fun p hp => txOf_eq hnd hp⟩
          refine .inr ⟨a, xs, fun m => S (F m), rfl, sqL (n.ex _ _ h1), fun v hv => ?_, fun k ys p hk hp hs hf => ?_⟩
          · obtain ⟨p, hpm, hp⟩ := hT v hv
            refine ⟨p.1, ?_⟩
            show PairIS K H v p.1 (S (F p.1))
            rw [hF p hpm]
            exact PairIS.ex n.Ex hp
          · have ek : xs.map (fun v => (k v, F (k v))) = ps := by
              apply List.ext_getElem?
              intro i
              rw [List.getElem?_map]
              by_cases hi : i < xs.length
              · have h5 : xs[i]? = some xs[i] := List.getElem?_eq_getElem hi
                have h6 : ps[i]? = some (ps[i]'(by rw [← el]; exact hi)) := List.getElem?_eq_getElem _
                rw [h5, h6]
                have e5 := hk _ (List.getElem_mem hi) _ _ (PairIS.ex n.Ex (ht i _ _ h5 h6))
                show some (k xs[i], F (k xs[i])) = _
                rw [e5, hF _ (List.getElem_mem _)]
              · rw [List.getElem?_eq_none (by omega), List.getElem?_eq_none (by rw [← el]; omega)]
                rfl
            have e : ys.map (fun v => (k v, F (k v))) = sortP ps := by
              have hpp : (ys.map (fun v => (k v, F (k v)))).Perm (sortP ps) := by
                rw [← ek]
                exact (hp.map _).trans (by rw [ek]; exact (sortP_perm ps).symm)
              refine List.Perm.eq_of_pairwise (le := fun a b => a.1 ≤ b.1) (fun a b ha hb h1 h2 => ?_) (List.pairwise_map.mpr hs) (sortP_srt ps) hpp
              have ha' : a ∈ ps := by rw [← ek]; exact (hp.map _).mem_iff.mp ha
              have hb' : b ∈ ps := (sortP_perm ps).mem_iff.mp hb
              exact nodup_fst hnd ha' hb' (by omega)
            have hq : RA K G ((ys.map (fun v => (k v, F (k v)))).map prD) ys := by
              rw [List.map_map]
              refine RA_mem fun y hy => ?_
              obtain ⟨p, hpm, hm⟩ := hT y (hp.mem_iff.mp hy)
              have e5 := hk y (hp.mem_iff.mp hy) _ _ (PairIS.ex n.Ex hm)
              show R K G (.tup [.int (k y), .str (F (k y))]) y
              rw [e5, hF p hpm]
              obtain ⟨t, rfl, ht⟩ := hm
              rw [R]
              exact ⟨t, _, rfl, ht, RA.cons (by rw [R]) (RA.cons (by rw [R]) RA.nil)⟩
            rw [e] at hq
            exact q _ _ _ _ (Ex.refl _) hq (n.newL hf)
        · cases h4
      rename_i ls h3
      have h4 := h
      obtain ⟨el, ht⟩ := tupsI_R h3 h2
      cases ls with
      | nil => cases h4
      | cons x r =>
        replace h4 : (if 1 ≤ x.length ∧ r.all (fun y => y.length == x.length) = true then some ((sortT (x :: r)).map fun ns => D.tup (ns.map D.int)) else none) = some z := h4
        split at h4
        · rename_i hc
          cases h4
          have hlen : ∀ y ∈ x :: r, y.length = x.length := fun y hy => by
            rcases List.mem_cons.mp hy with rfl | hy
            · rfl
            · exact beq_iff_eq.mp (List.all_eq_true.mp hc.2 y hy)
          have hT : ∀ v ∈ xs, ∃ m, TupI K G v m ∧ m.length = x.length := fun v hv => by
            obtain ⟨i, hi⟩ := List.getElem?_of_mem hv
            have hil : i < (x :: r).length := by rw [← el]; exact (List.getElem?_eq_some_iff.mp hi).1
            exact ⟨_, ht i v _ hi (List.getElem?_eq_getElem hil), hlen _ (List.getElem_mem hil)⟩
          refine .inl (.inl (.inr ⟨a, xs, x.length, rfl, sqL (n.ex _ _ h1), hc.1, fun v hv => ?_, fun k ys p hk hp hs hf => ?_⟩))
          · obtain ⟨m, hm, hl⟩ := hT v hv
            exact ⟨m, TupI.ex n.Ex hm, hl⟩
          · have ek : xs.map k = x :: r := by
              apply List.ext_getElem?
              intro i
              rw [List.getElem?_map]
              by_cases hi : i < xs.length
              · have h5 : xs[i]? = some xs[i] := List.getElem?_eq_getElem hi
                have h6 : (x :: r)[i]? = some ((x :: r)[i]'(by rw [← el]; exact hi)) := List.getElem?_eq_getElem _
                rw [h5, h6]
                show some (k xs[i]) = _
                rw [hk _ (List.getElem_mem hi) _ (TupI.ex n.Ex (ht i _ _ h5 h6))]
              · rw [List.getElem?_eq_none (by omega), List.getElem?_eq_none (by rw [← el]; omega)]
                rfl
            have e : ys.map k = sortT (x :: r) := by
              refine srt_uniq (le := fun a b => HT.lexLt b a = false) (fun a b h1 h2 => lex_anti a b h2 h1) ?_ (List.pairwise_map.mpr hs) (sortT_srt _)
              rw [← ek]
              exact (hp.map k).trans (sortT_perm _).symm
            have hq : RA K G ((ys.map k).map fun ns => D.tup (ns.map D.int)) ys := by
              rw [List.map_map]
              refine RA_mem fun y hy => ?_
              obtain ⟨m, hm, _⟩ := hT y (hp.mem_iff.mp hy)
              show R K G (.tup ((k y).map D.int)) y
              rw [hk y (hp.mem_iff.mp hy) m (TupI.ex n.Ex hm)]
              exact TupI.R hm
            rw [e] at hq
            exact q _ _ _ _ (Ex.refl _) hq (n.newL hf)
        · cases h4
  · cases h
theorem intsD_map : ∀ ns : List Int, intsD (ns.map D.int) = some ns
  | [] => rfl
  | i :: ns => by show (intsD (ns.map D.int)).bind _ = _; rw [intsD_map ns]; rfl
theorem tupsI_map : ∀ ls : List (List Int), tupsI (ls.map fun ns => .tup (ns.map D.int)) = some ls
  | [] => rfl
  | n :: ls => by
    show (intsD (n.map D.int)).bind _ = _
    rw [intsD_map]
    show (tupsI (ls.map fun ns => .tup (ns.map D.int))).bind _ = _
    rw [tupsI_map ls]
    rfl
theorem o_sortedI {PA : List D → Prop} {ds : List D} {ns : List Int} (h : ds = ns.map D.int) (q : PA ((sortI ns).map D.int)) : OkP (onSorted [.lst ds]) PA := ⟨_, by rw [h, onSorted, intsD_map], q⟩
theorem o_sortedT {PA : List D → Prop} {ds : List D} {ls : List (List Int)} {d : Nat} (h : ds = ls.map fun ns => .tup (ns.map D.int)) (hn : ls ≠ []) (hd : 1 ≤ d) (hl : ∀ l ∈ ls, l.length = d) (q : PA ((sortT ls).map fun ns => .tup (ns.map D.int))) : OkP (onSorted [.lst ds]) PA := by
  cases ls with
  | nil => exact absurd rfl hn
  | cons x r =>
    refine ⟨_, ?_, q⟩
    have hx := hl x (List.mem_cons_self ..)
    rw [h, onSorted]
    have e : intsD ((x :: r).map fun ns => D.tup (ns.map D.int)) = none := rfl
    rw [e]
    show (match tupsI ((x :: r).map fun ns => D.tup (ns.map D.int)) with | some ls => _ | none => _) = _
    rw [tupsI_map]
    exact if_pos ⟨by omega, List.all_eq_true.mpr fun y hy => beq_iff_eq.mpr (by rw [hl y (List.mem_cons_of_mem _ hy), hx])⟩
theorem prsD_map : ∀ ps : List (Int × List Nat), prsD (ps.map prD) = some ps
  | [] => rfl
  | p :: ps => by show (prsD (ps.map prD)).bind _ = _; rw [prsD_map ps]; rfl
theorem o_sortedP {PA : List D → Prop} {ds : List D} {ps : List (Int × List Nat)} (h : ds = ps.map prD) (hn : (ps.map (·.1)).Nodup) (q : PA ((sortP ps).map prD)) : OkP (onSorted [.lst ds]) PA := by
  cases ps with
  | nil =>
    have e0 : sortP [] = [] := List.length_eq_zero_iff.mp ((sortP_perm []).length_eq)
    have e1 : sortI [] = [] := List.length_eq_zero_iff.mp ((sortI_perm []).length_eq)
    refine ⟨_, ?_, q⟩
    rw [h, e0, List.map_nil, onSorted]
    show some ((sortI []).map D.int) = _
    rw [e1]
    rfl
  | cons x r =>
    refine ⟨_, ?_, q⟩
    rw [h, onSorted]
    have e : intsD ((x :: r).map prD) = none := rfl
    have e2 : tupsI ((x :: r).map prD) = none := rfl
    simp only [e, e2, prsD_map, Option.bind_some]
    exact if_pos hn
end
end MA
/-! QY: repr on data. -/
namespace MA
open PySem PySem.Spec PyProof.Rows L2 SX
/-! not longer than this when shown -/
mutual
def wt : D → Nat
  | .non => 4
  | .bl _ => 5
  | .int _ => 1001
  | .str l => 10 * l.length + 2
  | .lst l => wts l + 3
  | .tup l => wts l + 3
  | .scr _ => 0
  | .dic _ _ => 0
def wts : List D → Nat
  | [] => 0
  | d :: l => wt d + 2 + wts l
end
/-- true signs, numbers not too great, not too deep -/
def sho : Nat → D → Bool
  | _, .non => true
  | _, .bl _ => true
  | _, .int i => decide (i.natAbs.log2 < 1000)
  | _, .str l => l.all (· < 1114112)
  | n + 1, .lst l => l.all (sho n)
  | n + 1, .tup l => l.all (sho n)
  | _, _ => false
theorem sho_shp (n : Nat) : ∀ d : D, sho n d = true → shp n d = true := by
  induction n with
  | zero => intro d h; cases d <;> first | exact h | rfl | cases h
  | succ n ih =>
    intro d h
    cases d with
    | lst l => rw [sho, List.all_eq_true] at h; rw [shp, List.all_eq_true]; exact fun d m => ih d (h d m)
    | tup l => rw [sho, List.all_eq_true] at h; rw [shp, List.all_eq_true]; exact fun d m => ih d (h d m)
    | scr _ => cases h
    | dic _ _ => cases h
    | str l => exact h
    | _ => rfl
theorem show_all : ∀ l : List PyData, (∀ x ∈ l, x.showable = true) → PyData.showableAll l = true
  | [], _ => rfl
  | x :: l, h => by rw [PyData.showableAll, Bool.and_eq_true]; exact ⟨h x (List.mem_cons_self ..), show_all l fun y m => h y (List.mem_cons_of_mem _ m)⟩
theorem shownAll_eq : ∀ l : List PyData, PyData.shownAll l = l.map PyData.shown
  | [] => rfl
  | x :: l => by rw [PyData.shownAll, shownAll_eq l]; rfl
theorem sho_ok (n : Nat) : ∀ d : D, sho n d = true → (pd d).showable = true ∧ (pd d).shown.length ≤ wt d := by
  have strs' : ∀ l : List Nat, l.all (· < 1114112) = true → (pd (.str l)).showable = true ∧ (pd (.str l)).shown.length ≤ wt (.str l) := fun l h => by
    refine ⟨by rw [pd, PyData.showable], ?_⟩
    rw [pd, PyData.shown, wt]
    have := PySem.StrLaws.reprText_len (S l) (fun c hc => by
      have hc' : c ∈ l := by simpa [S] using hc
      have := of_decide_eq_true (List.all_eq_true.mp h c hc')
      omega)
    rw [S_len] at this
    exact this
  have ints' : ∀ i : Int, decide (i.natAbs.log2 < 1000) = true → (pd (.int i)).showable = true ∧ (pd (.int i)).shown.length ≤ wt (.int i) := fun i h => by
    have h' := of_decide_eq_true h
    refine ⟨by rw [pd, PyData.showable]; exact decide_eq_true (by omega), ?_⟩
    rw [pd, PyData.shown, wt]
    have := int_text_length_le (a := i) (k := 1000) (by decide) h'
    show (Str.ofString (toString i)).length ≤ 1001
    rw [PySem.ofString_length]
    omega
  have sum' : ∀ (n : Nat) (l : List D), (∀ d ∈ l, (pd d).shown.length ≤ wt d) → ((PyData.shownAll (pds l)).map (·.length)).sum + 2 * (PyData.shownAll (pds l)).length ≤ wts l := fun n l => by
    induction l with
    | nil => intro _; rw [pds, PyData.shownAll, wts]; simp
    | cons d l ih =>
      intro h
      have h1 := h d (List.mem_cons_self ..)
      have h2 := ih fun e m => h e (List.mem_cons_of_mem _ m)
      rw [pds, PyData.shownAll, wts, List.map_cons, List.sum_cons, List.length_cons]
      omega
  induction n with
  | zero =>
    intro d h
    cases d with
    | non => exact ⟨rfl, by rw [pd, PyData.shown, wt]; decide⟩
    | bl b => cases b <;> exact ⟨rfl, by rw [pd, PyData.shown, wt]; decide⟩
    | int i => exact ints' i h
    | str l => exact strs' l h
    | _ => cases h
  | succ n ih =>
    intro d h
    cases d with
    | non => exact ⟨rfl, by rw [pd, PyData.shown, wt]; decide⟩
    | bl b => cases b <;> exact ⟨rfl, by rw [pd, PyData.shown, wt]; decide⟩
    | int i => exact ints' i h
    | str l => exact strs' l h
    | scr _ => cases h
    | dic _ _ => cases h
    | lst l =>
      rw [sho, List.all_eq_true] at h
      refine ⟨?_, ?_⟩
      · rw [pd, PyData.showable, pds_map]
        refine show_all _ fun x hx => ?_
        obtain ⟨d, hd, rfl⟩ := List.mem_map.mp hx
        exact (ih d (h d hd)).1
      · rw [pd, PyData.shown, wt]
        have h1 := listText_len_le (PyData.shownAll (pds l))
        have h2 := sum' 0 l fun d m => (ih d (h d m)).2
        omega
    | tup l =>
      rw [sho, List.all_eq_true] at h
      refine ⟨?_, ?_⟩
      · rw [pd, PyData.showable, pds_map]
        refine show_all _ fun x hx => ?_
        obtain ⟨d, hd, rfl⟩ := List.mem_map.mp hx
        exact (ih d (h d hd)).1
      · rw [pd, PyData.shown, wt]
        have h1 := tupleText_len_le (PyData.shownAll (pds l))
        have h2 := sum' 0 l fun d m => (ih d (h d m)).2
        omega
def isCn : D → Bool
  | .lst _ => true
  | .tup _ => true
  | _ => false
def oRepr : List D → Option D
  | [d] => if isCn d = true ∧ sho 40 d = true ∧ wt d ≤ 16000000 then some (.str (unS (pd d).shown)) else none
  | _ => none
section
variable {K : PySem.W.Frag} {P : D → Prop}
theorem ro_repr : RefOL K (rRepr K) oRepr := by
  intro G L H Q ds z xs h hd n q
  unfold oRepr at h
  split at h
  · rename_i d
    split at h
    · rename_i hc
      cases h
      obtain ⟨hc, hs, hw⟩ := hc
      obtain ⟨v, rfl, r⟩ := RA1 hd
      have hp := sho_shp 40 d hs
      have hD := (R.dp 40 d v hp r).ex n.Ex
      obtain ⟨a, rfl⟩ : ∃ a, v = .ref a := by
        cases d with
        | lst l => rw [R] at r; obtain ⟨a, _, rfl, _⟩ := r; exact ⟨a, rfl⟩
        | tup l => rw [R] at r; obtain ⟨a, _, rfl, _⟩ := r; exact ⟨a, rfl⟩
        | _ => cases hc
      obtain ⟨l1, l2⟩ := shp_lay 40 d hp
      obtain ⟨s1, s2⟩ := sho_ok 40 d hs
      refine ⟨a, pd d, rfl, hD, l1, s1, by omega, by rw [sizeLine_eq]; omega, ?_⟩
      exact q _ _ _ (Ex.refl _) (by rw [R, S_unS]) n
    · cases h
  · cases h
theorem o_repr {d : D} (h1 : isCn d = true) (h2 : sho 40 d = true) (h3 : wt d ≤ 16000000) (q : P (.str (unS (pd d).shown))) : OkP (oRepr [d]) P := ⟨_, if_pos ⟨h1, h2, h3⟩, q⟩
end
/-! for the longer step -/
theorem s_nio {e : Env} {i : Nat} {A : Prop} (h : notIo e i = true) (q : A) : notIo e i = true ∧ A := ⟨h, q⟩
theorem s_tt {A : Prop} (q : A) : true = true ∧ A := ⟨rfl, q⟩
theorem k_yesT {A B : Prop} (q : A) : if true = true then A else B := by rw [if_pos rfl]; exact q
theorem k_noF {A B : Prop} (q : B) : if false = true then A else B := by rw [if_neg (by decide)]; exact q
theorem k_dT {p A B : Prop} [Decidable p] (h : p) (q : A) : if decide p = true then A else B := by rw [if_pos (decide_eq_true h)]; exact q
theorem k_dF {p A B : Prop} [Decidable p] (h : ¬ p) (q : B) : if decide p = true then A else B := by rw [if_neg (by simpa using h)]; exact q
theorem k_nT {p A B : Prop} [Decidable p] (h : ¬ p) (q : A) : if (!decide p) = true then A else B := by rw [if_pos (by simpa using h)]; exact q
theorem k_nF {p A B : Prop} [Decidable p] (h : p) (q : B) : if (!decide p) = true then A else B := by rw [if_neg (by simpa using h)]; exact q
end MA
/-! QZ: more operations. -/
namespace MA
open PySem PySem.Spec PyProof.Rows L2 SX
section
variable {K : PySem.W.Frag} {ta tb te : TE} {pa pb pe : PE'}
/-! slices, with effects -/
def RefEO (K : PySem.W.Frag) (tO : TO) (po : Env → Option (Option Int × Env)) : Prop := ∀ ⦃G : Hp⦄ ⦃L : List (Addr × HO)⦄ ⦃as : List Addr⦄ ⦃env env' : Env⦄ ⦃σ : L2.St⦄ ⦃H : Hp⦄ ⦃Q : Option Int → Hp → Prop⦄ ⦃b : Option Int⦄, po env = some (b, env') → Wd K G L as env σ H →
  (∀ G' H', Ex G G' → Wd K G' L as env' σ H' → Q b H') → tO σ H Q
def eNoPart : Env → Option (Option Int × Env) := fun env => some (none, env)
theorem re_nopart : RefEO K tNoPart eNoPart := fun G L as env env' σ H Q d e w q => by cases e; exact q G H (Ex.refl _) w
def ePart (pe : PE') : Env → Option (Option Int × Env) := fun env => (pe env).bind fun x => (into x.1).bind fun i => some (some i, x.2)
theorem re_part (h : RefE K te pe) : RefEO K (tPart te) (ePart pe) := by
  intro G L as env env' σ H Q b e w q
  obtain ⟨⟨x, e1⟩, z1, z2⟩ := bind_some e
  obtain ⟨i, z3, z4⟩ := bind_some z2
  cases into_ok z3
  cases z4
  refine h z1 w fun v G1 H1 x1 r1 w1 => ?_
  rw [R] at r1
  exact ⟨i, r1, q _ _ x1 w1⟩
def eSl (o : D → Option Int → Option Int → Option D) (pa : PE') (pl ph : Env → Option (Option Int × Env)) : PE' := fun env => (pa env).bind fun x => (pl x.2).bind fun l => (ph l.2).bind fun h => (o x.1 l.1 h.1).bind fun z => some (z, h.2)
theorem re_sl {r : V → Option Int → Option Int → Hp → VK → Prop} {o : D → Option Int → Option Int → Option D} {tl th : TO} {pl ph : Env → Option (Option Int × Env)} (ho : RefOS K r o) (ha : RefE K ta pa) (hl : RefEO K tl pl) (hh : RefEO K th ph) : RefE K (tSl r ta tl th) (eSl o pa pl ph) := by
  intro G L as env env' σ H Q d e w q
  obtain ⟨⟨x, e1⟩, z1, z2⟩ := bind_some e
  obtain ⟨⟨l, e2⟩, z3, z4⟩ := bind_some z2
  obtain ⟨⟨u, e3⟩, z5, z6⟩ := bind_some z4
  obtain ⟨z, z7, z8⟩ := bind_some z6
  cases z8
  refine ha z1 w fun v G1 H1 x1 r1 w1 => ?_
  refine hl z3 w1 fun G2 H2 x2 w2 => ?_
  refine hh z5 w2 fun G3 H3 x3 ⟨Lo, re, n⟩ => ?_
  exact ho z7 (R_ex (x2.trans x3) _ _ r1) n fun v' G' H' x4 r4 n4 => q v' G' H' (((x1.trans x2).trans x3).trans x4) r4 ⟨Lo, re.ex x4, n4⟩
theorem e_nopart {env : Env} {P : Option Int → Env → Prop} (q : P none env) : OkE (eNoPart env) P := k_someE q
theorem e_part {env : Env} {P : Option Int → Env → Prop} (h : OkE (pe env) fun d e => OkP (into d) fun i => P (some i) e) : OkE (ePart pe env) P := k_bindEE (h.imp fun _ _ h => k_bindPE (h.imp fun _ q => k_someE q))
theorem e_sl {env : Env} {P : D → Env → Prop} {o : D → Option Int → Option Int → Option D} {pl ph : Env → Option (Option Int × Env)} (h : OkE (pa env) fun d e => OkE (pl e) fun l e1 => OkE (ph e1) fun u e2 => OkP (o d l u) fun z => P z e2) : OkE (eSl o pa pl ph env) P := k_bindEE (h.imp fun _ _ h => k_bindEE (h.imp fun _ _ h => k_bindEE (h.imp fun _ _ h => k_bindPE (h.imp fun _ q => k_someE q))))
end
/-! slots that hold nothing handed in, whatever else -/
def nio (x : Option C) : Prop := ∀ o, x ≠ some (.io o)
theorem nio_v {d : D} : nio (some (.v d)) := fun _ h => by cases h
theorem nio_m {o : Ob} : nio (some (.m o)) := fun _ h => by cases h
theorem nio_n : nio none := fun _ h => by cases h
theorem notIo_nio {env : Env} {i : Nat} {x : Option C} (h : env[i]? = some x) (hx : nio x) : notIo env i = true := by
  unfold notIo
  rw [h]
  cases x with
  | none => rfl
  | some c => cases c with
    | io o => exact absurd rfl (hx o)
    | _ => rfl
theorem rng_at {m j a : Nat} (h : (List.range m)[j]? = some a) : j < m ∧ j = a := by
  have h1 := (List.getElem?_eq_some_iff.mp h).1
  rw [List.length_range] at h1
  rw [List.getElem?_range h1] at h
  exact ⟨h1, Option.some.inj h⟩
theorem enum_any (ds : List D) : enumD 0 ds = (List.range ds.length).map fun (k : Nat) => D.tup [.int (k : Int), ds.getD k .non] := by
  apply List.ext_getElem?
  intro i
  rw [enumD_get, List.getElem?_map]
  by_cases h : i < ds.length
  · rw [List.getElem?_eq_getElem h, List.getElem?_range h]
    simp [List.getD_eq_getElem?_getD, h]
  · rw [List.getElem?_eq_none (by omega), List.getElem?_eq_none (by rw [List.length_range]; omega)]
    rfl
/-! what may be shown -/
def Rp (n B : Nat) (d : D) : Prop := sho n d = true ∧ wt d ≤ B
theorem Rp.mono {n B B' : Nat} {d : D} (h : Rp n B d) (e : B ≤ B') : Rp n B' d := ⟨h.1, Nat.le_trans h.2 e⟩
theorem Rp.non {n B : Nat} (hB : 4 ≤ B) : Rp n B .non := ⟨by cases n <;> rfl, by rw [wt]; exact hB⟩
theorem Rp.bl {n B : Nat} {b : Bool} (hB : 5 ≤ B) : Rp n B (.bl b) := ⟨by cases n <;> rfl, by rw [wt]; exact hB⟩
theorem Rp.int {n B : Nat} {i : Int} (h : i.natAbs < 2 ^ 64) (hB : 1001 ≤ B) : Rp n B (.int i) := by
  refine ⟨?_, by rw [wt]; exact hB⟩
  have : sho n (.int i) = decide (i.natAbs.log2 < 1000) := by cases n <;> rfl
  rw [this]
  refine decide_eq_true ?_
  by_cases h0 : i.natAbs = 0
  · rw [h0]; decide
  · have : i.natAbs.log2 < 64 := (Nat.log2_lt h0).mpr h
    omega
theorem Rp.str {n B m : Nat} {l : List Nat} (h : ∀ c ∈ l, c < 1114112) (hl : l.length ≤ m) (hB : 10 * m + 2 ≤ B) : Rp n B (.str l) := by
  refine ⟨?_, by rw [wt]; omega⟩
  have : sho n (.str l) = l.all (· < 1114112) := by cases n <;> rfl
  rw [this]
  exact List.all_eq_true.mpr fun c hc => decide_eq_true (h c hc)
theorem wts_le {b : Nat} : ∀ {l : List D}, (∀ d ∈ l, wt d ≤ b) → wts l ≤ l.length * (b + 2)
  | [], _ => by rw [wts]; exact Nat.zero_le _
  | d :: l, h => by
    have h1 := h d (List.mem_cons_self ..)
    have h2 := wts_le fun e m => h e (List.mem_cons_of_mem _ m)
    rw [wts, List.length_cons, Nat.add_mul]
    omega
theorem Rp.lst {n b m B : Nat} {l : List D} (h : ∀ d ∈ l, Rp n b d) (hl : l.length ≤ m) (hB : m * (b + 2) + 3 ≤ B) : Rp (n + 1) B (.lst l) := by
  refine ⟨by rw [sho, List.all_eq_true]; exact fun d m => (h d m).1, ?_⟩
  have h1 := wts_le fun d m => (h d m).2
  have h2 := Nat.mul_le_mul_right (b + 2) hl
  rw [wt]
  omega
theorem Rp.tup {n b m B : Nat} {l : List D} (h : ∀ d ∈ l, Rp n b d) (hl : l.length ≤ m) (hB : m * (b + 2) + 3 ≤ B) : Rp (n + 1) B (.tup l) := by
  refine ⟨by rw [sho, List.all_eq_true]; exact fun d m => (h d m).1, ?_⟩
  have h1 := wts_le fun d m => (h d m).2
  have h2 := Nat.mul_le_mul_right (b + 2) hl
  rw [wt]
  omega
/-- the text that shows it -/
abbrev shS (d : D) : D := .str (unS (pd d).shown)
theorem o_rp {d : D} {P : D → Prop} (hc : isCn d = true) (h : Rp 40 16000000 d) (q : P (shS d)) : OkP (oRepr [d]) P := o_repr hc h.1 h.2 q
theorem at_0 {α : Type} {a : α} {l : List α} : atI (a :: l) 0 = some a := at_nat (j := 0) rfl
/-- one of three -/
theorem at_3 {a b c : D} {r : Int} (h0 : 0 ≤ r) (h : r < 3) : atI [a, b, c] r = some a ∨ atI [a, b, c] r = some b ∨ atI [a, b, c] r = some c := by
  have : r = 0 ∨ r = 1 ∨ r = 2 := by omega
  rcases this with rfl | rfl | rfl
  · exact .inl rfl
  · exact .inr (.inl rfl)
  · exact .inr (.inr rfl)
theorem at_2 {a b : D} {r : Int} (h0 : 0 ≤ r) (h : r < 2) : atI [a, b] r = some a ∨ atI [a, b] r = some b := by
  have : r = 0 ∨ r = 1 := by omega
  rcases this with rfl | rfl
  · exact .inl rfl
  · exact .inr rfl
def rg1P (PA : List D → Prop) (d : D) : Prop := ∃ j : Int, d = .int j ∧ (0 ≤ j ∧ j ≤ 100000) ∧ PA (rngD 0 j)
theorem k_rg11 {PA : List D → Prop} {j : Int} (h : 0 ≤ j ∧ j ≤ 100000) (q : PA (rngD 0 j)) : rg1P PA (.int j) := ⟨j, rfl, h, q⟩
theorem k_rg1 {pa : PP} {env : Env} {PA : List D → Prop} (h : OkP (pa env) (rg1P PA)) : OkP (pnRg1 pa env) PA := by
  obtain ⟨d, h1, j, rfl, h2, q⟩ := h
  refine ⟨_, ?_, q⟩
  unfold pnRg1
  rw [h1]
  exact if_pos h2
theorem s_all1 {e : Env} {i : Nat} {A : Prop} (h : notIo e i = true) (q : A) : [i].all (notIo e) = true ∧ A := ⟨by rw [List.all_cons, List.all_nil, h]; rfl, q⟩
theorem s_all2 {e : Env} {i j : Nat} {A : Prop} (h : notIo e i = true) (h2 : notIo e j = true) (q : A) : [i, j].all (notIo e) = true ∧ A := ⟨by rw [List.all_cons, List.all_cons, List.all_nil, h, h2]; rfl, q⟩
/-! [..] * n as a new list -/
def onMul : D → D → Option (List D)
  | .lst l, .int j => if -(2 ^ 63) ≤ j ∧ j < 2 ^ 63 ∧ l.length * j.toNat ≤ 100000 then some (List.replicate j.toNat l).flatten else none
  | _, _ => none
def pnMul (pa pb : PP) : Env → Option (List D) := fun env => (pa env).bind fun d => (pb env).bind fun e => onMul d e
theorem rp_mulN {K : PySem.W.Frag} {ta tb : TE} {pa pb : PP} (ha : RefP K ta pa) (hb : RefP K tb pb) : RefPN K (tOp (rMulU K) ta tb) (pnMul pa pb) := by
  intro G L env σ H Q d e re n q
  obtain ⟨x, e1, e2⟩ := bind_some e
  obtain ⟨y, e3, e4⟩ := bind_some e2
  refine ha e1 re n fun v G1 H1 x1 r1 n1 => ?_
  refine hb e3 (re.ex x1) n1 fun w G2 H2 x2 r2 n2 => ?_
  unfold onMul at e4
  split at e4
  · rename_i l j
    split at e4
    · rename_i hl
      cases e4
      rw [R] at r1; rw [R] at r2
      subst r2
      obtain ⟨a, xs, rfl, h1, h2⟩ := r1
      exact .inr (.inr (.inr (.inl ⟨a, j, xs, rfl, rfl, n2.ex _ _ (x2 _ _ h1), hl.1, hl.2.1, by rw [h2.len]; exact sizeL hl.2.2, fun p hp => q _ _ _ _ (x1.trans x2) ((RA_ex x2 _ _ h2).rep _) (n2.newL hp)⟩)))
    · cases e4
  · cases e4
theorem k_mulN {pa pb : PP} {env : Env} {PA : List D → Prop} (h : OkP (pa env) fun d => OkP (pb env) fun e => OkP (onMul d e) PA) : OkP (pnMul pa pb env) PA := k_bind (h.imp fun _ h => k_bind h)
theorem o_mulN {l : List D} {j : Int} {PA : List D → Prop} (h : -(2 ^ 63) ≤ j ∧ j < 2 ^ 63 ∧ l.length * j.toNat ≤ 100000) (q : PA (List.replicate j.toNat l).flatten) : OkP (onMul (.lst l) (.int j)) PA := ⟨_, if_pos h, q⟩
theorem rep_one {α : Type} (a : α) : ∀ n : Nat, (List.replicate n [a]).flatten = List.replicate n a
  | 0 => rfl
  | n + 1 => by rw [List.replicate_succ, List.flatten_cons, rep_one a n, List.replicate_succ]; rfl
/-! calls by names -/
def byIxD (ix : List Nat) (ds es : List D) : List D := ix.map fun i => (ds ++ es).getD i .non
theorem RA.getDD {K : PySem.W.Frag} {G : Hp} : ∀ {ds : List D} {xs : List V}, RA K G ds xs → ∀ i : Nat, R K G (ds.getD i .non) (xs.getD i .non)
  | [], _, h, i => by rw [RA] at h; subst h; rw [List.getD_nil, List.getD_nil, R]
  | d :: ds, _, h, i => by
    rw [RA] at h
    obtain ⟨v, r, rfl, h1, h2⟩ := h
    cases i with
    | zero => exact h1
    | succ i => exact h2.getDD i
theorem byIx_RA {K : PySem.W.Frag} {G : Hp} {ds es : List D} {xs ys : List V} (h1 : RA K G ds xs) (h2 : RA K G es ys) : ∀ ix : List Nat, RA K G (byIxD ix ds es) (byIxV ix xs ys)
  | [] => RA.nil
  | i :: ix => RA.cons ((h1.append h2).getDD i) (byIx_RA h1 h2 ix)
def pCallK (f : List D → Option D) (n m : Nat) (ix : List Nat) (pa pk : Env → Option (List D)) : PP := fun env => (pa env).bind fun ds => (pk env).bind fun es => if ds.length = n ∧ es.length = m then f (byIxD ix ds es) else none
def pnCallK (f : List D → Option (List D)) (n m : Nat) (ix : List Nat) (pa pk : Env → Option (List D)) : Env → Option (List D) := fun env => (pa env).bind fun ds => (pk env).bind fun es => if ds.length = n ∧ es.length = m then f (byIxD ix ds es) else none
theorem rp_callK {K : PySem.W.Frag} {f : List D → Option D} {E : XK} {n m : Nat} {ix : List Nat} {ta tk : TA} {pa pk : Env → Option (List D)} (ha : RefPA K ta pa) (hk : RefPA K tk pk) : RefP K (tCallN n m (sp0 K f) (byIxV ix) E ta tk) (pCallK f n m ix pa pk) := by
  intro G L env σ H Q d e re n0 q
  obtain ⟨x, e1, e2⟩ := bind_some e
  obtain ⟨y, e3, e4⟩ := bind_some e2
  split at e4
  · rename_i hl
    refine ha e1 re n0 fun v G1 H1 x1 r1 n1 => ?_
    refine hk e3 (re.ex x1) n1 fun w G2 H2 x2 r2 n2 => ?_
    exact ⟨by rw [r1.len]; exact hl.1, by rw [r2.len]; exact hl.2, G2, L, _, d, byIx_RA (RA_ex x2 _ _ r1) r2 ix, n2, e4, fun v' G' H' x3 r3 n3 => q v' G' H' ((x1.trans x2).trans x3) r3 n3⟩
  · cases e4
theorem rp_callKN {K : PySem.W.Frag} {f : List D → Option (List D)} {E : XK} {n m : Nat} {ix : List Nat} {ta tk : TA} {pa pk : Env → Option (List D)} (ha : RefPA K ta pa) (hk : RefPA K tk pk) : RefPN K (tCallN n m (sp0N K f) (byIxV ix) E ta tk) (pnCallK f n m ix pa pk) := by
  intro G L env σ H Q d e re n0 q
  obtain ⟨x, e1, e2⟩ := bind_some e
  obtain ⟨y, e3, e4⟩ := bind_some e2
  split at e4
  · rename_i hl
    refine ha e1 re n0 fun v G1 H1 x1 r1 n1 => ?_
    refine hk e3 (re.ex x1) n1 fun w G2 H2 x2 r2 n2 => ?_
    exact ⟨by rw [r1.len]; exact hl.1, by rw [r2.len]; exact hl.2, G2, L, _, d, byIx_RA (RA_ex x2 _ _ r1) r2 ix, n2, e4, fun p xs G' H' x3 r3 n3 => q p xs G' H' ((x1.trans x2).trans x3) r3 n3⟩
  · cases e4
def kwP {α : Type} (f : List D → Option α) (n m : Nat) (ix : List Nat) (P : α → Prop) (ds es : List D) : Prop := ds.length = n ∧ es.length = m ∧ OkP (f (byIxD ix ds es)) P
theorem k_kw {α : Type} {f : List D → Option α} {n m : Nat} {ix : List Nat} {P : α → Prop} {ds es : List D} (h1 : ds.length = n) (h2 : es.length = m) (q : OkP (f (byIxD ix ds es)) P) : kwP f n m ix P ds es := ⟨h1, h2, q⟩
theorem k_callK {f : List D → Option D} {n m : Nat} {ix : List Nat} {pa pk : Env → Option (List D)} {env : Env} {P : D → Prop} (h : OkP (pa env) fun ds => OkP (pk env) fun es => kwP f n m ix P ds es) : OkP (pCallK f n m ix pa pk env) P := k_bind (h.imp fun ds h => k_bind (h.imp fun es h => by rw [if_pos ⟨h.1, h.2.1⟩]; exact h.2.2))
theorem k_callKN {f : List D → Option (List D)} {n m : Nat} {ix : List Nat} {pa pk : Env → Option (List D)} {env : Env} {P : List D → Prop} (h : OkP (pa env) fun ds => OkP (pk env) fun es => kwP f n m ix P ds es) : OkP (pnCallK f n m ix pa pk env) P := k_bind (h.imp fun ds h => k_bind (h.imp fun es h => by rw [if_pos ⟨h.1, h.2.1⟩]; exact h.2.2))
/-! a new list, or where it is empty another one -/
def pnOr (pa pb : Env → Option (List D)) : Env → Option (List D) := fun env => (pa env).bind fun l => if l.isEmpty then pb env else some l
theorem rp_orN {K : PySem.W.Frag} {ta tb : TE} {pa pb : Env → Option (List D)} (ha : RefPN K ta pa) (hb : RefPN K tb pb) : RefPN K (tOrT K ta tb) (pnOr pa pb) := by
  intro G L env σ H Q ds e re n q
  obtain ⟨l, e1, e2⟩ := bind_some e
  refine ha e1 re n fun p xs G1 H1 x1 r1 n1 => ⟨!l.isEmpty, .inl ⟨xs, sqL n1.get0, by rw [isE r1.len]⟩, ?_⟩
  cases l with
  | nil => exact hb e2 (re.ex x1) n1.drop fun p' xs' G2 H2 x2 r2 n2 => q p' xs' G2 H2 (x1.trans x2) r2 n2
  | cons a l =>
    cases e2
    exact q p xs G1 H1 x1 r1 n1
theorem k_orN {pa pb : Env → Option (List D)} {env : Env} {PA : List D → Prop} (h : OkP (pa env) fun l => if l.isEmpty = true then OkP (pb env) PA else PA l) : OkP (pnOr pa pb env) PA := k_bind (h.imp fun l h => by
  split at h
  · rename_i h1; rw [if_pos h1]; exact h
  · rename_i h1; rw [if_neg h1]; exact k_some h)
/-! a head, and the rest in a list -/
theorem k_st1 {Q : Env → Prop} {pg : List D → Env → Option Env} {d : D} {ds : List D} {env : Env} (q : OkP (pg [d, .lst ds] env) Q) : OkP (gSt 2 1 pg (.tup (d :: ds)) env) Q := by
  refine k_gSt (by rw [List.length_cons]; omega) ?_
  rw [List.length_cons, List.take_succ_cons, List.take_zero, List.drop_succ_cons, List.drop_zero, List.take_of_length_le (by omega), List.drop_of_length_le (by rw [List.length_cons]; omega)]
  exact q
theorem k_st1L {Q : Env → Prop} {pg : List D → Env → Option Env} {d : D} {ds : List D} {env : Env} (q : OkP (pg [d, .lst ds] env) Q) : OkP (gSt 2 1 pg (.lst (d :: ds)) env) Q := by
  refine k_gStL (by rw [List.length_cons]; omega) ?_
  rw [List.length_cons, List.take_succ_cons, List.take_zero, List.drop_succ_cons, List.drop_zero, List.take_of_length_le (by omega), List.drop_of_length_le (by rw [List.length_cons]; omega)]
  exact q
theorem o_startsw {P : D → Prop} {l b : List Nat} (q : P (.bl (decide (l.take b.length = b)))) : OkP (oStartsw (.str l) [.str b]) P := by
  refine ⟨_, rfl, ?_⟩
  have : Txt.startswith (S l) (S b) = decide (l.take b.length = b) := by
    unfold Txt.startswith Builtin.Str.subAt
    rw [S_len, S_len]
    show (decide (0 + b.length ≤ l.length) && (l.toArray.extract 0 (0 + (S b).length) == b.toArray)) = _
    rw [S_len, Nat.zero_add, List.extract_toArray, List.extract_eq_take_drop, List.drop_zero, Nat.sub_zero]
    by_cases h : l.take b.length = b
    · have h1 : b.length ≤ l.length := by
        have := congrArg List.length h
        rw [List.length_take] at this
        omega
      rw [h]
      simp [h1]
    · rw [decide_eq_false h]
      have : ((l.take b.length).toArray == b.toArray) = false := by
        rw [beq_eq_false_iff_ne]
        intro e
        exact h (by simpa using e)
      rw [this, Bool.and_false]
  rw [this]
  exact q
theorem k_iteT {b : Bool} {A B : Prop} (h : b = true) (q : A) : if b = true then A else B := by rw [if_pos h]; exact q
theorem k_iteF {b : Bool} {A B : Prop} (h : b = false) (q : B) : if b = true then A else B := by rw [h]; exact q
theorem at_m1 {α : Type} {a : α} {l : List α} : atI (l ++ [a]) (-1) = some a := by
  have e : ixN (l ++ [a]).length (-1) = some l.length := by
    unfold ixN
    rw [List.length_append]
    simp
    omega
  unfold atI
  rw [e]
  simp
/-! range with a step above nought -/
def rngC (lo hi c : Int) : List D := (List.range (Builtin.Range.rangeSize lo hi c).toNat).map fun (i : Nat) => .int (lo + (i : Nat) * c)
def pRng3 (ps : Env → Option (List D)) : Env → Option (List D) := fun env => (ps env).bind fun l => match l with
  | [.int i, .int j, .int c] => if 0 < c ∧ c < 1073741824 ∧ -(2 ^ 60) ≤ i ∧ i < 2 ^ 60 ∧ -(2 ^ 60) ≤ j ∧ j < 2 ^ 60 then some (rngC i j c) else none
  | _ => none
theorem small_step {i j c : Int} (h : 0 < c ∧ c < 1073741824 ∧ -(2 ^ 60) ≤ i ∧ i < 2 ^ 60 ∧ -(2 ^ 60) ≤ j ∧ j < 2 ^ 60) : Builtin.Range.small i j c = true := by
  have h1 : 0 ≤ Builtin.Range.rangeSize i j c ∧ Builtin.Range.rangeSize i j c ≤ 2 ^ 61 := by
    have := PyProof.Rows.rangeSize_toNat_le i j c
    have h2 := PyProof.Rows.rangeSize_toNat i j c
    omega
  unfold Builtin.Range.small
  generalize Builtin.Range.rangeSize i j c = z at h1
  simp only [Builtin.Range.rangeFitsLong, Bool.and_eq_true, Bool.or_eq_true, decide_eq_true_eq, beq_iff_eq, show c > 0 from h.1, if_true]
  omega
theorem rp_rng3 {K : PySem.W.Frag} {tt : TA} {ps : Env → Option (List D)} (h : RefPA K tt ps) : RefPI K (iRng3 tt) (pRng3 ps) := by
  intro G L env σ H Q ds e re n q
  obtain ⟨l, e1, e2⟩ := bind_some e
  match l, e1, e2 with
  | [.int i, .int j, .int c], e1, e2 =>
    simp only at e2
    split at e2
    · rename_i hj
      cases e2
      refine h e1 re n fun vs G1 H1 x1 r1 n1 => ?_
      rw [RA] at r1
      obtain ⟨v1, r, rfl, a1, r1⟩ := r1
      rw [RA] at r1
      obtain ⟨v2, r, rfl, a2, r1⟩ := r1
      obtain ⟨v3, rfl, a3⟩ := RA1 r1
      rw [R] at a1
      rw [R] at a2
      rw [R] at a3
      subst a1 a2 a3
      refine ⟨i, j, c, (Builtin.Range.rangeSize i j c).toNat, rfl, ⟨by omega, by omega, small_step hj, ?_⟩, q _ _ _ x1 ?_ n1⟩
      · exact PyProof.Rows.rangeSize_toNat i j c
      · refine ⟨fun _ => True, fun k H x H' => H' = H ∧ x = .int (i + (k : Nat) * c), ?_, fun _ _ _ _ _ => trivial, fun k d G' L' H' x H'' hd e0 n0 hy => ?_⟩
        · unfold rngC Itg Itc
          rw [List.length_map, List.length_range]
          simp only [true_and]
        · obtain ⟨rfl, rfl⟩ := hy
          unfold rngC at hd
          rw [List.getElem?_map] at hd
          cases hk : (List.range (Builtin.Range.rangeSize i j c).toNat)[k]? with
          | none => rw [hk] at hd; cases hd
          | some k' =>
            obtain ⟨_, rfl⟩ := rng_at hk
            rw [hk] at hd
            cases hd
            exact ⟨G', Ex.refl _, by rw [R], n0⟩
    · cases e2
def rngP3 (PA : List D → Prop) (l : List D) : Prop := ∃ i j c : Int, l = [.int i, .int j, .int c] ∧ (0 < c ∧ c < 1073741824 ∧ -(2 ^ 60) ≤ i ∧ i < 2 ^ 60 ∧ -(2 ^ 60) ≤ j ∧ j < 2 ^ 60) ∧ PA (rngC i j c)
theorem k_rng31 {PA : List D → Prop} {i j c : Int} (h : 0 < c ∧ c < 1073741824 ∧ -(2 ^ 60) ≤ i ∧ i < 2 ^ 60 ∧ -(2 ^ 60) ≤ j ∧ j < 2 ^ 60) (q : PA (rngC i j c)) : rngP3 PA [.int i, .int j, .int c] := ⟨i, j, c, rfl, h, q⟩
theorem k_rng3 {ps : Env → Option (List D)} {env : Env} {PA : List D → Prop} (h : OkP (ps env) (rngP3 PA)) : OkP (pRng3 ps env) PA := by
  obtain ⟨l, h1, i, j, c, rfl, h2, q⟩ := h
  refine ⟨_, ?_, q⟩
  unfold pRng3
  rw [h1]
  exact if_pos h2
end MA
/-! QS: the state that draws are taken from. -/
namespace MA
open PySem PySem.Spec PyProof.Rows L2 SX
section
variable {K : PySem.W.Frag} {te tj : TE} {pe pj : PE'}
abbrev kCells : List Nat := [99, 101, 108, 108, 115]
abbrev kTurn : List Nat := [116, 117, 114, 110]
abbrev tSt (i : Nat) (k : List Nat) : TE := tDGet (tVar i) (tC (.str (S k)))
theorem st_get {G : Hp} {L : List (Addr × HO)} {H : Hp} {p q : Addr} {t : Int} (n : Now G ((p, .dK [(.inr (S kCells), .ref q), (.inr (S kTurn), .int t)]) :: L) H) : DGet H p (.str (S kTurn)) (some (.int t)) ∧ DGet H p (.str (S kCells)) (some (.ref q)) :=
  ⟨.inl ⟨_, .inr (S kTurn), .inl n.get0, rfl, rfl⟩, .inl ⟨_, .inr (S kCells), .inl n.get0, rfl, rfl⟩⟩
/-- x['turn'] -/
def eStT (i : Nat) : PE' := fun env => match obj env i with
  | some (.st _ t) => some (.int t, env)
  | _ => none
theorem re_stT (i : Nat) : RefE K (tSt i kTurn) (eStT i) := by
  intro G L as env env' σ H Q d e ⟨Lo, re, n⟩ q
  unfold eStT at e
  split at e
  · rename_i ns t ho
    cases e
    obtain ⟨p, cs, L', k1, ⟨p2, rfl⟩, k3, k4⟩ := re.obj ho
    have n2 := n.permL k3
    exact ⟨_, k1, p, _, rfl, (st_get n2).1, q _ _ _ (Ex.refl _) (by rw [R]) ⟨Lo, re, n⟩⟩
  · cases e
/-- len(x['cells']) -/
def eStN (i : Nat) : PE' := fun env => match obj env i with
  | some (.st ns _) => some (.int (ns.length : Nat), env)
  | _ => none
theorem re_stN (i : Nat) : RefE K (tCB (rLenU K) (tCons (tSt i kCells) tNil)) (eStN i) := by
  intro G L as env env' σ H Q d e ⟨Lo, re, n⟩ q
  unfold eStN at e
  split at e
  · rename_i ns t ho
    cases e
    obtain ⟨p, cs, L', k1, ⟨p2, rfl⟩, k3, k4⟩ := re.obj ho
    have n2 := n.permL k3
    refine w_cb (w_cons ⟨_, k1, p, _, rfl, (st_get n2).2, ?_⟩)
    exact w_lenL (sqL (Now.swap n2).get0) (by rw [List.length_map]; exact q _ _ _ (Ex.refl _) (by rw [R]) ⟨Lo, re, n⟩)
  · cases e
/-- x['cells'][y] -/
def eStX (i y : Nat) : PE' := fun env => match obj env i, env[y]? with
  | some (.st ns _), some (some (.v (.int j))) => (atI ns j).bind fun z => some (.int z, env)
  | _, _ => none
theorem atI_map {α β : Type} {f : α → β} {xs : List α} {j : Int} {z : α} (h : atI xs j = some z) : atI (xs.map f) j = some (f z) := by
  unfold atI at h ⊢
  rw [List.length_map]
  obtain ⟨k, h1, h2⟩ := bind_some h
  rw [h1]
  show (xs.map f)[k]? = _
  rw [List.getElem?_map, h2]; rfl
theorem re_stX (i y : Nat) : RefE K (tOp (rIx K) (tSt i kCells) (tVar y)) (eStX i y) := by
  intro G L as env env' σ H Q d e ⟨Lo, re, n⟩ q
  unfold eStX at e
  split at e
  · rename_i ns t j ho hy
    obtain ⟨z, z1, z2⟩ := bind_some e
    cases z2
    obtain ⟨p, cs, L', k1, ⟨p2, rfl⟩, k3, k4⟩ := re.obj ho
    have n2 := n.permL k3
    obtain ⟨v, y1, y2⟩ := re.getv hy
    rw [R] at y2
    subst y2
    refine w_op ⟨_, k1, p, _, rfl, (st_get n2).2, _, y1, ?_⟩
    exact w_ixL (sqL (Now.swap n2).get0) (atI_map z1) (q _ _ _ (Ex.refl _) (by rw [R]) ⟨Lo, re, n⟩)
  · cases e
/-- x['cells'][y] = .. -/
def tStX (i y : Nat) : PG' := fun d env => match obj env i, env[y]?, d with
  | some (.st ns t), some (some (.v (.int j))), .int z => (ixN ns.length j).bind fun k => some (setO env i (.st (ns.set k z) t))
  | _, _, _ => none
theorem rt_stX {vs : List Nat} (i y : Nat) : RefSG K vs (gSub (tSt i kCells) (tVar y) rSetL) (tStX i y) := by
  intro G L as env env' σ H Q d v e ⟨Lo, re, n⟩ rd q
  unfold tStX at e
  split at e
  · rename_i ns t j z ho hy
    obtain ⟨k, z1, z2⟩ := bind_some e
    cases z2
    obtain ⟨p, cs, L', k1, ⟨p2, rfl⟩, k3, k4⟩ := re.obj ho
    have n2 := n.permL k3
    obtain ⟨u, y1, y2⟩ := re.getv hy
    rw [R] at y2 rd
    subst y2 rd
    have n3 := Now.swap n2
    refine ⟨_, k1, p, _, rfl, (st_get n2).2, _, y1, p2, _, j, k, rfl, rfl, n3.get0, by rw [List.length_map]; exact z1, ?_⟩
    obtain ⟨Lo2, k5, k6⟩ := k4 (G' := G) (o' := .st (ns.set k z) t) (Ex.refl _) ⟨p2, rfl⟩
    refine q σ G _ (Ex.refl _) ⟨Lo2, k5, Now.permL (Lo := (p, _) :: (p2, _) :: L') ?_ k6.symm⟩ (Agr.refl _ _)
    rw [List.map_set]
    exact Now.swap n3.set0
  · cases e
theorem w_setD {H H' : Hp} {a : Addr} {x v : V} {Q : Hp → Prop} (h : DPut H a x v H') (q : Q H') : rSetD (.ref a) x v H Q := ⟨a, H', rfl, h, q⟩
/-- x['turn'] = .. -/
def tStT (i : Nat) : PG' := fun d env => match obj env i, d with
  | some (.st ns _), .int z => some (setO env i (.st ns z))
  | _, _ => none
theorem rt_stT {vs : List Nat} (i : Nat) : RefSG K vs (gSub (tVar i) (tC (.str (S kTurn))) rSetD) (tStT i) := by
  intro G L as env env' σ H Q d v e ⟨Lo, re, n⟩ rd q
  unfold tStT at e
  split at e
  · rename_i ns t z ho
    cases e
    obtain ⟨p, cs, L', k1, ⟨p2, rfl⟩, k3, k4⟩ := re.obj ho
    have n2 := n.permL k3
    rw [R] at rd
    subst rd
    refine ⟨_, k1, w_setD (.inl ⟨_, .inr (S kTurn), n2.get0, rfl, by rw [sizeLine_eq]; exact Nat.le_of_ble_eq_true rfl, rfl⟩) ?_⟩
    obtain ⟨Lo2, k5, k6⟩ := k4 (G' := G) (o' := .st ns z) (Ex.refl _) ⟨p2, rfl⟩
    refine q σ G _ (Ex.refl _) ⟨Lo2, k5, Now.permL (Lo := (p, _) :: (p2, _) :: L') ?_ k6.symm⟩ (Agr.refl _ _)
    exact n2.set0
  · cases e
def dInts : List D → Option (List Int)
  | [] => some []
  | .int i :: l => (dInts l).bind fun r => some (i :: r)
  | _ :: _ => none
theorem dInts_map : ∀ ns : List Int, dInts (ns.map D.int) = some ns
  | [] => rfl
  | n :: ns => by show (dInts (ns.map D.int)).bind _ = _; rw [dInts_map ns]; rfl
theorem dInts_ra {G : Hp} : ∀ {ds : List D} {ns : List Int} {xs : List V}, dInts ds = some ns → RA K G ds xs → xs = ns.map V.int
  | [], _, _, h, r => by cases h; rw [RA] at r; rw [r]; rfl
  | .int i :: ds, _, _, h, r => by
    obtain ⟨ms, h1, h2⟩ := bind_some h
    cases h2
    rw [RA] at r
    obtain ⟨v, rs, rfl, r1, r2⟩ := r
    rw [R] at r1
    subst r1
    rw [dInts_ra h1 r2]; rfl
/-- {'cells': x, 'turn': t}, x given away -/
def enSt (i : Nat) (t : Int) : Env → Option (Ob × Env) := fun env => match env[i]? with
  | some (some (.m (.l ds))) => (dInts ds).bind fun ns => some (.st ns t, env.set i none)
  | _ => none
theorem re_st (i : Nat) (t : Int) : RefEN K (tDisp [(tC (.str (S kCells)), tVar i), (tC (.str (S kTurn)), tC (.int t))]) (enSt i t) := by
  intro G L as env env' σ H Q o e ⟨Lo, r, n⟩ q
  unfold enSt at e
  split at e
  · rename_i ds hi
    obtain ⟨ns, z1, z2⟩ := bind_some e
    cases z2
    obtain ⟨p, cs, L', q1, ⟨xs, rfl, ra⟩, q3, q4⟩ := r.give hi
    have ex := dInts_ra z1 ra
    subst ex
    intro p0 hp
    have n1 : Now G ((p0, .dK []) :: (Lo ++ L)) (upd H p0 (.dK [])) := n.newL hp
    refine ⟨_, q1, n1.get0, [(.inr (S kCells), .ref p), (.inr (S kTurn), .int t)], rfl, Nat.le_of_ble_eq_true rfl, ?_⟩
    refine q p0 _ G _ (Ex.refl _) ⟨p, rfl⟩ ⟨L', q4, ?_⟩
    have n2 : Now G ((p0, .dK (mergeK [] [(.inr (S kCells), .ref p), (.inr (S kTurn), .int t)])) :: (Lo ++ L)) _ := n1.set0
    have n3 := n2.perm (List.Perm.cons _ (q3.append_right L))
    exact midC (cs := [(p0, _), (p, _)]) n3
  · cases e
/-! defs that tell a new object -/
def sp0O (K : PySem.W.Frag) (f : List D → Option Ob) : Sp := fun vs H Q _ => ∃ G L ds o, RA K G ds vs ∧ Now G L H ∧ f ds = some o ∧ ∀ p cs G' H', Ex G G' → RO K G' o p cs → Now G' (cs ++ L) H' → Q (.ref p) H'
def fn0O (k n : Nat) (pb : PS') : List D → Option Ob := fun ds => if ds.length = k then (pb (env0 n ds)).bind fun o => match o with
  | .rtN o _ => some o
  | _ => none
  else none
theorem fn0O_len {k n : Nat} {pb : PS'} {ds : List D} {z : Ob} (h : fn0O k n pb ds = some z) : ds.length = k := by
  unfold fn0O at h
  split at h
  · rename_i e; exact e
  · cases h
theorem ln0O {f : List D → Option Ob} {k : Nat} (hf : ∀ ds z, f ds = some z → ds.length = k) {vs : List V} {H : Hp} {Q : VK} {E : XK} (h : sp0O K f vs H Q E) : vs.length = k := by
  obtain ⟨G, L, ds, d, r, n, e, _⟩ := h
  rw [r.len]; exact hf _ _ e
theorem ok0O {ts : TS} {ps : PS'} {k : Nat} {N : List Str} (h : RefS K ts ps) {vs : List V} {H : Hp} {Q : VK} {E : XK} (hs : sp0O K (fn0O k N.length ps) vs H Q E) : ts { nx := fun _ H' => Q .non H', rt := Q } (start N vs) H := by
  obtain ⟨G, L, ds, d, r, n, e, q⟩ := hs
  unfold fn0O at e
  split at e
  case isFalse => cases e
  obtain ⟨o, e1, e2⟩ := bind_some e
  have w : Wd K G L [] (env0 N.length ds) (start N vs) H := ⟨[], by unfold env0 L2.start; rw [r.len]; exact rel0 r, n⟩
  refine h e1 w ?_
  match o, e2 with
  | .rtN d' _, e2 => cases e2; exact fun p hh σ' G' H' x ro ⟨Lo, _, n'⟩ => q p hh G' H' x ro (n'.sub (List.sublist_append_right ..))
theorem no0O {vs : List V} {H : Hp} {Q : VK} {E : XK} (h : sp0O K (fun _ => none) vs H Q E) : False := by
  obtain ⟨_, _, _, _, _, _, e, _⟩ := h
  cases e
def enCallO (f : List D → Option Ob) (ps : Env → Option (List D × Env)) : Env → Option (Ob × Env) := fun env => (ps env).bind fun x => (f x.1).bind fun z => some (z, x.2)
theorem re_callO {tt : TA} {ps : Env → Option (List D × Env)} {f : List D → Option Ob} {E : XK} (hs : RefEA K tt ps) : RefEN K (tCall (sp0O K f) [] E tt) (enCallO f ps) := by
  intro G L as env env' σ H Q d e w q
  obtain ⟨⟨x, e1⟩, z1, z2⟩ := bind_some e
  obtain ⟨z, z5, z6⟩ := bind_some z2
  cases z6
  refine hs z1 w fun v G1 H1 x1 r1 ⟨Lo, re, n⟩ => ?_
  exact ⟨G1, Lo ++ L, x, d, by rw [List.append_nil]; exact r1, n, z5, fun p cs G' H' x2 r2 n2 => q p _ G' H' (x1.trans x2) r2 ⟨Lo, re.ex x2, midC n2⟩⟩
/-! the plain walk -/
variable {P : D → Env → Prop} {PO : Ob → Env → Prop} {env : Env} {i y : Nat} {ns : List Int} {t : Int}
theorem e_stT (h : obj env i = some (.st ns t)) (q : P (.int t) env) : OkE (eStT i env) P := ⟨_, _, by unfold eStT; rw [h], q⟩
theorem e_stN (h : obj env i = some (.st ns t)) (q : P (.int (ns.length : Nat)) env) : OkE (eStN i env) P := ⟨_, _, by unfold eStN; rw [h], q⟩
theorem e_stX {j z : Int} (h : obj env i = some (.st ns t)) (hy : env[y]? = some (some (.v (.int j)))) (hz : atI ns j = some z) (q : P (.int z) env) : OkE (eStX i y env) P := ⟨.int z, env, by unfold eStX; rw [h, hy]; show (atI ns j).bind _ = _; rw [hz]; rfl, q⟩
theorem s_stX {Q : Env → Prop} {j z : Int} {k : Nat} (h : obj env i = some (.st ns t)) (hy : env[y]? = some (some (.v (.int j)))) (hk : ixN ns.length j = some k) (q : Q (setO env i (.st (ns.set k z) t))) : OkP (tStX i y (.int z) env) Q := ⟨_, by unfold tStX; rw [h, hy]; show (ixN ns.length j).bind _ = _; rw [hk]; rfl, q⟩
theorem s_stT {Q : Env → Prop} {z : Int} (h : obj env i = some (.st ns t)) (q : Q (setO env i (.st ns z))) : OkP (tStT i (.int z) env) Q := ⟨_, by unfold tStT; rw [h], q⟩
theorem e_st {ms : List Int} (h : env[i]? = some (some (.m (.l (ms.map D.int))))) (q : PO (.st ms t) (env.set i none)) : OkE (enSt i t env) PO := ⟨_, _, by unfold enSt; rw [h]; show (dInts _).bind _ = _; rw [dInts_map]; rfl, q⟩
theorem e_callO {ps : Env → Option (List D × Env)} {f : List D → Option Ob} (h : OkE (ps env) fun ds e => OkP (f ds) fun z => PO z e) : OkE (enCallO f ps env) PO := k_bindEE (h.imp fun _ _ h => k_bindPE (h.imp fun _ q => k_someE q))
theorem f0O_of {k n : Nat} {pb : PS'} {ds : List D} {P : Ob → Prop} (h : ds.length = k) (q : SW (pb (env0 n ds)) (fun _ => False) (fun _ _ => False) (fun o _ => P o)) : OkP (fn0O k n pb ds) P := by
  unfold fn0O
  rw [if_pos h]
  obtain ⟨o, h1, h2⟩ := q
  rw [h1]
  cases o with
  | rtN d e => exact ⟨_, rfl, h2⟩
  | _ => exact h2.elim
end
end MA
/-! ZX: set of a list of numbers, sorted (after the library's road for tuples). -/
namespace MA
open PySem PySem.Spec PyProof.Rows L2
abbrev ob0 (w : World) : Obj := { cls := .type "set", dict := none, data := .set #[] 0 (.fresh 0 0 (!w.params.followText "set-order")) }
section
variable {P : Program} {w : World} {A : Around} {E : Value → Shared → Prop} {s : Shared}
set_option maxRecDepth 100000 in
set_option maxHeartbeats 3200000 in
theorem call_set_lstI {l : Addr} {items : Array Value} (ns : List Int) {Q : Value → Shared → Prop} (hh : A.handled = none) (hl : s.heap.IsList l items) (hit : IntsAre items.toList ns) (hb : ns.length + 1 < scanBound)
    (h : ∀ (h' : Heap) (tk c : Nat), SetR w h' s.heap.objs.size (fun j => decide (j ∈ ns)) c → c ≤ ns.length → (∀ b o, s.heap.get? b = some o → h'.get? b = some o) → Q (.ref s.heap.objs.size) { s with heap := h', toks := tk }) :
    wpAny (model P w) A (call (.type "set") [.ref l]) Q E s := by
  have hisz : items.size = ns.length := by
    have q := IntsAre.length hit
    rw [Array.length_toList] at q
    exact q
  obtain ⟨c, tl, hmro⟩ := F.called_set.mro
  have hmade := F.called_set.made
  have hsub := F.called_set.sub
  refine wpAny_call (codeAny_of_tree ?_)
  show wpAny _ _ (callAny (.type "set") _) _ _ _
  refine wpAny_pure ⟨Code.quiet_builtin _ (by decide +kernel), codeAny_builtin F.entry_type_call ?_⟩
  rw [Around.under_plain (weight_type_call_type "set" [.ref l] []) rfl]
  have h1 := F.called_set.notType
  have h2 := F.called_set.canCreate
  have hct := F.typeCall_set_1 (.ref l)
  repeat (any_goals (first | assumption | wp_step))

  refine codeAny_mono (code_set_led1 (.ref l) (E := E) (Q₁ := fun obj s₁ => obj = .ref s.heap.objs.size ∧ s₁ = { s with heap := s.heap.push (ob0 w) }) ⟨rfl, rfl⟩) fun r s₁ hr => ?_
  cases r with
  | error e => exact hr
  | ok fl =>
    cases fl with
    | ret obj =>
      obtain ⟨rfl, rfl⟩ := hr
      have hS : (s.heap.push (ob0 w)).get? s.heap.objs.size = some (ob0 w) := Heap.get?_push_size _ rfl
      have hT : Shared.TypeIs { s with heap := s.heap.push (ob0 w) } (.ref s.heap.objs.size) "set" := ⟨_, hS, rfl⟩
      have hli := F.called_set.init.lookup
      have hbi := F.called_set.init.bind (.ref s.heap.objs.size)
      repeat (any_goals (first | assumption | wp_step))

      refine codeAny_mono (codeAny_call_builtin (R := wants (fun r s₂ => r = .none ∧ ∃ h' tk c, s₂ = { s with heap := h', toks := tk } ∧ SetR w h' s.heap.objs.size (fun j => decide (j ∈ ns)) c ∧ c ≤ ns.length ∧
          (∀ b o, s.heap.get? b = some o → h'.get? b = some o)) E) F.called_set.init.plain F.entry_set_init (check_set_init_1 hT ?_)) fun r₂ s₂ hr₂ => ?_
      · obtain ⟨ol, hol, hcl, nl, hdl⟩ := hl
        obtain ⟨ocls, odict, odata, oslots⟩ := ol
        simp only at hcl hdl
        subst hcl; subst hdl
        have hol' : (s.heap.push (ob0 w)).get? l = some { cls := .type "list", dict := odict, data := .seq items nl, slots := oslots } := Heap.get?_push_of_some _ hol
        have hsls := F.sub_list_set
        have hslf := F.sub_list_frozenset
        have hne : (Value.type "list" == Value.type "dict") = false := by decide
        have hl1 : (s.heap.push (ob0 w)).IsList l items := ⟨_, hol', rfl, nl, rfl⟩
        unfold Builtin.«set.__init__» noKeywords Builtin.Frozenset.updateFrom
        generalize hPI : pyIter = PI
        wp_walk
        subst hPI

        refine wpAny_pyIter_list hl1 ?_
        refine wpAny_bind (wpAny_runValue ?_)
        have hlS : l < s.heap.objs.size := Heap.lt_size hol
        have hh3 : A.in1.in1.in1.handled = none := by simp [hh]
        have hz1 : (s.heap.push (ob0 w)).objs.size = s.heap.objs.size + 1 := Heap.size_push ..
        have hneI : l ≠ (s.heap.push (ob0 w)).objs.size := by
          rw [Heap.size_push]; exact Nat.ne_of_lt (Nat.lt_succ_of_lt hlS)
        have hSf : s.heap.objs.size ∉ [(s.heap.push (ob0 w)).objs.size, l] := by
          rw [Heap.size_push]; simp only [List.mem_cons, List.mem_singleton, List.not_mem_nil, or_false, not_or]
          exact ⟨Nat.ne_of_lt (Nat.lt_succ_self _), Nat.ne_of_gt hlS⟩
        have hval : ∀ (i : Nat) (v : Value), items[i]? = some v → ∃ k t, ns[i]? = some k ∧ v = .int k t := fun i v hv => by
          have hi : i < ns.length := by rw [← hisz]; exact (Array.getElem?_eq_some_iff.mp hv).1
          obtain ⟨t, e⟩ := PyProof.Rows.IntsAre.int_at hit i v (by rw [Array.getElem?_toList]; exact hv)
          refine ⟨ns[i], t, List.getElem?_eq_getElem hi, ?_⟩
          rw [e, List.getD_eq_getElem?_getD, List.getElem?_eq_getElem hi] <;> rfl
        refine set_update_ints ((Walks.list hh3 _ l hneI items).toS) s.heap.objs.size
          hSf ns hisz hb hval (items.size - 0) 0 _ (by omega) (Nat.zero_le _)
          ⟨⟨_, Heap.get?_push_size _ rfl, rfl, rfl⟩, (hl1.push _)⟩ ?hS0 ?hR
        case hS0 =>
          have hget : ((s.heap.push (ob0 w)).push { cls := .type "list_iterator", data := .fields #[.ref l, .int 0 0] }).get? s.heap.objs.size
              = some (ob0 w) := Heap.get?_push_of_some _ hS
          exact ⟨0, Nat.le_refl 0, setR_new_at hget⟩
        case hR =>
          intro s' c' hm hc' hS'
          obtain ⟨h', g2, d', tk', os'⟩ := s'
          have eg : g2 = s.gens := hm.gens
          have ed : d' = s.drawn := hm.drawn
          have eo : os' = s.os := hm.os
          subst eg; subst ed; subst eo
          show wpAny _ _ _ _ _ _
          refine wpAny_pure ?_
          show wpAny _ _ (ret Value.none) _ _ _
          rw [hisz] at hc'
          refine wpAny_pure ⟨rfl, h', tk', c', rfl, hS', hc', fun b o e => ?_⟩
          have hb0 : b < s.heap.objs.size := Heap.lt_size e
          have hb1 : b ≠ s.heap.objs.size := Nat.ne_of_lt hb0
          have hb2 : b ≠ (s.heap.push (ob0 w)).objs.size := by
            rw [Heap.size_push]; exact Nat.ne_of_lt (Nat.lt_succ_of_lt hb0)
          exact hm.heap b o (by simp only [List.mem_cons, List.mem_singleton, List.not_mem_nil, or_false, not_or]; exact ⟨hb1, hb2⟩) (Heap.get?_push_of_some _ (Heap.get?_push_of_some _ e))

      · cases r₂ with
        | error e => exact hr₂
        | ok fl₂ =>
          cases fl₂ with
          | ret r =>
            obtain ⟨rfl, h', tk, c', rfl, hS', hc', hk'⟩ := hr₂
            repeat (any_goals (first | assumption | wp_step))
            exact h _ _ _ hS' hc' hk'
          | _ => exact hr₂.elim
    | _ => exact hr.elim

end
end MA
namespace MA
open PySem PySem.Spec PyProof.Rows L2
section
variable {X : Cx}
def rSetI (K : PySem.W.Frag) (w : World) : List V → Hp → VK → Prop := fun vs H Q => ∃ (l : Addr) (ns : List Int), vs = [V.ref l] ∧ SqL K H l (ns.map V.int) ∧ ns.length ≤ 62 ∧
  ∀ (p : Addr) (c : Nat), H p = none → c ≤ ns.length → Q (.ref p) (upd H p (SetO w p (fun j => decide (j ∈ ns)) c))
theorem cr_setI (hc : X.calm = true) : CallR X (.type "set") (rSetI X.K X.w) := by
  intro pins s σ H vs us Q I r h
  obtain ⟨l, ns, rfl, hq, h62, q⟩ := h
  rw [Vals.ref1 r]
  obtain ⟨its, rv, pl, hz⟩ := I.list hq
  refine call_set_lstI ns (I.ok.hd hc) pl.isList (by simpa using ints_of_vals rv) (by unfold scanBound; omega) fun h' tk c R hc' hk => ?_
  exact ⟨.ref _, upd H s.heap.objs.size (SetO X.w s.heap.objs.size (fun j => decide (j ∈ ns)) c), I.laid (t' := tk) (fun b u e => hk b u e) (Nat.le_refl _) (setO_new R), rfl, q _ c (I.hok.fresh (Nat.le_refl _)) hc'⟩
/-- sorted(set(x)), x a list of at most 62 numbers -/
def tSortSet (K : PySem.W.Frag) (te : TE) : TE := fun σ H Q => te σ H fun x H1 => ∃ (l : Addr) (ns : List Int), x = .ref l ∧ SqL K H1 l (ns.map V.int) ∧ ns.length ≤ 62 ∧
  ∀ (p0 p : Addr) (o : HO) (ms : List Int), H1 p0 = none → (upd H1 p0 o) p = none → ms.Pairwise (· < ·) → (∀ k, k ∈ ms ↔ k ∈ ns) → Q (.ref p) (upd (upd H1 p0 o) p (.lst (ms.map V.int)))
theorem vals1 {v : V} {u : Value} (r : RelV v u) : Vals [v] [u] := .cons r .nil
theorem pe_sset {a : Expr} {ta : TE} {p p2 q pos : Pos} (hc : X.calm = true) (hg : Gl X "sorted") (hm : X.mg "sorted" = none) (hg2 : Gl X "set") (hm2 : X.mg "set" = none) (ha : PE X a ta)
    (na : starEach [a] X.env = (false, eval a X.env) :: starEach [] X.env := by rfl) : PE X (.Call (.Name "sorted" p) [.Call (.Name "set" p2) [a] [] q] [] pos) (tSortSet X.K ta) := by
  refine ⟨fun pins s σ H Q I h => ?_⟩
  refine Call_ (ld_blt (u := .builtin "sorted") I hg hm rfl ?_)
  refine PyProof.Rows.callWith_builtin1 (PyProof.Rows.args_cons ?_ rfl) rfl rfl
  refine Call_ (ld_blt (u := .type "set") I hg2 hm2 rfl ?_)
  refine PyProof.Rows.callWith_type1 (PyProof.Rows.args_cons (thn (ha.run pins s σ H _ I h) fun v s1 ⟨x, H1, I1, r1, q1⟩ => PyProof.Rows.args_nil ?_) na) na rfl
  obtain ⟨l, ns, rfl, hq, h62, q1⟩ := q1
  refine thn (cr_setI hc pins s1 σ H1 [.ref l] [v] (fun x2 H2 => ∃ p0 c, x2 = .ref p0 ∧ H1 p0 = none ∧ c ≤ ns.length ∧ H2 = upd H1 p0 (SetO X.w p0 (fun j => decide (j ∈ ns)) c)) I1 (vals1 r1) ⟨l, ns, rfl, hq, h62, fun p c hp hc' => ⟨p, c, rfl, hp, hc', rfl⟩⟩) fun u s2 ⟨x2, H2, I2, r2, p0, c, e1, hp0, hc2, e2⟩ => ?_
  subst e1 e2
  refine PyProof.Rows.args_nil ?_
  exact cr_sortedSet hc pins s2 σ _ [.ref p0] [u] Q I2 (vals1 r2) ⟨p0, _, c, rfl, upd_same, by omega, fun ms p h1 h2 _ hp => q1 p0 p _ ms hp0 hp h1 fun k => (h2 k).trans decide_eq_true_iff⟩
end
end MA
/-! QT: sorted(set(..)) on data. -/
namespace MA
open PySem PySem.Spec PyProof.Rows L2 SX
def insU (k : Int) : List Int → List Int
  | [] => [k]
  | a :: l => if k < a then k :: a :: l else if k = a then a :: l else a :: insU k l
def ssI : List Int → List Int
  | [] => []
  | k :: l => insU k (ssI l)
theorem insU_mem {k j : Int} : ∀ {l : List Int}, j ∈ insU k l ↔ j = k ∨ j ∈ l
  | [] => by simp [insU]
  | a :: l => by
    unfold insU
    split
    · simp
    · split
      · rename_i h; subst h; simp
      · rw [List.mem_cons, insU_mem, List.mem_cons]
        constructor
        · rintro (h | h | h) <;> simp [h]
        · rintro (h | h | h) <;> simp [h]
theorem ssI_mem {j : Int} : ∀ {l : List Int}, j ∈ ssI l ↔ j ∈ l
  | [] => by simp [ssI]
  | a :: l => by rw [ssI, insU_mem, ssI_mem, List.mem_cons]
theorem insU_sorted {k : Int} : ∀ {l : List Int}, l.Pairwise (· < ·) → (insU k l).Pairwise (· < ·)
  | [], _ => by simp [insU]
  | a :: l, h => by
    unfold insU
    rw [List.pairwise_cons] at h
    split
    · rename_i hk
      rw [List.pairwise_cons]
      refine ⟨fun b hb => ?_, by rw [List.pairwise_cons]; exact h⟩
      rcases List.mem_cons.mp hb with e | e
      · rw [e]; exact hk
      · have := h.1 b e; omega
    · split
      · rw [List.pairwise_cons]; exact h
      · rename_i h1 h2
        rw [List.pairwise_cons]
        refine ⟨fun b hb => ?_, insU_sorted h.2⟩
        rcases insU_mem.mp hb with e | e
        · omega
        · exact h.1 b e
theorem ssI_sorted : ∀ l : List Int, (ssI l).Pairwise (· < ·)
  | [] => List.Pairwise.nil
  | a :: l => insU_sorted (ssI_sorted l)
theorem insU_len {k : Int} : ∀ l : List Int, (insU k l).length ≤ l.length + 1
  | [] => by simp [insU]
  | a :: l => by
    unfold insU
    have := insU_len (k := k) l
    split
    · simp
    · split
      · simp
      · simp; omega
theorem ssI_len : ∀ l : List Int, (ssI l).length ≤ l.length
  | [] => Nat.le_refl _
  | a :: l => by have := insU_len (k := a) (ssI l); have := ssI_len l; rw [ssI, List.length_cons]; omega
theorem sorted_uniq : ∀ {l m : List Int}, l.Pairwise (· < ·) → m.Pairwise (· < ·) → (∀ k, k ∈ l ↔ k ∈ m) → l = m
  | [], [], _, _, _ => rfl
  | [], b :: m, _, _, h => by have := (h b).mpr (List.mem_cons_self ..); cases this
  | a :: l, [], _, _, h => by have := (h a).mp (List.mem_cons_self ..); cases this
  | a :: l, b :: m, h1, h2, h => by
    rw [List.pairwise_cons] at h1 h2
    have hab : a = b := by
      rcases List.mem_cons.mp ((h a).mp (List.mem_cons_self ..)) with e | e
      · exact e
      · rcases List.mem_cons.mp ((h b).mpr (List.mem_cons_self ..)) with e' | e'
        · exact e'.symm
        · have := h2.1 a e; have := h1.1 b e'; omega
    subst hab
    rw [sorted_uniq h1.2 h2.2 fun k => ?_]
    constructor
    · intro hk
      rcases List.mem_cons.mp ((h k).mp (List.mem_cons_of_mem _ hk)) with e | e
      · have := h1.1 k hk; omega
      · exact e
    · intro hk
      rcases List.mem_cons.mp ((h k).mpr (List.mem_cons_of_mem _ hk)) with e | e
      · have := h2.1 k hk; omega
      · exact e
section
variable {K : PySem.W.Frag} {te : TE} {pn : Env → Option (Ob × Env)} {env : Env} {PO : Ob → Env → Prop}
def enSS (pn : Env → Option (Ob × Env)) : Env → Option (Ob × Env) := fun env => (pn env).bind fun x => match x.1 with
  | .l ds => (dInts ds).bind fun ns => if ns.length ≤ 62 then some (.l ((ssI ns).map D.int), x.2) else none
  | .st _ _ => none
  | .dk _ _ => none
theorem ra_ints {G : Hp} : ∀ ns : List Int, RA K G (ns.map D.int) (ns.map V.int)
  | [] => RA.nil
  | n :: ns => RA.cons (by rw [R]) (ra_ints ns)
theorem re_SS (h : RefEN K te pn) : RefEN K (tSortSet K te) (enSS pn) := by
  intro G L as env env' σ H Q o e w q
  obtain ⟨⟨o1, e1⟩, z1, z2⟩ := bind_some e
  cases o1 with
  | st _ _ => cases z2
  | dk _ _ => cases z2
  | l ds =>
  obtain ⟨ns, z3, z4⟩ := bind_some z2
  split at z4
  case isFalse => cases z4
  rename_i h62
  cases z4
  refine h z1 w fun p cs G1 H1 x1 ⟨xs, ec, ra⟩ ⟨Lo, re, n⟩ => ?_
  subst ec
  have ex := dInts_ra z3 ra
  subst ex
  have n1 := midN' n
  refine ⟨p, ns, rfl, sqL n1.get0, h62, fun p0 p1 o ms hp0 hp1 hs hm => ?_⟩
  have em : ms = ssI ns := sorted_uniq hs (ssI_sorted ns) fun k => (hm k).trans ssI_mem.symm
  subst em
  refine q p1 _ G1 _ x1 ⟨_, rfl, ra_ints _⟩ ⟨Lo, re, midN ?_⟩
  exact (n1.drop.new hp0).newL hp1
theorem e_SS (h : OkE (pn env) fun o e => ∃ ns, o = .l (ns.map D.int) ∧ ns.length ≤ 62 ∧ PO (.l ((ssI ns).map D.int)) e) : OkE (enSS pn env) PO := by
  refine k_bindEE (h.imp fun o e ⟨ns, h1, h2, q⟩ => ?_)
  subst h1
  show OkE ((dInts _).bind _) PO
  rw [dInts_map]
  show OkE (if ns.length ≤ 62 then _ else _) PO
  rw [if_pos h2]
  exact k_someE q
end
end MA
/-! QU: calls that leave keyword-only parameters out; str of anything. -/
namespace MA
open PySem PySem.Spec PyProof.Rows L2 SX
def pCallD (f : List D → Option D) (dd : List D) (ps : Env → Option (List D)) : PP := fun env => (ps env).bind fun ds => f (ds ++ dd)
theorem rp_callD {K : PySem.W.Frag} {f : List D → Option D} {E : XK} {tt : TA} {ps : Env → Option (List D)} {dd : List D} {dvs : List V} (hd : ∀ G, RA K G dd dvs) (hs : RefPA K tt ps) : RefP K (tCall (sp0 K f) dvs E tt) (pCallD f dd ps) := by
  intro G L env σ H Q d e re n q
  obtain ⟨x, e1, e2⟩ := bind_some e
  refine hs e1 re n fun v G1 H1 x1 r1 n1 => ?_
  exact ⟨G1, L, x ++ dd, d, r1.append (hd G1), n1, e2, fun v' G' H' x2 r2 n2 => q v' G' H' (x1.trans x2) r2 n2⟩
theorem k_callD {f : List D → Option D} {dd : List D} {ps : Env → Option (List D)} {env : Env} {P : D → Prop} (h : OkP (ps env) fun ds => OkP (f (ds ++ dd)) P) : OkP (pCallD f dd ps env) P := k_bind h
theorem k_ntF {A B : Prop} (q : B) : if (!true) = true then A else B := q
theorem k_nfT {A B : Prop} (q : A) : if (!false) = true then A else B := q
/-! str of None, of lists and tuples too -/
def rStrN (K : PySem.W.Frag) : List V → Hp → VK → Prop := fun vs H Q => vs = [.non] ∧ Q (.str "None") H
theorem u_strN {X : Cx} : CallR X (.type "str") (rStrN X.K) := by
  intro pins s σ H vs us Q I r h
  obtain ⟨rfl, q⟩ := h
  cases r with
  | cons r1 r2 =>
    cases r2
    cases r1
    exact PySem.P.str_of_none ⟨.str "None", H, I.tok _, ⟨_, rfl⟩, q⟩
theorem u_strC {X : Cx} (hu : X.A.units + 64 < cLine) (hg : X.A.guards = some []) : CallR X (.type "str") (rRepr X.K) := by
  intro pins s σ H vs us Q I r h
  obtain ⟨a, d, rfl, hd, hc, hs, hp, hl, q⟩ := h
  rw [Vals.ref1 r]
  obtain ⟨as, rd⟩ := Dp.reads I d (.ref a) (.ref a) hd rfl
  exact str_of_reads rd hs (PyData.noDict_hsm (PyData.hasDict_of_canLay d hc)) hg (by omega) (fun _ _ e => e) (fun h' u tk hk => ⟨.str d.shown, H, I.kept hk, ⟨_, rfl⟩, q⟩) hl
def rStrA (K : PySem.W.Frag) : List V → Hp → VK → Prop := fun vs H Q => rStrU K vs H Q ∨ rStrN K vs H Q ∨ rRepr K vs H Q
theorem u_strA {X : Cx} (hu : X.A.units + 64 < cLine) (hg : X.A.guards = some []) : CallR X (.type "str") (rStrA X.K) := u_str.or (u_strN.or (u_strC hu hg))
def oStrA : List D → Option D
  | [.non] => some (.str [78, 111, 110, 101])
  | [.lst l] => oRepr [.lst l]
  | [.tup l] => oRepr [.tup l]
  | l => oStr l
theorem ro_strA {K : PySem.W.Frag} : RefOL K (rStrA K) oStrA := by
  intro G L H Q ds z xs h hd n q
  unfold oStrA at h
  split at h
  · obtain ⟨v, rfl, r⟩ := RA1 hd
    rw [R] at r; subst r; cases h
    exact .inr (.inl ⟨rfl, q _ _ _ (Ex.refl _) (by rw [R]; rfl) n⟩)
  · exact .inr (.inr (ro_repr h hd n q))
  · exact .inr (.inr (ro_repr h hd n q))
  · exact .inl (ro_str h hd n q)
/-! tuple(text) -/
def rTupleStr : List V → Hp → VK → Prop := fun xs H Q => ∃ z, xs = [.str z] ∧ z.length ≤ sizeLine ∧ ∀ l, H l = none → Q (.ref l) (upd H l (.tup (signs z)))
theorem vals_signs (z : Str) {acc : Array Value} (hacc : ItemsOf (SignAt z) acc z.cps.size) : Vals (signs z) acc.toList := by
  have hn : acc.toList.length = z.cps.toList.length := by simpa using hacc.1
  have hv : ∀ (l : List Nat) (us : List Value), us.length = l.length → (∀ (j : Nat) (u : Value), us[j]? = some u → ∃ c, l[j]? = some c ∧ ∃ t, u = .str ⟨#[c]⟩ t) → Vals (l.map fun c => V.str ⟨#[c]⟩) us := by
    intro l
    induction l with
    | nil => intro us e _; cases us with | nil => exact .nil | cons a b => simp at e
    | cons a l ih =>
      intro us e hu
      cases us with
      | nil => simp at e
      | cons u us =>
        obtain ⟨c, hc, t, rfl⟩ := hu 0 u rfl
        have ec : a = c := Option.some.inj hc
        subst ec
        exact .cons ⟨t, rfl⟩ (ih us (by simpa using e) fun j u h => hu (j + 1) u (by simpa using h))
  refine hv _ _ hn fun j u hu => ?_
  obtain ⟨c, t', hc, rfl⟩ := hacc.2 j u (by simpa using hu)
  exact ⟨c, by simpa using hc, t', rfl⟩
theorem call_tupleStr {X : Cx} (hc : X.calm = true) : CallR X (.type "tuple") rTupleStr := by
  intro pins s σ H xs us Q I r h
  obtain ⟨z, rfl, hz, q⟩ := h
  cases r with
  | cons r1 rr =>
    cases rr
    obtain ⟨t, rfl⟩ := r1
    refine call_tuple_str (I.ok.hd hc) z t (fun h' tk acc kp hacc => ?_) hz
    have I1 : Inv X pins σ H { s with heap := h', toks := tk } := I.kept (t' := tk) kp
    have hl : (signs z).length ≤ sizeLine := by
      have : (signs z).length = z.length := by simp [signs, Str.length]
      rw [this]; exact hz
    have e : acc = acc.toList.toArray := by simp
    have I2 : Inv X pins σ (upd H h'.objs.size (.tup (signs z))) { s with heap := h'.push { cls := .type "tuple", data := .seq acc }, toks := tk } := by
      rw [e]
      exact I1.laid (t' := tk) (fun b o e => Heap.get?_push_of_some _ e) (Nat.le_refl _) (show ObjOk X.prog X.w _ _ _ (.tup (signs z)) from ⟨hl, acc.toList, vals_signs z hacc, IsTup.new _ _⟩)
    exact ⟨.ref h'.objs.size, _, I2, rfl, q _ (I1.hok.fresh (Nat.le_refl _))⟩
def rTupleA (K : PySem.W.Frag) : List V → Hp → VK → Prop := fun xs H Q => rTupleU K xs H Q ∨ rTupleStr xs H Q
theorem u_tupleA {X : Cx} (hc : X.calm = true) : CallR X (.type "tuple") (rTupleA X.K) := (u_tuple hc).or (call_tupleStr hc)
def oTupleA : List D → Option D
  | [.str l] => if l.length ≤ 100000 then some (.tup (l.map fun c => .str [c])) else none
  | ds => oTuple ds
theorem ro_tupleA {K : PySem.W.Frag} : RefOL K (rTupleA K) oTupleA := by
  intro G L H Q ds z xs h hd n q
  unfold oTupleA at h
  split at h
  · obtain ⟨v, rfl, r⟩ := RA1 hd
    rw [R] at r; subst r
    split at h
    · rename_i hl
      cases h
      refine .inr ⟨_, rfl, by rw [S_len]; exact sz hl, fun p hp => q _ _ _ (n.exn hp) ?_ (n.newG hp)⟩
      rw [signs_S]
      exact R_newT n hp (RA.map (fun c => by rw [R]) _)
    · cases h
  · exact .inl (ro_tuple h hd n q)
theorem o_tupStr {l : List Nat} {P : D → Prop} (h : l.length ≤ 100000) (q : P (.tup (l.map fun c => .str [c]))) : OkP (oTupleA [.str l]) P := ⟨_, if_pos h, q⟩
end MA
/-! QV: dicts. -/
namespace MA
open PySem PySem.Spec PyProof.Rows L2 SX
/-- a thing as a key -/
def dkOf : D → Option DK
  | .int i => some (.inl i)
  | .str l => some (.inr l)
  | _ => none
abbrev kD : DK → D
  | .inl i => .int i
  | .inr l => .str l
theorem S_inj {l m : List Nat} (h : S l = S m) : l = m := by
  have : (S l).cps = (S m).cps := by rw [h]
  have : l.toArray = m.toArray := this
  simpa using this
theorem dkey_inj {a b : DK} (h : dkey a = dkey b) : a = b := by
  cases a with
  | inl i => cases b with
    | inl j => cases h; rfl
    | inr l => cases h
  | inr l => cases b with
    | inl j => cases h
    | inr m => exact congrArg Sum.inr (S_inj (Sum.inr.inj h))
def lookD (ks : List DK) (vs : List D) (k : DK) : Option D := ((ks.zip vs).find? fun p => decide (p.1 = k)).map (·.2)
/-- in its place, or at the end -/
def putD (l : List (DK × D)) (k : DK) (d : D) : List (DK × D) := if (l.any fun p => decide (p.1 = k)) = true then l.map (fun p => if p.1 = k then (p.1, d) else p) else l ++ [(k, d)]
section
variable {K : PySem.W.Frag} {G G' H : Hp} {L : List (Addr × HO)} {te tj ta tb tc : TE} {pa pb pc pe : PP}
/-- pairs of keys and things, as the heap has them -/
def KR (K : PySem.W.Frag) (G : Hp) (l : List (DK × D)) (kvs : List (Key × V)) : Prop := kvs.map (·.1) = l.map (fun p => dkey p.1) ∧ RA K G (l.map (·.2)) (kvs.map (·.2))
theorem KR.nil : KR K G [] [] := ⟨rfl, RA.nil⟩
theorem KR.len {l : List (DK × D)} {kvs : List (Key × V)} (h : KR K G l kvs) : kvs.length = l.length := by
  have := congrArg List.length h.1
  rwa [List.length_map, List.length_map] at this
theorem KR.cons_inv {p : DK × D} {l : List (DK × D)} {kvs : List (Key × V)} (h : KR K G (p :: l) kvs) : ∃ v r, kvs = (dkey p.1, v) :: r ∧ R K G p.2 v ∧ KR K G l r := by
  cases kvs with
  | nil => exact absurd h.1 (by simp)
  | cons q r =>
    obtain ⟨h1, h2⟩ := h
    rw [List.map_cons, List.map_cons] at h1
    rw [List.map_cons, List.map_cons, RA] at h2
    obtain ⟨v, rr, e, r1, r2⟩ := h2
    injection e with e1 e2
    injection h1 with a1 a2
    refine ⟨q.2, r, ?_, by rw [e1]; exact r1, a2, by rw [e2]; exact r2⟩
    rw [← a1]
theorem KR.cons {k : DK} {d : D} {v : V} {l : List (DK × D)} {r : List (Key × V)} (h : R K G d v) (t : KR K G l r) : KR K G ((k, d) :: l) ((dkey k, v) :: r) :=
  ⟨by rw [List.map_cons, List.map_cons, t.1], RA.cons h t.2⟩
theorem KR.snoc {k : DK} {d : D} {v : V} {l : List (DK × D)} {r : List (Key × V)} (t : KR K G l r) (h : R K G d v) : KR K G (l ++ [(k, d)]) (r ++ [(dkey k, v)]) :=
  ⟨by rw [List.map_append, List.map_append, t.1]; rfl, by rw [List.map_append, List.map_append]; exact t.2.append (RA.cons h RA.nil)⟩
theorem KR.look {k : DK} : ∀ {l : List (DK × D)} {kvs : List (Key × V)}, KR K G l kvs → match (l.find? fun p => decide (p.1 = k)).map (·.2) with
    | some d => ∃ v, valV kvs (dkey k) = some v ∧ R K G d v
    | none => valV kvs (dkey k) = none
  | [], kvs, h => by
    have : kvs = [] := List.eq_nil_of_length_eq_zero h.len
    subst this
    rfl
  | p :: l, kvs, h => by
    obtain ⟨v, r, rfl, h1, h2⟩ := h.cons_inv
    rw [List.find?_cons]
    by_cases e : p.1 = k
    · rw [decide_eq_true e]
      exact ⟨v, valV_pos (by rw [e]), h1⟩
    · rw [decide_eq_false e]
      have ih := KR.look (k := k) h2
      have e2 : ¬ dkey p.1 = dkey k := fun h => e (dkey_inj h)
      rw [valV_neg (p := (dkey p.1, v)) e2]
      exact ih
theorem KR.any {k : DK} : ∀ {l : List (DK × D)} {kvs : List (Key × V)}, KR K G l kvs → (kvs.any fun kv => decide (kv.1 = dkey k)) = l.any fun p => decide (p.1 = k)
  | [], kvs, h => by
    have : kvs = [] := List.eq_nil_of_length_eq_zero h.len
    subst this
    rfl
  | p :: l, kvs, h => by
    obtain ⟨v, r, rfl, h1, h2⟩ := h.cons_inv
    rw [List.any_cons, List.any_cons, KR.any h2]
    congr 1
    exact decide_eq_decide.mpr ⟨fun h => dkey_inj h, fun h => by rw [h]⟩
theorem KR.map {k : DK} {d : D} {v : V} (hd : R K G d v) : ∀ {l : List (DK × D)} {kvs : List (Key × V)}, KR K G l kvs → KR K G (l.map fun p => if p.1 = k then (p.1, d) else p) (kvs.map fun kv => if kv.1 = dkey k then (kv.1, v) else kv)
  | [], kvs, h => by
    have : kvs = [] := List.eq_nil_of_length_eq_zero h.len
    subst this
    exact KR.nil
  | p :: l, kvs, h => by
    obtain ⟨u, r, rfl, h1, h2⟩ := h.cons_inv
    rw [List.map_cons, List.map_cons]
    by_cases e : p.1 = k
    · rw [if_pos e, if_pos (by rw [e])]
      exact KR.cons hd (KR.map hd h2)
    · rw [if_neg e, if_neg (fun h => e (dkey_inj h))]
      exact KR.cons h1 (KR.map hd h2)
theorem KR.put {k : DK} {d : D} {v : V} {l : List (DK × D)} {kvs : List (Key × V)} (h : KR K G l kvs) (hd : R K G d v) : KR K G (putD l k d) (putK kvs (dkey k) v) := by
  unfold putD putK
  rw [h.any]
  split
  · exact h.map hd
  · exact h.snoc hd
/-- of a dict's two lists -/
theorem KR.of {ks : List DK} {vs : List D} {kvs : List (Key × V)} (h1 : kvs.map (·.1) = ks.map dkey) (h2 : RA K G vs (kvs.map (·.2))) : KR K G (ks.zip vs) kvs ∧ ks.length = vs.length := by
  have l1 : kvs.length = ks.length := by have := congrArg List.length h1; rwa [List.length_map, List.length_map] at this
  have l2 : kvs.length = vs.length := by have := h2.len; rwa [List.length_map] at this
  refine ⟨⟨?_, ?_⟩, by omega⟩
  · have e : (ks.zip vs).map (fun p => dkey p.1) = ((ks.zip vs).map Prod.fst).map dkey := by rw [List.map_map]; rfl
    rw [h1, e, List.map_fst_zip (by omega)]
  · show RA K G ((ks.zip vs).map Prod.snd) _
    rw [List.map_snd_zip (by omega)]
    exact h2
theorem KR.two {l : List (DK × D)} {kvs : List (Key × V)} (h : KR K G l kvs) : kvs.map (·.1) = (l.map (·.1)).map dkey ∧ RA K G (l.map (·.2)) (kvs.map (·.2)) := by
  refine ⟨?_, h.2⟩
  rw [h.1, List.map_map]
  rfl
theorem dk_of {d : D} {k : DK} {v : V} (h : dkOf d = some k) (r : R K G d v) : v = kV (dkey k) := by
  cases d with
  | int i => cases h; rw [R] at r; exact r
  | str l => cases h; rw [R] at r; exact r
  | _ => cases h
/-! {} -/
def enDic0 : Env → Option (Ob × Env) := fun env => some (.dk [] [], env)
theorem re_dic0 : RefEN K tDNewK enDic0 := by
  intro G L as env env' σ H Q o e ⟨Lo, re, n⟩ q
  cases e
  intro p hp
  exact q p _ G _ (Ex.refl _) ⟨[], rfl, rfl, RA.nil⟩ ⟨Lo, re, midN (n.newL hp)⟩
/-! d.get(k, x) -/
def oGet2 : D → D → D → Option D
  | .dic ks vs, k, d => (dkOf k).bind fun k => some ((lookD ks vs k).getD d)
  | _, _, _ => none
def pGet2 (pa pb pc : PP) : PP := fun env => (pa env).bind fun x => (pb env).bind fun k => (pc env).bind fun d => oGet2 x k d
theorem rp_get2 (ha : RefP K ta pa) (hb : RefP K tb pb) (hc : RefP K tc pc) : RefP K (tDGet2 ta tb tc) (pGet2 pa pb pc) := by
  intro G L env σ H Q d e re n q
  obtain ⟨x, e1, e⟩ := bind_some e
  obtain ⟨k, e2, e⟩ := bind_some e
  obtain ⟨z, e3, e⟩ := bind_some e
  cases x with
  | dic ks vs =>
    obtain ⟨k', e4, e5⟩ := bind_some e
    cases e5
    refine ha e1 re n fun v G1 H1 x1 r1 n1 => ?_
    rw [R] at r1
    obtain ⟨a, kvs, rfl, g1, g2, g3⟩ := r1
    refine ⟨a, rfl, .inl ⟨kvs, rd_ex n1.Ex g1⟩, ?_⟩
    refine hb e2 (re.ex x1) n1 fun y G2 H2 x2 r2 n2 => ?_
    refine hc e3 ((re.ex x1).ex x2) n2 fun u G3 H3 x3 r3 n3 => ?_
    have hk := dk_of e4 r2
    have hkr := (KR.of g2 g3).1
    have hlook := KR.look (k := k') hkr
    refine ⟨valV kvs (dkey k'), .inl ⟨kvs, dkey k', rd_ex n3.Ex (rd_ex x3 (rd_ex x2 g1)), hk, rfl⟩, ?_⟩
    unfold lookD at q
    cases hl : ((ks.zip vs).find? fun p => decide (p.1 = k')).map (·.2) with
    | none =>
      rw [hl] at hlook q
      have hlook' : valV kvs (dkey k') = none := hlook
      rw [hlook']
      exact q u G3 H3 ((x1.trans x2).trans x3) r3 n3
    | some d =>
      rw [hl] at hlook q
      obtain ⟨v, h1, h2⟩ := hlook
      rw [h1]
      exact q v G3 H3 ((x1.trans x2).trans x3) (R_ex (x2.trans x3) _ _ h2) n3
  | _ => cases e
theorem k_get2 {env : Env} {P : D → Prop} (h : OkP (pa env) fun x => OkP (pb env) fun k => OkP (pc env) fun d => OkP (oGet2 x k d) P) : OkP (pGet2 pa pb pc env) P := k_bind (h.imp fun _ h => k_bind (h.imp fun _ h => k_bind h))
theorem o_get2 {ks : List DK} {vs : List D} {k d : D} {k' : DK} {P : D → Prop} (h : dkOf k = some k') (q : P ((lookD ks vs k').getD d)) : OkP (oGet2 (.dic ks vs) k d) P := ⟨_, by show (dkOf k).bind _ = _; rw [h]; rfl, q⟩
/-! d[k] -/
def oDGet : D → D → Option D
  | .dic ks vs, k => (dkOf k).bind fun k => lookD ks vs k
  | _, _ => none
def pDGet (pa pb : PP) : PP := fun env => (pa env).bind fun x => (pb env).bind fun k => oDGet x k
theorem rp_dget (ha : RefP K ta pa) (hb : RefP K tb pb) : RefP K (tDGet ta tb) (pDGet pa pb) := by
  intro G L env σ H Q d e re n q
  obtain ⟨x, e1, e⟩ := bind_some e
  obtain ⟨k, e2, e⟩ := bind_some e
  cases x with
  | dic ks vs =>
    obtain ⟨k', e4, e5⟩ := bind_some e
    refine ha e1 re n fun v G1 H1 x1 r1 n1 => ?_
    rw [R] at r1
    obtain ⟨a, kvs, rfl, g1, g2, g3⟩ := r1
    refine hb e2 (re.ex x1) n1 fun y G2 H2 x2 r2 n2 => ?_
    have hk := dk_of e4 r2
    have hlook := KR.look (k := k') (KR.of g2 g3).1
    unfold lookD at e5
    rw [e5] at hlook
    obtain ⟨v, h1, h2⟩ := hlook
    exact ⟨a, v, rfl, .inl ⟨kvs, dkey k', rd_ex n2.Ex (rd_ex x2 g1), hk, h1.symm⟩, q v G2 H2 (x1.trans x2) (R_ex x2 _ _ h2) n2⟩
  | _ => cases e
theorem k_dget {env : Env} {P : D → Prop} (h : OkP (pa env) fun x => OkP (pb env) fun k => OkP (oDGet x k) P) : OkP (pDGet pa pb env) P := k_bind (h.imp fun _ h => k_bind h)
theorem o_dget {ks : List DK} {vs : List D} {k d : D} {k' : DK} {P : D → Prop} (h : dkOf k = some k') (h2 : lookD ks vs k' = some d) (q : P d) : OkP (oDGet (.dic ks vs) k) P := ⟨_, by show (dkOf k).bind _ = _; rw [h]; exact h2, q⟩
/-! k in d -/
def oDIn : D → D → Option Bool
  | k, .dic ks vs => (dkOf k).bind fun k => some (lookD ks vs k).isSome
  | _, _ => none
def pDIn (pa pb : PP) : PP := fun env => (pa env).bind fun k => (pb env).bind fun x => (oDIn k x).bind fun b => some (.bl b)
def pDNi (pa pb : PP) : PP := fun env => (pa env).bind fun k => (pb env).bind fun x => (oDIn k x).bind fun b => some (.bl (!b))
theorem din_ok {k x : D} {b : Bool} {y v : V} (e : oDIn k x = some b) (r1 : R K G k y) (r2 : R K G' x v) (x2 : Ex G' G') (n : Now G' L H) : ∃ a o, v = .ref a ∧ DGet H a y o ∧ o.isSome = b := by
  cases x with
  | dic ks vs =>
    obtain ⟨k', e4, e5⟩ := bind_some e
    cases e5
    rw [R] at r2
    obtain ⟨a, kvs, rfl, g1, g2, g3⟩ := r2
    have hk := dk_of e4 r1
    have hlook := KR.look (k := k') (KR.of g2 g3).1
    refine ⟨a, valV kvs (dkey k'), rfl, .inl ⟨kvs, dkey k', rd_ex n.Ex g1, hk, rfl⟩, ?_⟩
    unfold lookD
    cases hl : ((ks.zip vs).find? fun p => decide (p.1 = k')).map (·.2) with
    | none =>
      rw [hl] at hlook
      have hlook' : valV kvs (dkey k') = none := hlook
      rw [hlook']
      rfl
    | some d =>
      rw [hl] at hlook
      obtain ⟨v, h1, h2⟩ := hlook
      rw [h1]
      rfl
  | _ => cases e
theorem rp_din (ha : RefP K ta pa) (hb : RefP K tb pb) : RefP K (tDIn ta tb) (pDIn pa pb) := by
  intro G L env σ H Q d e re n q
  obtain ⟨k, e1, e⟩ := bind_some e
  obtain ⟨x, e2, e⟩ := bind_some e
  obtain ⟨b, e3, e4⟩ := bind_some e
  cases e4
  refine ha e1 re n fun y G1 H1 x1 r1 n1 => hb e2 (re.ex x1) n1 fun v G2 H2 x2 r2 n2 => ?_
  obtain ⟨a, o, h1, h2, h3⟩ := din_ok e3 r1 r2 (Ex.refl _) n2
  exact ⟨a, o, h1, h2, by rw [h3]; exact q _ G2 H2 (x1.trans x2) (by rw [R]) n2⟩
theorem rp_dni (ha : RefP K ta pa) (hb : RefP K tb pb) : RefP K (tDNotIn ta tb) (pDNi pa pb) := by
  intro G L env σ H Q d e re n q
  obtain ⟨k, e1, e⟩ := bind_some e
  obtain ⟨x, e2, e⟩ := bind_some e
  obtain ⟨b, e3, e4⟩ := bind_some e
  cases e4
  refine ha e1 re n fun y G1 H1 x1 r1 n1 => hb e2 (re.ex x1) n1 fun v G2 H2 x2 r2 n2 => ?_
  obtain ⟨a, o, h1, h2, h3⟩ := din_ok e3 r1 r2 (Ex.refl _) n2
  exact ⟨a, o, h1, h2, by rw [h3]; exact q _ G2 H2 (x1.trans x2) (by rw [R]) n2⟩
theorem k_din {env : Env} {P : D → Prop} (h : OkP (pa env) fun k => OkP (pb env) fun x => OkP (oDIn k x) fun b => P (.bl b)) : OkP (pDIn pa pb env) P := k_bind (h.imp fun _ h => k_bind (h.imp fun _ h => k_bind (h.imp fun _ q => k_some q)))
theorem k_dni {env : Env} {P : D → Prop} (h : OkP (pa env) fun k => OkP (pb env) fun x => OkP (oDIn k x) fun b => P (.bl (!b))) : OkP (pDNi pa pb env) P := k_bind (h.imp fun _ h => k_bind (h.imp fun _ h => k_bind (h.imp fun _ q => k_some q)))
theorem o_din {ks : List DK} {vs : List D} {k : D} {k' : DK} {P : Bool → Prop} (h : dkOf k = some k') (q : P (lookD ks vs k').isSome) : OkP (oDIn k (.dic ks vs)) P := ⟨_, by show (dkOf k).bind _ = _; rw [h]; rfl, q⟩
/-! list(d) -/
def onListD : List D → Option (List D)
  | [.dic ks _] => some (ks.map kD)
  | _ => none
theorem ra_keys {G : Hp} : ∀ ks : List DK, RA K G (ks.map kD) (ks.map fun k => kV (dkey k))
  | [] => RA.nil
  | .inl i :: ks => RA.cons (by show R K G (.int i) _; rw [R]; rfl) (ra_keys ks)
  | .inr l :: ks => RA.cons (by show R K G (.str l) _; rw [R]; rfl) (ra_keys ks)
/-- list(d), d in use or not -/
def rListDR : List V → Hp → VK → Prop := fun xs H Q => ∃ p kvs, xs = [.ref p] ∧ Rd H p (.dK kvs) ∧ ∀ q, H q = none → Q (.ref q) (upd H q (.lst (kvs.map fun kv => kV kv.1)))
theorem u_listDR {X : Cx} (hc : X.calm = true) : CallR X (.type "list") rListDR := by
  intro pins s σ H xs us Q I r h
  obtain ⟨p, kvs, rfl, hk, q⟩ := h
  rw [Vals.ref1 r]
  obtain ⟨z, lo, vs, rk, hd⟩ := dk_rd I.hok hk
  obtain ⟨ep, hat⟩ := hd.dictAt
  have hl : kvs.length = vs.length := Paired.length rk
  have hks := KV.keys rk
  refine PySem.W.kdl_call (PySem.W.kdl_dict (knd := mixKind X.prog X.w) (kvs := vs) (ep := ep) lo) (I.ok.hd hc) hat (by omega) fun h' tk acc m hkeep hS hacc => ?_
  have hlen : (kvs.map fun kv => kV kv.1).length = acc.toList.length := by
    have h1 := hacc.1
    have h2 : acc.toList.length = acc.size := by simp
    rw [List.length_map, h2, h1, hl]
  have hv : Vals (kvs.map fun kv => kV kv.1) acc.toList := by
    refine vals_of_at hlen fun j x w h1 h2 => ?_
    rw [Array.getElem?_toList] at h2
    obtain ⟨k, y, hky, hi⟩ := hacc.2 j w h2
    have e1 : (kvs.map (·.1))[j]? = some k := by rw [hks, List.getElem?_map, hky]; rfl
    rw [show (kvs.map fun kv => kV kv.1) = (kvs.map (·.1)).map kV by rw [List.map_map]; rfl, List.getElem?_map, e1] at h1
    cases h1
    exact keyIs_rel hi
  exact ⟨.ref s.heap.objs.size, _, I.laid hkeep (Nat.le_refl _) (show ObjOk X.prog X.w _ _ _ (.lst (kvs.map fun kv => kV kv.1)) from ⟨by rw [List.length_map]; exact z, acc.toList, m, hv, by rw [Array.toArray_toList]; exact hS⟩), rfl, q _ (I.hok.fresh (Nat.le_refl _))⟩
theorem ro_listD : RefOLN K rListDR onListD := by
  intro G L H Q ds z xs h hd n q
  unfold onListD at h
  split at h
  · obtain ⟨v, rfl, r⟩ := RA1 hd
    rw [R] at r
    obtain ⟨a, kvs, rfl, h1, h2, h3⟩ := r
    cases h
    refine ⟨a, kvs, rfl, rd_ex n.Ex h1, fun p hp => q p _ G _ (Ex.refl _) ?_ (n.newL hp)⟩
    rw [show (kvs.map fun kv => kV kv.1) = (kvs.map (·.1)).map kV by rw [List.map_map]; rfl, h2, List.map_map]
    exact ra_keys _
  · cases h
theorem o_listD {ks : List DK} {vs : List D} {PA : List D → Prop} (q : PA (ks.map kD)) : OkP (onListD [.dic ks vs]) PA := ⟨_, rfl, q⟩
/-! len(d) -/
def rLenD : List V → Hp → VK → Prop := fun xs H Q => ∃ a kvs, xs = [V.ref a] ∧ Rd H a (.dK kvs) ∧ Q (.int kvs.length) H
theorem u_lenDR {X : Cx} : CallR X (.builtin "len") rLenD := by
  intro pins s σ H xs us Q I r h
  obtain ⟨a, kvs, rfl, ha, q⟩ := h
  rw [Vals.ref1 r]
  exact d_len I ha fun t s' I' => ⟨.int kvs.length, H, I', ⟨t, rfl⟩, q⟩
def oLenD : List D → Option D
  | [.dic ks _] => some (.int (ks.length : Nat))
  | _ => none
theorem ro_lenD : RefOL K rLenD oLenD := by
  intro G L H Q ds z xs h hd n q
  unfold oLenD at h
  split at h
  · obtain ⟨v, rfl, r⟩ := RA1 hd
    rw [R] at r
    obtain ⟨a, kvs, rfl, h1, h2, h3⟩ := r
    cases h
    have l1 := congrArg List.length h2
    rw [List.length_map, List.length_map] at l1
    exact ⟨a, kvs, rfl, rd_ex n.Ex h1, q _ _ _ (Ex.refl _) (by rw [R, l1]) n⟩
  · cases h
/-! d[k] = x -/
def tSubD (i : Nat) (pj : PE') : PG' := fun d env => (obj env i).bind fun _ => (pj env).bind fun x => (obj x.2 i).bind fun o => match o with
  | .dk ks vs => (dkOf x.1).bind fun k => if ks.length < 100000 then some (setO x.2 i (.dk ((putD (ks.zip vs) k d).map (·.1)) ((putD (ks.zip vs) k d).map (·.2)))) else none
  | .l _ => none
  | .st _ _ => none
theorem rt_subD {vs : List Nat} {i : Nat} {pj : PE'} (hj : RefE K tj pj) : RefSG K vs (gSub (tVar i) tj rSetD) (tSubD i pj) := by
  intro G L as env env' σ H Q d v e w rd q
  obtain ⟨o0, z0, e⟩ := bind_some e
  obtain ⟨⟨x, e1⟩, z1, z2⟩ := bind_some e
  obtain ⟨oo, z3, z4⟩ := bind_some z2
  cases oo with
  | st _ _ => cases z4
  | l _ => cases z4
  | dk ks ds =>
  obtain ⟨k, z5, z6⟩ := bind_some z4
  split at z6
  case isFalse => cases z6
  rename_i hlen
  cases z6
  obtain ⟨Lo, re, n⟩ := w
  obtain ⟨p0, h0, L0, q1, _⟩ := re.obj z0
  refine ⟨_, q1, ?_⟩
  refine hj z1 ⟨Lo, re, n⟩ fun u G1 H1 x1 r1 ⟨Lo1, re1, n1⟩ => ?_
  have hk := dk_of z5 r1
  obtain ⟨p, hh, L', k1, k2, k3, k4⟩ := re1.obj z3
  have ep : p0 = p := by rw [q1] at k1; cases k1; rfl
  subst ep
  obtain ⟨kvs, rfl, g2, g3⟩ := k2
  have n2 := n1.permL k3
  have hkr := KR.of g2 g3
  have l1 := congrArg List.length g2
  rw [List.length_map, List.length_map] at l1
  refine w_setD (.inl ⟨kvs, dkey k, n2.get0, hk, by rw [l1]; exact Nat.lt_of_lt_of_le hlen (by rw [sizeLine_eq]; decide), rfl⟩) ?_
  have hput := (hkr.1.put (k := k) (R_ex x1 _ _ rd)).two
  obtain ⟨Lo2, k5, k6⟩ := k4 (o' := .dk ((putD (ks.zip ds) k d).map (·.1)) ((putD (ks.zip ds) k d).map (·.2))) (cs' := [(p0, .dK (putK kvs (dkey k) v))]) (Ex.refl _) ⟨_, rfl, hput.1, hput.2⟩
  exact q σ G1 _ x1 ⟨Lo2, k5, Now.permL (Lo := (p0, .dK (putK kvs (dkey k) v)) :: L') n2.set0 k6.symm⟩ (Agr.refl _ _)
theorem s_subD {i : Nat} {env : Env} {d : D} {Q : Env → Prop} {pj : PE'} {o0 : Ob} (h0 : obj env i = some o0) (h : OkE (pj env) fun x e => ∃ ks vs k, obj e i = some (.dk ks vs) ∧ dkOf x = some k ∧ ks.length < 100000 ∧ Q (setO e i (.dk ((putD (ks.zip vs) k d).map (·.1)) ((putD (ks.zip vs) k d).map (·.2))))) : OkP (tSubD i pj d env) Q := by
  unfold tSubD
  rw [h0]
  show OkP ((pj env).bind _) Q
  refine k_bindE (h.imp fun x e ⟨ks, vs, k, h1, h2, h3, q⟩ => ?_)
  show OkP ((obj e i).bind _) Q
  rw [h1]
  show OkP ((dkOf x).bind _) Q
  rw [h2]
  show OkP (if _ then _ else _) Q
  rw [if_pos h3]
  exact k_some q
/-! a def that tells a dict -/
def pCallO (f : List D → Option Ob) (ps : Env → Option (List D)) : PP := fun env => (ps env).bind fun ds => (f ds).bind fun o => match o with
  | .dk ks vs => some (.dic ks vs)
  | .l _ => none
  | .st _ _ => none
theorem rp_callO {f : List D → Option Ob} {E : XK} {tt : TA} {ps : Env → Option (List D)} (hs : RefPA K tt ps) : RefP K (tCall (sp0O K f) [] E tt) (pCallO f ps) := by
  intro G L env σ H Q d e re n q
  obtain ⟨x, e1, e2⟩ := bind_some e
  obtain ⟨o, e3, e4⟩ := bind_some e2
  cases o with
  | l _ => cases e4
  | st _ _ => cases e4
  | dk ks vs =>
    cases e4
    refine hs e1 re n fun v G1 H1 x1 r1 n1 => ?_
    refine ⟨G1, L, x, .dk ks vs, by rw [List.append_nil]; exact r1, n1, e3, fun p cs G' H' x2 ro n2 => ?_⟩
    obtain ⟨kvs, rfl, _⟩ := id ro
    have hp := n2.ap _ (List.mem_cons_self ..)
    exact q _ _ _ ((x1.trans x2).trans (Ex.new hp)) (ro.frzD hp) n2.freeze
theorem k_callO {f : List D → Option Ob} {ps : Env → Option (List D)} {env : Env} {P : D → Prop} (h : OkP (ps env) fun ds => OkP (f ds) fun o => ∃ ks vs, o = .dk ks vs ∧ P (.dic ks vs)) : OkP (pCallO f ps env) P := k_bind (h.imp fun _ h => k_bind (h.imp fun o ⟨ks, vs, h1, h2⟩ => by rw [h1]; exact k_some h2))
theorem rp_tB (h : RefP K te pe) : RefPT K (tB te) (pTest pe) := by
  intro G L env σ H Q b e re n q
  obtain ⟨x, e1, e2⟩ := bind_some e
  cases x with
  | bl c =>
    cases e2
    refine h e1 re n fun v G1 H1 x1 r1 n1 => ?_
    rw [R] at r1
    exact ⟨b, r1, q G1 H1 x1 n1⟩
  | _ => cases e2
/-! x.insert(i, d) -/
def rInsert : V → List V → Hp → VK → Prop := fun x vs H Q => ∃ (l : Addr) (xs : List V) (i : Int) (y : V), x = .ref l ∧ vs = [.int i, y] ∧ H l = some (.lst xs) ∧ xs.length < sizeLine ∧ 0 ≤ i ∧ i < 2 ^ 63 ∧ Q .non (upd H l (.lst (xs.take i.toNat ++ [y] ++ xs.drop i.toNat)))
theorem u_insert {X : Cx} : MtR X "list.insert" rInsert := mt_insert
def mInsert : List D → List D → Option (D × List D)
  | ds, [.int i, d] => if ds.length < 100000 ∧ 0 ≤ i ∧ i < 2 ^ 63 then some (.non, ds.take i.toNat ++ [d] ++ ds.drop i.toNat) else none
  | _, _ => none
theorem rm_insert : RefMut K rInsert mInsert := by
  intro G L H Q ds es ds' z p xs ys h r1 r2 n q
  unfold mInsert at h
  split at h
  · split at h
    · rename_i hj
      cases h
      rw [RA] at r2
      obtain ⟨u, r, rfl, ru, r3⟩ := r2
      obtain ⟨v, rfl, rv⟩ := RA1 r3
      rw [R] at ru; subst ru
      exact ⟨p, xs, _, v, rfl, rfl, n.get0, by rw [r1.len]; exact Nat.lt_of_lt_of_le hj.1 (by rw [sizeLine_eq]; decide), hj.2.1, hj.2.2, q _ _ _ (((r1.take _).append (RA.cons rv RA.nil)).append (r1.drop _)) (by rw [R]) n.set0⟩
    · cases h
  · cases h
theorem m_insert {P : D × List D → Prop} {ds : List D} {i : Int} {d : D} (h : ds.length < 100000 ∧ 0 ≤ i ∧ i < 2 ^ 63) (q : P (.non, ds.take i.toNat ++ [d] ++ ds.drop i.toNat)) : OkP (mInsert ds [.int i, d]) P := ⟨_, if_pos h, q⟩
theorem e_dic0 {env : Env} {PO : Ob → Env → Prop} (q : PO (.dk [] []) env) : OkE (enDic0 env) PO := k_someE q
def subDP (i : Nat) (d : D) (Q : Env → Prop) (x : D) (e : Env) : Prop := ∃ ks vs k, obj e i = some (.dk ks vs) ∧ dkOf x = some k ∧ ks.length < 100000 ∧ Q (setO e i (.dk ((putD (ks.zip vs) k d).map (·.1)) ((putD (ks.zip vs) k d).map (·.2))))
theorem s_subD0 {i : Nat} {env : Env} {d : D} {Q : Env → Prop} {pj : PE'} {o0 : Ob} (h0 : obj env i = some o0) (h : OkE (pj env) (subDP i d Q)) : OkP (tSubD i pj d env) Q := s_subD h0 h
end
/-! ### a dict by its keys and a function -/
def memK (ks : List DK) (k : DK) : Bool := ks.any fun u => decide (u = k)
theorem memK_iff {ks : List DK} {k : DK} : memK ks k = true ↔ k ∈ ks := by
  unfold memK
  rw [List.any_eq_true]
  constructor
  · rintro ⟨x, hx, h⟩
    rw [← of_decide_eq_true h]; exact hx
  · intro h
    exact ⟨k, h, decide_eq_true rfl⟩
def insK (ks : List DK) (k : DK) : List DK := if memK ks k = true then ks else ks ++ [k]
theorem zip_fun (g : DK → D) : ∀ ks : List DK, ks.zip (ks.map g) = ks.map fun k => (k, g k)
  | [] => rfl
  | k :: ks => by rw [List.map_cons, List.zip_cons_cons, zip_fun g ks]; rfl
theorem look_fun (g : DK → D) (k : DK) : ∀ ks : List DK, lookD ks (ks.map g) k = if memK ks k = true then some (g k) else none
  | [] => rfl
  | u :: ks => by
    have ih := look_fun g k ks
    unfold lookD at ih ⊢
    rw [List.map_cons, List.zip_cons_cons, List.find?_cons]
    by_cases e : u = k
    · subst e
      rw [decide_eq_true rfl, if_pos (memK_iff.mpr (List.mem_cons_self ..))]
      rfl
    · rw [decide_eq_false e]
      show (List.find? _ _).map _ = _
      rw [ih]
      have : memK (u :: ks) k = memK ks k := by unfold memK; rw [List.any_cons, decide_eq_false e, Bool.false_or]
      rw [this]
theorem put_fun (g : DK → D) (k : DK) (d : D) (ks : List DK) : putD (ks.zip (ks.map g)) k d = (insK ks k).map fun u => (u, if u = k then d else g u) := by
  rw [zip_fun]
  unfold putD insK
  have ha : ((ks.map fun k => (k, g k)).any fun p => decide (p.1 = k)) = memK ks k := by
    rw [List.any_map]
    rfl
  rw [ha]
  by_cases hm : memK ks k = true
  · rw [if_pos hm, if_pos hm, List.map_map]
    refine List.map_congr_left fun u _ => ?_
    show (if u = k then (u, d) else (u, g u)) = (u, if u = k then d else g u)
    split <;> rfl
  · rw [if_neg hm, if_neg hm, List.map_append]
    congr 1
    · refine List.map_congr_left fun u hu => ?_
      rw [if_neg (fun h => hm (memK_iff.mpr (by rw [← h]; exact hu)))]
    · show [(k, d)] = [(k, if k = k then d else g k)]
      rw [if_pos rfl]
theorem put_ks (g : DK → D) (k : DK) (d : D) (ks : List DK) : (putD (ks.zip (ks.map g)) k d).map (·.1) = insK ks k := by
  rw [put_fun, List.map_map]
  exact List.map_id' _
theorem put_vs (g : DK → D) (k : DK) (d : D) (ks : List DK) : (putD (ks.zip (ks.map g)) k d).map (·.2) = (insK ks k).map fun u => if u = k then d else g u := by
  rw [put_fun, List.map_map]
  rfl
theorem insK_mem {ks : List DK} {k u : DK} : u ∈ insK ks k ↔ u = k ∨ u ∈ ks := by
  unfold insK
  split
  · rename_i h
    exact ⟨.inr, fun h2 => h2.elim (fun e => by rw [e]; exact memK_iff.mp h) id⟩
  · rw [List.mem_append, List.mem_singleton, or_comm]
theorem insK_len (ks : List DK) (k : DK) : (insK ks k).length ≤ ks.length + 1 := by
  unfold insK
  split
  · omega
  · rw [List.length_append]; exact Nat.le_refl _
theorem insK_nodup {ks : List DK} (k : DK) (h : ks.Nodup) : (insK ks k).Nodup := by
  unfold insK
  split
  · exact h
  · rename_i hk
    rw [List.nodup_append]
    exact ⟨h, by simp, fun a ha b hb e => hk (memK_iff.mpr (by rw [← List.mem_singleton.mp hb, ← e]; exact ha))⟩
end MA
/-! ZD: dicts of texts compared. -/
namespace MA
open PySem PySem.Spec PyProof.Rows L2 SX
def vEq : V → V → Bool
  | .str x, .str y => x == y
  | _, _ => false
def hitB (ls : List (Key × V)) (p : Key × V) : Bool := match valV ls p.1 with
  | some v => vEq p.2 v
  | none => false
def eqSt (ls ks : List (Key × V)) : Bool := ks.all (hitB ls)
theorem hits_str {A : Around} {s : Shared} {ls : List (Key × V)} {vb : List (Key × Value)} (rb : KV ls vb) (ht : ∀ k v, valV ls k = some v → ∃ z, v = .str z) {ks : List (Key × V)} {va : List (Key × Value)} (ra : KV ks va) :
    (∀ p ∈ ks, ∃ z, p.2 = .str z) → PySem.W.KeqHits A s vb va (eqSt ls ks) := by
  unfold KV at ra
  induction ra with
  | nil => intro _; exact .nil
  | @cons p q ps qs h t ih =>
    intro hp
    obtain ⟨h1, h2⟩ := h
    obtain ⟨z, hz⟩ := hp p List.mem_cons_self
    obtain ⟨k, v⟩ := q
    have h1' : p.1 = k := h1
    have ih' := ih fun p' hm => hp p' (List.mem_cons_of_mem _ hm)
    show PySem.W.KeqHits A s vb ((k, v) :: qs) (hitB ls p && eqSt ls ps)
    have rr : RelO (valV ls p.1) (valueAt vb p.1) := rb.val p.1
    unfold hitB
    cases hv : valV ls p.1 with
    | none =>
      rw [hv] at rr
      have hn : valueAt vb k = none := by rw [← h1']; exact rr.none_of
      rw [Bool.false_and]
      exact .miss hn
    | some u =>
      rw [hv] at rr
      obtain ⟨y, hy, ry⟩ := rr.some_of
      obtain ⟨z2, hz2⟩ := ht _ _ hv
      rw [hz] at h2
      rw [hz2] at ry
      obtain ⟨t1, e1⟩ : ∃ t, v = Value.str z t := h2
      obtain ⟨t2, e2⟩ : ∃ t, y = Value.str z2 t := ry
      subst e1 e2
      rw [h1'] at hy
      have he : SeqAt.EqAt A s (Value.str z t1) (Value.str z2 t2) (PyData.eqv (.str z) (.str z2)) := PySem.W.keq_flat (PyProof.V.Flat.str z t1) (PyProof.V.Flat.str z2 t2)
      have hq : PyData.eqv (.str z) (.str z2) = (z == z2) := by simp [PyData.eqv]
      show PySem.W.KeqHits A s vb ((k, Value.str z t1) :: qs) (vEq p.2 u && eqSt ls ps)
      rw [hz, hz2]
      rw [hq] at he
      exact .hit hy he ih'
def rEqD (K : PySem.W.Frag) : R2 := fun x y H Q => ∃ a b ks ls, x = .ref a ∧ y = .ref b ∧ Rd H a (.dK ks) ∧ Rd H b (.dK ls) ∧ (∀ p ∈ ks, ∃ z, p.2 = .str z) ∧ (∀ k v, valV ls k = some v → ∃ z, v = .str z) ∧ Q (.bl (ks.length == ls.length && eqSt ls ks)) H
def rNeD (K : PySem.W.Frag) : R2 := fun x y H Q => ∃ a b ks ls, x = .ref a ∧ y = .ref b ∧ Rd H a (.dK ks) ∧ Rd H b (.dK ls) ∧ (∀ p ∈ ks, ∃ z, p.2 = .str z) ∧ (∀ k v, valV ls k = some v → ∃ z, v = .str z) ∧ Q (.bl (!(ks.length == ls.length && eqSt ls ks))) H
theorem op_eqD {X : Cx} (hu : X.A.units + 64 < cLine) : OpR X (compareOp .Eq) (rEqD X.K) := by
  intro pins s σ H x y v u Q I rx ry h
  obtain ⟨a, b, ks, ls, rfl, rfl, ea, eb, h1, h2, q⟩ := h
  obtain rfl : v = Value.ref a := rx
  obtain rfl : u = Value.ref b := ry
  obtain ⟨_, ya, va, ra, da⟩ := (show ObjOk X.prog X.w H s.heap a (.dK ks) from rd_of I.hok ea)
  obtain ⟨_, yb, vb, rb, db⟩ := (show ObjOk X.prog X.w H s.heap b (.dK ls) from rd_of I.hok eb)
  exact PySem.W.keq_eq (knd := mixKind X.prog X.w) (r := eqSt ls ks) ya yb da db (by omega) (fun _ => hits_str rb h2 ra h1) (fin_bl I q (by rw [ra.length, rb.length]))
theorem op_neD {X : Cx} (hu : X.A.units + 64 < cLine) : OpR X (compareOp .NotEq) (rNeD X.K) := by
  intro pins s σ H x y v u Q I rx ry h
  obtain ⟨a, b, ks, ls, rfl, rfl, ea, eb, h1, h2, q⟩ := h
  obtain rfl : v = Value.ref a := rx
  obtain rfl : u = Value.ref b := ry
  obtain ⟨_, ya, va, ra, da⟩ := (show ObjOk X.prog X.w H s.heap a (.dK ks) from rd_of I.hok ea)
  obtain ⟨_, yb, vb, rb, db⟩ := (show ObjOk X.prog X.w H s.heap b (.dK ls) from rd_of I.hok eb)
  exact PySem.W.keq_ne (knd := mixKind X.prog X.w) (r := eqSt ls ks) ya yb da db (by omega) (fun _ => hits_str rb h2 ra h1) (fin_bl I q (by rw [ra.length, rb.length]))
/-! as data -/
def lookS (ks : List DK) (ls : List (List Nat)) (k : DK) : Option (List Nat) := ((ks.zip ls).find? fun p => decide (p.1 = k)).map (·.2)
def oDEqB : D → D → Option Bool
  | .dic ks vs, .dic js us => (strsD vs).bind fun a => (strsD us).bind fun b => some (decide (ks.length = js.length) && (ks.zip a).all fun p => decide (lookS js b p.1 = some p.2))
  | _, _ => none
section
variable {K : PySem.W.Frag} {G H : Hp} {L : List (Addr × HO)} {ta tb : TE} {pa pb : PP}
theorem strs_map : ∀ {ds : List D} {ls : List (List Nat)}, strsD ds = some ls → ds = ls.map D.str
  | [], _, h => by cases h; rfl
  | .str l :: ds, _, h => by
    obtain ⟨r, h1, h2⟩ := bind_some h
    cases h2
    rw [List.map_cons, ← strs_map h1]
/-- a dict of texts in the heap -/
def KS (ks : List DK) (ls : List (List Nat)) (kvs : List (Key × V)) : Prop := kvs = (ks.zip ls).map fun p => (dkey p.1, V.str (S p.2))
theorem ra_strs {G : Hp} : ∀ {ls : List (List Nat)} {xs : List V}, RA K G (ls.map D.str) xs → xs = ls.map fun l => V.str (S l)
  | [], xs, h => by rw [List.map_nil, RA] at h; rw [h]; rfl
  | l :: ls, xs, h => by
    rw [List.map_cons, RA] at h
    obtain ⟨v, r, rfl, h1, h2⟩ := h
    rw [R] at h1
    rw [h1, ra_strs h2]
    rfl
theorem KS.of {ks : List DK} {ls : List (List Nat)} {kvs : List (Key × V)} (h1 : kvs.map (·.1) = ks.map dkey) (h2 : kvs.map (·.2) = ls.map fun l => V.str (S l)) : KS ks ls kvs := by
  unfold KS
  have e : kvs = (kvs.map (·.1)).zip (kvs.map (·.2)) := by
    rw [List.zip_map']
    exact (List.map_id' kvs).symm
  rw [e, h1, h2, List.zip_map]
  rfl
theorem KS.val {k : DK} : ∀ {ks : List DK} {ls : List (List Nat)}, valV ((ks.zip ls).map fun p => (dkey p.1, V.str (S p.2))) (dkey k) = (lookS ks ls k).map fun l => V.str (S l)
  | [], _ => rfl
  | _ :: _, [] => rfl
  | j :: ks, l :: ls => by
    have ih := KS.val (k := k) (ks := ks) (ls := ls)
    unfold lookS at ih ⊢
    rw [List.zip_cons_cons, List.map_cons, List.find?_cons]
    by_cases e : j = k
    · rw [decide_eq_true e]
      exact valV_pos (by rw [e])
    · rw [decide_eq_false e, valV_neg (p := (dkey j, V.str (S l))) (fun h => e (dkey_inj h))]
      exact ih
theorem eqD_ok {x y : D} {b : Bool} {u v : V} (e : oDEqB x y = some b) (r1 : R K G x u) (r2 : R K G y v) (n : Now G L H) : ∃ a c ks ls, u = .ref a ∧ v = .ref c ∧ Rd H a (.dK ks) ∧ Rd H c (.dK ls) ∧ (∀ p ∈ ks, ∃ z, p.2 = .str z) ∧ (∀ k v, valV ls k = some v → ∃ z, v = .str z) ∧ (ks.length == ls.length && eqSt ls ks) = b := by
  unfold oDEqB at e
  split at e
  · rename_i ks vs js us
    obtain ⟨ls, e1, e⟩ := bind_some e
    obtain ⟨ms, e2, e⟩ := bind_some e
    cases e
    rw [R] at r1 r2
    obtain ⟨a, kvs, rfl, g1, g2, g3⟩ := r1
    obtain ⟨c, jvs, rfl, h1, h2, h3⟩ := r2
    rw [strs_map e1] at g3
    rw [strs_map e2] at h3
    have s1 := KS.of g2 (ra_strs g3)
    have s2 := KS.of h2 (ra_strs h3)
    have l1 : kvs.length = ks.length := by have := congrArg List.length g2; rwa [List.length_map, List.length_map] at this
    have l2 : jvs.length = js.length := by have := congrArg List.length h2; rwa [List.length_map, List.length_map] at this
    refine ⟨a, c, kvs, jvs, rfl, rfl, rd_ex n.Ex g1, rd_ex n.Ex h1, ?_, ?_, ?_⟩
    · intro p hp
      rw [s1] at hp
      obtain ⟨q, _, rfl⟩ := List.mem_map.mp hp
      exact ⟨_, rfl⟩
    · intro k v hv
      have hm : (k, v) ∈ jvs ∨ ∃ p ∈ jvs, p.2 = v := by
        unfold valV at hv
        cases hf : jvs.find? fun kv => decide (kv.1 = k) with
        | none => rw [hf] at hv; cases hv
        | some p =>
          rw [hf] at hv
          exact .inr ⟨p, List.mem_of_find?_eq_some hf, Option.some.inj hv⟩
      rcases hm with hm | ⟨p, hm, rfl⟩
      · rw [s2] at hm
        obtain ⟨q, _, h⟩ := List.mem_map.mp hm
        exact ⟨S q.2, (congrArg Prod.snd h).symm⟩
      · rw [s2] at hm
        obtain ⟨q, _, rfl⟩ := List.mem_map.mp hm
        exact ⟨_, rfl⟩
    · have ha : eqSt jvs kvs = (ks.zip ls).all fun p => decide (lookS js ms p.1 = some p.2) := by
        unfold eqSt
        rw [show kvs = _ from s1, List.all_map]
        congr 1
        funext p
        show hitB jvs (dkey p.1, V.str (S p.2)) = _
        unfold hitB
        rw [show jvs = _ from s2, KS.val]
        cases hl : lookS js ms p.1 with
        | none => exact (decide_eq_false (fun h => nomatch h)).symm
        | some m =>
          show (S p.2 == S m) = _
          rw [S_beq_eq]
          exact decide_eq_decide.mpr ⟨fun h => by rw [h], fun h => (Option.some.inj h).symm⟩
      rw [ha, l1, l2]
      rfl
  · cases e
def pDEq (pa pb : PP) : PP := fun env => (pa env).bind fun x => (pb env).bind fun y => (oDEqB x y).bind fun b => some (.bl b)
def pDNe (pa pb : PP) : PP := fun env => (pa env).bind fun x => (pb env).bind fun y => (oDEqB x y).bind fun b => some (.bl (!b))
theorem rp_deq (ha : RefP K ta pa) (hb : RefP K tb pb) : RefP K (tOp (rEqD K) ta tb) (pDEq pa pb) := by
  intro G L env σ H Q d e re n q
  obtain ⟨x, e1, e⟩ := bind_some e
  obtain ⟨y, e2, e⟩ := bind_some e
  obtain ⟨b, e3, e4⟩ := bind_some e
  cases e4
  refine w_op (ha e1 re n fun u G1 H1 x1 r1 n1 => hb e2 (re.ex x1) n1 fun v G2 H2 x2 r2 n2 => ?_)
  obtain ⟨a, c, ks, ls, h1, h2, h3, h4, h5, h6, h7⟩ := eqD_ok e3 (R_ex x2 _ _ r1) r2 n2
  exact ⟨a, c, ks, ls, h1, h2, h3, h4, h5, h6, by rw [h7]; exact q _ G2 H2 (x1.trans x2) (by rw [R]) n2⟩
theorem rp_dne (ha : RefP K ta pa) (hb : RefP K tb pb) : RefP K (tOp (rNeD K) ta tb) (pDNe pa pb) := by
  intro G L env σ H Q d e re n q
  obtain ⟨x, e1, e⟩ := bind_some e
  obtain ⟨y, e2, e⟩ := bind_some e
  obtain ⟨b, e3, e4⟩ := bind_some e
  cases e4
  refine w_op (ha e1 re n fun u G1 H1 x1 r1 n1 => hb e2 (re.ex x1) n1 fun v G2 H2 x2 r2 n2 => ?_)
  obtain ⟨a, c, ks, ls, h1, h2, h3, h4, h5, h6, h7⟩ := eqD_ok e3 (R_ex x2 _ _ r1) r2 n2
  exact ⟨a, c, ks, ls, h1, h2, h3, h4, h5, h6, by rw [h7]; exact q _ G2 H2 (x1.trans x2) (by rw [R]) n2⟩
theorem k_deq {env : Env} {P : D → Prop} (h : OkP (pa env) fun x => OkP (pb env) fun y => OkP (oDEqB x y) fun b => P (.bl b)) : OkP (pDEq pa pb env) P := k_bind (h.imp fun _ h => k_bind (h.imp fun _ h => k_bind (h.imp fun _ q => k_some q)))
theorem k_dne {env : Env} {P : D → Prop} (h : OkP (pa env) fun x => OkP (pb env) fun y => OkP (oDEqB x y) fun b => P (.bl (!b))) : OkP (pDNe pa pb env) P := k_bind (h.imp fun _ h => k_bind (h.imp fun _ h => k_bind (h.imp fun _ q => k_some q)))
end
end MA
/-! QR: ranges from behind; displays of dicts. -/
namespace MA
open PySem PySem.Spec PyProof.Rows L2 SX
/-- lo, lo - 1, .. -/
def dwn (lo : Int) (n : Nat) : List D := (List.range n).map fun (i : Nat) => .int (lo + (i : Nat) * (-1))
theorem it_dwn {K : PySem.W.Frag} {G : Hp} (lo : Int) (n : Nat) : ItOk K G (Itc lo (-1) n) (dwn lo n) := by
  refine ⟨fun _ => True, fun k H x H' => H' = H ∧ x = .int (lo + (k : Nat) * (-1)), ?_, fun _ _ _ _ _ => trivial, fun k d G' L' H' x H'' hd e0 n0 hy => ?_⟩
  · unfold dwn Itg Itc
    rw [List.length_map, List.length_range]
    simp only [true_and]
  · obtain ⟨rfl, rfl⟩ := hy
    unfold dwn at hd
    rw [List.getElem?_map] at hd
    cases hk : (List.range n)[k]? with
    | none => rw [hk] at hd; cases hd
    | some k' =>
      obtain ⟨_, rfl⟩ := rng_at hk
      rw [hk] at hd
      cases hd
      exact ⟨G', Ex.refl _, by rw [R], n0⟩
/-! range(i, j, -1) -/
def pRngDn (ps : Env → Option (List D)) : Env → Option (List D) := fun env => (ps env).bind fun l => match l with
  | [.int i, .int j, .int c] => if c = -1 ∧ -(2 ^ 62) ≤ i ∧ i < 2 ^ 62 ∧ -(2 ^ 62) ≤ j ∧ j < 2 ^ 62 then some (dwn i (i - j).toNat) else none
  | _ => none
theorem rp_rngDn {K : PySem.W.Frag} {tt : TA} {ps : Env → Option (List D)} (h : RefPA K tt ps) : RefPI K (iRng3 tt) (pRngDn ps) := by
  intro G L env σ H Q ds e re n q
  obtain ⟨l, e1, e2⟩ := bind_some e
  match l, e1, e2 with
  | [.int i, .int j, .int c], e1, e2 =>
    simp only at e2
    split at e2
    · rename_i hj
      cases e2
      obtain ⟨rfl, hj⟩ := hj
      refine h e1 re n fun vs G1 H1 x1 r1 n1 => ?_
      rw [RA] at r1
      obtain ⟨v1, r, rfl, a1, r1⟩ := r1
      rw [RA] at r1
      obtain ⟨v2, r, rfl, a2, r1⟩ := r1
      obtain ⟨v3, rfl, a3⟩ := RA1 r1
      rw [R] at a1
      rw [R] at a2
      rw [R] at a3
      subst a1 a2 a3
      exact ⟨i, j, -1, (i - j).toNat, rfl, RgC.neg hj.1 hj.2.1 hj.2.2.1 hj.2.2.2, q _ _ _ x1 (it_dwn ..) n1⟩
    · cases e2
def rngPD (PA : List D → Prop) (l : List D) : Prop := ∃ i j : Int, l = [.int i, .int j, .int (-1)] ∧ (-(2 ^ 62) ≤ i ∧ i < 2 ^ 62 ∧ -(2 ^ 62) ≤ j ∧ j < 2 ^ 62) ∧ PA (dwn i (i - j).toNat)
theorem k_rngD1 {PA : List D → Prop} {i j : Int} (h : -(2 ^ 62) ≤ i ∧ i < 2 ^ 62 ∧ -(2 ^ 62) ≤ j ∧ j < 2 ^ 62) (q : PA (dwn i (i - j).toNat)) : rngPD PA [.int i, .int j, .int (-1)] := ⟨i, j, rfl, h, q⟩
theorem k_rngDn {ps : Env → Option (List D)} {env : Env} {PA : List D → Prop} (h : OkP (ps env) (rngPD PA)) : OkP (pRngDn ps env) PA := by
  obtain ⟨l, h1, i, j, rfl, h2, q⟩ := h
  refine ⟨_, ?_, q⟩
  unfold pRngDn
  rw [h1]
  exact if_pos ⟨rfl, h2⟩
/-! reversed(range(n)) -/
def revO (n : Int) : Option (List D) := if -(2 ^ 62) ≤ n ∧ n < 2 ^ 62 then some (dwn (n.toNat - 1) n.toNat) else none
theorem revO_nat {n : Nat} (h : (n : Int) < 2 ^ 62) : revO (n : Int) = some (dwn ((n : Int) - 1) n) := by
  unfold revO
  rw [if_pos ⟨by omega, h⟩, Int.toNat_natCast]
def pRevR (pa : PP) : Env → Option (List D) := fun env => (pa env).bind fun d => match d with
  | .int n => revO n
  | _ => none
theorem rp_revR {K : PySem.W.Frag} {ta : TE} {pa : PP} (h : RefP K ta pa) : RefPI K (iRevR (tRg1 ta)) (pRevR pa) := by
  intro G L env σ H Q ds e re n q
  obtain ⟨d, e1, e2⟩ := bind_some e
  cases d with
  | int m =>
    simp only at e2
    unfold revO at e2
    split at e2
    · rename_i hj
      cases e2
      refine h e1 re n fun v G1 H1 x1 r1 n1 => ?_
      rw [R] at r1
      refine ⟨m, r1, by decide, by decide, hj.1, hj.2, q _ _ _ x1 ?_ n1⟩
      have e : (0 : Int) + (((m - 0).toNat : Nat) : Int) - 1 = (m.toNat : Int) - 1 := by rw [Int.sub_zero]; omega
      rw [e, Int.sub_zero]
      exact it_dwn ..
    · cases e2
  | _ => cases e2
def revRP (PA : List D → Prop) (d : D) : Prop := ∃ n : Nat, d = .int (n : Int) ∧ (n : Int) < 2 ^ 62 ∧ PA (dwn ((n : Int) - 1) n)
theorem k_revR1 {PA : List D → Prop} {n : Nat} (h : (n : Int) < 2 ^ 62) (q : PA (dwn ((n : Int) - 1) n)) : revRP PA (.int (n : Int)) := ⟨n, rfl, h, q⟩
theorem k_revR {pa : PP} {env : Env} {PA : List D → Prop} (h : OkP (pa env) (revRP PA)) : OkP (pRevR pa env) PA := by
  obtain ⟨d, h1, n, rfl, h2, q⟩ := h
  have h3 := revO_nat h2
  generalize dwn ((n : Int) - 1) n = L at *
  refine ⟨L, ?_, q⟩
  unfold pRevR
  rw [h1, Option.bind_some]
  simp only []
  exact h3
/-! displays -/
def pPairs : List (DK × PP) → Env → Option (List D)
  | [], _ => some []
  | p :: l, env => (p.2 env).bind fun d => (pPairs l env).bind fun ds => some (d :: ds)
inductive RefPs (K : PySem.W.Frag) : List (TE × TE) → List (DK × PP) → Prop
  | nil : RefPs K [] []
  | cons {v : V} {k : DK} {tv : TE} {p : PP} {trs : List (TE × TE)} {l : List (DK × PP)} (hk : v = kV (dkey k)) (h : RefP K tv p) (t : RefPs K trs l) : RefPs K ((tC v, tv) :: trs) ((k, p) :: l)
theorem RefPs.run {K : PySem.W.Frag} {trs : List (TE × TE)} {l : List (DK × PP)} (h : RefPs K trs l) : ∀ {G : Hp} {L : List (Addr × HO)} {env : Env} {σ : L2.St} {H : Hp} {Q : List (V × V) → Hp → Prop} {ds : List D}, pPairs l env = some ds → RelF K G env σ → Now G L H →
    (∀ vs G' H', Ex G G' → RA K G' ds vs → Now G' L H' → Q ((l.map fun p => kV (dkey p.1)).zip vs) H') → tPairs trs σ H Q := by
  induction h with
  | nil =>
    intro G L env σ H Q ds e re n q
    cases e
    exact q [] G H (Ex.refl _) RA.nil n
  | @cons v k tv p trs l hk h t ih =>
    intro G L env σ H Q ds e re n q
    obtain ⟨d, e1, e⟩ := bind_some e
    obtain ⟨r, e2, e⟩ := bind_some e
    cases e
    subst hk
    refine h e1 re n fun u G1 H1 x1 r1 n1 => ?_
    refine ih e2 (re.ex x1) n1 fun vs G2 H2 x2 r2 n2 => ?_
    exact q (u :: vs) G2 H2 (x1.trans x2) (RA.cons (R_ex x2 _ _ r1) r2) n2
theorem merge_app : ∀ (more acc : List (Key × V)), (more.map (·.1)).Nodup → (∀ p ∈ more, ∀ q ∈ acc, q.1 ≠ p.1) → mergeK acc more = acc ++ more
  | [], acc, _, _ => by rw [List.append_nil]; rfl
  | p :: more, acc, hn, hd => by
    rw [List.map_cons, List.nodup_cons] at hn
    have e : putK acc p.1 p.2 = acc ++ [p] := by
      unfold putK
      rw [if_neg]
      intro h
      rw [List.any_eq_true] at h
      obtain ⟨q, hq, h⟩ := h
      exact hd p (List.mem_cons_self ..) q hq (of_decide_eq_true h)
    show mergeK (putK acc p.1 p.2) more = _
    rw [e, merge_app more (acc ++ [p]) hn.2 (fun r hr q hq => ?_), List.append_assoc]
    · rfl
    · rcases List.mem_append.mp hq with h | h
      · exact hd r (List.mem_cons_of_mem _ hr) q h
      · rw [List.mem_singleton.mp h]
        intro e
        exact hn.1 (List.mem_map.mpr ⟨r, hr, e.symm⟩)
def pDisp (l : List (DK × PP)) : PP := fun env => (pPairs l env).bind fun ds => some (.dic (l.map (·.1)) ds)
def ndup : List DK → Bool
  | [] => true
  | k :: l => !memK l k && ndup l
theorem ndup_ok : ∀ {l : List DK}, ndup l = true → (l.map dkey).Nodup
  | [], _ => List.nodup_nil
  | k :: l, h => by
    rw [ndup, Bool.and_eq_true] at h
    rw [List.map_cons, List.nodup_cons]
    refine ⟨fun hm => ?_, ndup_ok h.2⟩
    obtain ⟨j, hj, e⟩ := List.mem_map.mp hm
    rw [dkey_inj e] at hj
    rw [memK_iff.mpr hj] at h
    exact absurd h.1 (by decide)
theorem rp_disp {K : PySem.W.Frag} {trs : List (TE × TE)} {l : List (DK × PP)} (hn : ndup (l.map (·.1)) = true) (h15 : l.length ≤ 15) (h : RefPs K trs l) : RefP K (tDisp trs) (pDisp l) := by
  intro G L env σ H Q d e re n q
  obtain ⟨ds, e1, e2⟩ := bind_some e
  cases e2
  intro p hp
  have n1 : Now G ((p, .dK []) :: L) (upd H p (.dK [])) := n.newL hp
  refine h.run e1 re n1 fun vs G1 H1 x1 r1 n2 => ?_
  have hl : vs.length = l.length := by
    have : ∀ {l : List (DK × PP)} {ds : List D}, pPairs l env = some ds → ds.length = l.length := by
      intro l
      induction l with
      | nil => intro ds e; cases e; rfl
      | cons p l ih =>
        intro ds e
        obtain ⟨d, _, e⟩ := bind_some e
        obtain ⟨r, e2, e⟩ := bind_some e
        cases e
        rw [List.length_cons, List.length_cons, ih e2]
    rw [r1.len, this e1]
  have hk : ((l.map fun p => dkey p.1).zip vs).map (·.1) = (l.map (·.1)).map dkey := by
    show ((l.map fun p => dkey p.1).zip vs).map Prod.fst = _
    rw [List.map_fst_zip (by rw [List.length_map]; omega), List.map_map]
    rfl
  have hv : ((l.map fun p => dkey p.1).zip vs).map (·.2) = vs := by
    show ((l.map fun p => dkey p.1).zip vs).map Prod.snd = _
    rw [List.map_snd_zip (by rw [List.length_map]; omega)]
  have hm : mergeK [] ((l.map fun p => dkey p.1).zip vs) = (l.map fun p => dkey p.1).zip vs := by
    rw [merge_app _ _ (by rw [hk]; exact ndup_ok hn) (fun _ _ _ h => absurd h (List.not_mem_nil))]
    rfl
  refine ⟨n2.get0, (l.map fun p => dkey p.1).zip vs, ?_, by rw [List.length_zip, List.length_map]; omega, ?_⟩
  · have e3 : (l.map fun p => kV (dkey p.1)) = (l.map fun p => dkey p.1).map kV := by rw [List.map_map]; rfl
    rw [e3]
    have : ∀ (ks : List Key) (vs : List V), (ks.map kV).zip vs = (ks.zip vs).map fun kv => (kV kv.1, kv.2) := fun ks vs => by
      rw [List.zip_map_left]
      rfl
    exact this _ _
  · rw [hm]
    have n3 := n2.set0 (o' := .dK ((l.map fun p => dkey p.1).zip vs))
    have ro : RO K G1 (.dk (l.map (·.1)) ds) p [(p, .dK ((l.map fun p => dkey p.1).zip vs))] := ⟨_, rfl, hk, by rw [hv]; exact r1⟩
    have hp2 := n3.ap _ (List.mem_cons_self ..)
    exact q _ _ _ (x1.trans (Ex.new hp2)) (ro.frzD hp2) n3.freeze
theorem k_disp {l : List (DK × PP)} {env : Env} {P : D → Prop} (h : OkP (pPairs l env) fun ds => P (.dic (l.map (·.1)) ds)) : OkP (pDisp l env) P := k_bind (h.imp fun _ q => k_some q)
theorem k_pp0 {env : Env} {PA : List D → Prop} (q : PA []) : OkP (pPairs [] env) PA := ⟨_, rfl, q⟩
theorem k_pp1 {k : DK} {p : PP} {l : List (DK × PP)} {env : Env} {PA : List D → Prop} (h : OkP (p env) fun d => OkP (pPairs l env) fun ds => PA (d :: ds)) : OkP (pPairs ((k, p) :: l) env) PA := k_bind (h.imp fun _ h => k_bind (h.imp fun _ q => k_some q))
end MA
/-! ZU: d.update(list of pairs). -/
namespace MA
open PySem PySem.Spec PyProof.Rows L2 SX
section
variable {prog : Program} {w : World} {A : Around} {E : Value → Shared → Prop}
theorem d_updateP {s : Shared} {S l : Addr} {ol : Obj} {items : Array Value} {n : Nat} {prs acc : List (Key × Value)} {Q : Value → Shared → Prop} (hh : A.handled = none) (hm : s.heap.DictOf (mixKind prog w) S acc) (hSl : S ≠ l) (hl : s.heap.get? l = some ol) (hc : ol.cls = .type "list") (hd : ol.dict = none)
    (hdat : ol.data = .seq items n) (hsz : items.size = prs.length) (hln : acc.length + prs.length ≤ sizeLine)
    (ht : ∀ (j : Nat) (q : Key × Value), prs[j]? = some q → ∃ (b : Addr) (u : Value), items[j]? = some (.ref b) ∧ b ≠ S ∧ IsTup s.heap b #[u, q.2] ∧ keyIs q.1 u = true)
    (h : ∀ h' tk, h'.DictOf (mixKind prog w) S (merged acc prs) → (∀ b o, b ≠ S → s.heap.get? b = some o → h'.get? b = some o) → Q .none { s with heap := h', toks := tk }) :
    wpAny (model prog w) A (call (.builtin "dict.update") [.ref S, .ref l]) Q E s := by
  refine call_meetsIn PySem.F.slot_dict_update hm.typeIs PySem.F.entry_dict_update (PySem.F.args_dict_update_2 _ _)
    (S := fun A' R s' => A' = A ∧ s' = s ∧ ∀ h' tk, h'.DictOf (mixKind prog w) S (merged acc prs) → (∀ b o, b ≠ S → s.heap.get? b = some o → h'.get? b = some o) → R (.ok (.ret .none)) { s with heap := h', toks := tk })
    (fun A' R s' hS => ?_) ⟨rfl, rfl, h⟩
  obtain ⟨rfl, rfl, hq⟩ := hS
  refine PySem.meets_dict_update_arg hm.typeIs ?_
  unfold Builtin.Dict.updateFrom
  refine wpAny_bind (wpAny_typeOf (T := "list") ⟨ol, hl, hc⟩ ?_)
  rw [if_pos (by first | decide | rfl | simp)]
  refine wpAny_bind (miss_list hl hc hdat hd hh fun h1 tk1 hk1 => ?_)
  rw [if_pos (show (none : Option Value).isNone = true from rfl)]
  refine wpAny_bind (wpAny_rule ?_)
  have hl1 : h1.IsList l items := ⟨ol, hk1 _ _ hl, hc, n, hdat⟩
  have hS1 : S < h1.objs.size := by
    obtain ⟨o, _, _, ho, _⟩ := id hm
    exact Heap.lt_size (hk1 _ _ ho)
  refine wpAny_bind (wpAny_pyIter_list hl1 ?_)
  have k2 : ∀ b o, h1.get? b = some o → (h1.push { cls := .type "list_iterator", data := .fields #[.ref l, .int 0 0] }).get? b = some o := fun b o e => Heap.get?_push_of_some _ e
  have hlt : l < h1.objs.size := Heap.lt_size (hk1 _ _ hl)
  have key := upd_loop (prog := prog) (w := w) (A := A') (R := R) (S := S) (I := h1.objs.size) (l := l) (items := items) (res := Value.none) hh
    (Nat.ne_of_lt hlt) (Nat.ne_of_lt hS1) hSl prs 0 acc 0 0
    { s' with heap := h1.push { cls := .type "list_iterator", data := .fields #[.ref l, .int 0 0] }, toks := tk1 } (by rw [hsz, Nat.zero_add]) hln
    (fun j q e => by
      obtain ⟨b, u, e1, e2, e3, e4⟩ := ht j q e
      have e3' := e3.keeps fun c o z => hk1 _ _ z
      exact ⟨b, u, by rw [Nat.zero_add]; exact e1, e2, Nat.ne_of_lt e3'.lt, e3'.keeps fun c o z => k2 _ _ z, e4⟩)
    ⟨_, Heap.get?_push_size _ rfl, rfl, rfl⟩ (hl1.at fun o e => k2 _ _ e) ((hm.at fun o e => hk1 _ _ e).at fun o e => k2 _ _ e)
    (fun h' tk hd' k => hq h' tk hd' fun b o hb e => k b o hb (Nat.ne_of_lt (Heap.lt_size (hk1 _ _ e))) (k2 _ _ (hk1 _ _ e)))
  first
    | exact wpAny_pure ⟨plainId_quiet ud_plain _, key⟩
    | exact wpAny_bind (wpAny_pure (wpAny_pure ⟨plainId_quiet ud_plain _, key⟩))
end
def rUpdP (K : PySem.W.Frag) : V → List V → Hp → VK → Prop := fun x vs H Q => ∃ (a l : Addr) (ps : List Addr) (kvs more : List (Key × V)), x = .ref a ∧ vs = [.ref l] ∧ H a = some (.dK kvs) ∧ SqL K H l (ps.map V.ref) ∧ Paired (fun p kv => SqT K H p [kV kv.1, kv.2]) ps more ∧ kvs.length + more.length ≤ sizeLine ∧ Q .non (upd H a (.dK (mergeK kvs more)))
theorem u_updP {X : Cx} (hcalm : X.calm = true) : MtR X "dict.update" (rUpdP X.K) := by
  intro pins s σ H x vs v us Q I rx rv h
  obtain ⟨a, l, ps, kvs, more, rfl, rfl, ea, el, hp, hlen, q⟩ := h
  obtain rfl : v = Value.ref a := rx
  obtain ⟨u, rfl, ru⟩ := L2.vals1 rv
  obtain rfl : u = Value.ref l := ru
  obtain ⟨z, hd, vs, rel, dd⟩ := L2.dk_of I.hok ea
  obtain ⟨oa, hoa, hca⟩ := dd.typeIs
  obtain ⟨its, rv2, pl, hz⟩ := I.list el
  have ei := refs_at rv2
  subst ei
  obtain ⟨prs, rel2, hl2, hpr⟩ := pairs_of I hp
  obtain ⟨o, n, ho, hc, hdd, hdat⟩ := pl
  have hla : a ≠ l := fun e => by
    rw [e, ho] at hoa
    cases hoa
    rw [hc] at hca
    exact absurd hca (by decide)
  refine d_updateP (prs := prs) (I.ok.hd hcalm) dd hla ho hc hdd hdat (by simp [hl2]) (by rw [← rel.length, ← rel2.length]; exact hlen) (fun j q' e => ?_) fun h' tk hd' k => ?_
  · obtain ⟨b, u, e1, e2, e3⟩ := hpr j q' e
    refine ⟨b, u, by simp [e1], ?_, e2, e3⟩
    intro e
    obtain ⟨o2, h2, h3, _⟩ := id e2
    rw [e, hoa] at h2
    cases h2
    rw [h3] at hca
    exact absurd hca (by decide)
  · have he : ∃ q, h'.get? a = some q := let ⟨q, _, _, hq, _⟩ := hd'; ⟨q, hq⟩
    refine ⟨.non, _, I.write (x := a) (e := a) (by rw [ea]; exact True.intro) (.inl rfl) k he (dk_new ?_ hd (KV.merge rel2 rel) hd'), rfl, q⟩
    exact Nat.le_trans (length_mergeK more kvs) hlen
/-! the same of data -/
def pairsD : List D → Option (List (DK × D))
  | [] => some []
  | .tup [k, v] :: l => (dkOf k).bind fun k => (pairsD l).bind fun r => some ((k, v) :: r)
  | _ => none
def mrgD (l : List (DK × D)) (prs : List (DK × D)) : List (DK × D) := prs.foldl (fun acc p => putD acc p.1 p.2) l
def eUpd (i : Nat) (ps : Env → Option (List D × Env)) : PE' := fun env => (obj env i).bind fun o0 => match o0 with
  | .dk _ _ => (ps env).bind fun x => (obj x.2 i).bind fun o => (match o with
    | .dk ks vs => (match x.1 with
      | [.lst l] => (pairsD l).bind fun prs => if ks.length + prs.length ≤ 100000 then some (.non, setO x.2 i (.dk ((mrgD (ks.zip vs) prs).map (·.1)) ((mrgD (ks.zip vs) prs).map (·.2)))) else none
      | _ => none)
    | .st _ _ => none
    | .l _ => none)
  | .st _ _ => none
  | .l _ => none
section
variable {K : PySem.W.Frag} {G : Hp} {tt : TA} {ps : Env → Option (List D × Env)}
theorem pairsD_of : ∀ {l : List D} {prs : List (DK × D)} {xs : List V}, pairsD l = some prs → RA K G l xs → ∃ (as : List Addr) (more : List (Key × V)), xs = as.map V.ref ∧ Paired (fun p kv => SqT K G p [kV kv.1, kv.2]) as more ∧ KR K G prs more
  | [], prs, xs, h, r => by
    cases h
    rw [RA] at r
    subst r
    exact ⟨[], [], rfl, .nil, KR.nil⟩
  | d :: l, prs, xs, h, r => by
    rw [RA] at r
    obtain ⟨v, rr, rfl, r1, r2⟩ := r
    match d, h, r1 with
    | .tup [k, w], h, r1 =>
      obtain ⟨k', h1, h2⟩ := bind_some h
      obtain ⟨prs', h3, h4⟩ := bind_some h2
      cases h4
      rw [R] at r1
      obtain ⟨a, ys, rfl, hs, hy⟩ := r1
      rw [RA] at hy
      obtain ⟨v1, r3, rfl, g1, hy⟩ := hy
      rw [RA] at hy
      obtain ⟨v2, r4, rfl, g2, hy⟩ := hy
      rw [RA] at hy
      subst hy
      have hk := dk_of h1 g1
      subst hk
      obtain ⟨as, more, rfl, hp, hkr⟩ := pairsD_of h3 r2
      exact ⟨a :: as, (dkey k', v2) :: more, rfl, .cons hs hp, KR.cons g2 hkr⟩
theorem KR.mrg : ∀ {prs : List (DK × D)} {more : List (Key × V)} {l : List (DK × D)} {kvs : List (Key × V)}, KR K G prs more → KR K G l kvs → KR K G (mrgD l prs) (mergeK kvs more)
  | [], more, l, kvs, h, g => by
    have : more = [] := List.eq_nil_of_length_eq_zero (by rw [h.len]; rfl)
    subst this
    exact g
  | p :: prs, more, l, kvs, h, g => by
    obtain ⟨v, r, rfl, h1, h2⟩ := h.cons_inv
    have := KR.mrg (l := putD l p.1 p.2) (kvs := putK kvs (dkey p.1) v) h2 (g.put h1)
    exact this
theorem paired_ex {G' : Hp} (e : Ex G G') {as : List Addr} {more : List (Key × V)} (h : Paired (fun p kv => SqT K G p [kV kv.1, kv.2]) as more) : Paired (fun p kv => SqT K G' p [kV kv.1, kv.2]) as more := by
  induction h with
  | nil => exact .nil
  | cons h t ih => exact .cons (st_ex e h) ih
theorem re_upd {i : Nat} (hs : RefEA K tt ps) : RefE K (tBM K "dict" (rUpdP K) (tVar i) tt) (eUpd i ps) := by
  intro G L as env env' σ H Q d e w q
  obtain ⟨o0, z0, e⟩ := bind_some e
  cases o0 with
  | st _ _ => cases e
  | l _ => cases e
  | dk ks0 ds0 =>
  obtain ⟨⟨x, e1⟩, z1, z2⟩ := bind_some e
  obtain ⟨oo, z3, z4⟩ := bind_some z2
  cases oo with
  | st _ _ => cases z4
  | l _ => cases z4
  | dk ks ds =>
  match x, z4, z1 with
  | [.lst l], z4, z1 =>
  obtain ⟨prs, z5, z6⟩ := bind_some z4
  split at z6
  case isFalse => cases z6
  rename_i hlen
  cases z6
  obtain ⟨Lo, re, n⟩ := w
  obtain ⟨p0, h0, L0, q1, q2, q3, _⟩ := re.obj z0
  have hty : ∃ kvs, H p0 = some (.dK kvs) := by
    have n0 := n.permL q3
    obtain ⟨kvs, rfl, _⟩ := q2
    exact ⟨kvs, n0.get0⟩
  refine ⟨_, q1, .inr (.inr (.inl ⟨rfl, .inl hty⟩)), ?_⟩
  refine hs z1 ⟨Lo, re, n⟩ fun vs G1 H1 x1 r1 ⟨Lo1, re1, n1⟩ => ?_
  obtain ⟨p, hh, L', k1, k2, k3, k4⟩ := re1.obj z3
  have ep : p0 = p := by rw [q1] at k1; cases k1; rfl
  subst ep
  obtain ⟨kvs, rfl, g2, g3⟩ := k2
  have n2 := n1.permL k3
  have hkr := (KR.of g2 g3).1
  have l1 := congrArg List.length g2
  rw [List.length_map, List.length_map] at l1
  rw [RA] at r1
  obtain ⟨v, r, rfl, r2, r3⟩ := r1
  rw [RA] at r3
  subst r3
  rw [R] at r2
  obtain ⟨b, xs, rfl, hb, hxs⟩ := r2
  obtain ⟨as2, more, rfl, hp, hkr2⟩ := pairsD_of z5 hxs
  have hm := hkr2.len
  refine ⟨p0, b, as2, kvs, more, rfl, rfl, n2.get0, .inl (.inl (n2.ex _ _ hb)), paired_ex n2.Ex hp, by rw [l1, hm]; exact Nat.le_trans hlen (by rw [sizeLine_eq]; decide), ?_⟩
  have hput := (KR.mrg hkr2 hkr).two
  obtain ⟨Lo2, k5, k6⟩ := k4 (o' := .dk ((mrgD (ks.zip ds) prs).map (·.1)) ((mrgD (ks.zip ds) prs).map (·.2))) (cs' := [(p0, .dK (mergeK kvs more))]) (Ex.refl _) ⟨_, rfl, hput.1, hput.2⟩
  exact q _ _ _ x1 (by rw [R]) ⟨Lo2, k5, Now.permL (Lo := (p0, .dK (mergeK kvs more)) :: L') n2.set0 k6.symm⟩
end
def updP (i : Nat) (P : D → Env → Prop) (es : List D) (e : Env) : Prop := ∃ ks vs l prs, obj e i = some (.dk ks vs) ∧ es = [.lst l] ∧ pairsD l = some prs ∧ ks.length + prs.length ≤ 100000 ∧ P .non (setO e i (.dk ((mrgD (ks.zip vs) prs).map (·.1)) ((mrgD (ks.zip vs) prs).map (·.2))))
theorem e_upd {i : Nat} {ps : Env → Option (List D × Env)} {env : Env} {P : D → Env → Prop} {ks0 : List DK} {vs0 : List D} (h0 : obj env i = some (.dk ks0 vs0)) (h : OkE (ps env) (updP i P)) : OkE (eUpd i ps env) P := by
  unfold eUpd
  rw [h0]
  show OkE ((ps env).bind _) P
  refine k_bindEE (h.imp fun es e ⟨ks, vs, l, prs, h1, h2, h3, h4, q⟩ => ?_)
  subst h2
  show OkE ((obj e i).bind _) P
  rw [h1]
  show OkE ((pairsD l).bind _) P
  rw [h3]
  show OkE (if _ then _ else _) P
  rw [if_pos h4]
  exact k_someE q
/-! truth + truth -/
theorem add_bb (a b : Bool) : Gives (Builtin.«int.__add__» ⟨[.bool a, .bool b], []⟩) (.int ((if a = true then (1 : Int) else 0) + if b = true then (1 : Int) else 0)) :=
  .of_wp fun M A E s Q h => by obtain ⟨hp, g, d, tk, os⟩ := s; wp_walk; exact ⟨_, rfl, h⟩
def rAddBB : R2 := fun x y H Q => ∃ a b, x = .bl a ∧ y = .bl b ∧ Q (.int ((if a = true then (1 : Int) else 0) + if b = true then (1 : Int) else 0)) H
theorem u_addBB {X : Cx} : OpR X (binaryOp .Add) rAddBB := by
  intro pins s σ H x y v u Q I rx ry h
  obtain ⟨a, b, rfl, rfl, q⟩ := h
  cases rx
  cases ry
  exact binaryOp_gives (op := .Add) (T := "bool") rfl rfl PySem.F.fills_bool_add PySem.F.slot_bool_add PySem.F.entry_int_add (PySem.F.args_int_add_2 _ _) (add_bb a b) trivial ⟨.int _, H, I.tok _, ⟨_, rfl⟩, q⟩
def oAddBB : D → D → Option D
  | .bl a, .bl b => some (.int ((if a = true then (1 : Int) else 0) + if b = true then (1 : Int) else 0))
  | _, _ => none
theorem ro_addBB {K : PySem.W.Frag} : RefO2 K rAddBB oAddBB := by
  intro G L H Q d e z x y h hd he n q
  unfold oAddBB at h
  split at h
  · rw [R] at hd; rw [R] at he; subst hd; subst he; cases h; exact ⟨_, _, rfl, rfl, q _ _ _ (Ex.refl _) (by rw [R]) n⟩
  · cases h
theorem o_addBB {a b : Bool} {P : D → Prop} (q : P (.int ((if a = true then (1 : Int) else 0) + if b = true then (1 : Int) else 0))) : OkP (oAddBB (.bl a) (.bl b)) P := ⟨_, rfl, q⟩
end MA
/-! QK: continue. -/
namespace MA
open PySem PySem.Spec PyProof.Rows L2 SX
def sCont : PS' := fun env => some (.ct env)
theorem rs_cont {K : PySem.W.Frag} : RefS K tCont sCont := fun G L as env σ H E out e w q => by cases e; exact q σ G H (Ex.refl _) w
/-- a loop's body: it goes on, by its end or by continue, or it returns -/
def SC (x : Option Out) (N : Env → Prop) (T : D → Env → Prop) (TN : Ob → Env → Prop) : Prop := ∃ o, x = some o ∧ match o with
  | .nx e => N e
  | .ct e => N e
  | .rt d e => T d e
  | .rtN d e => TN d e
  | _ => False
section
variable {N : Env → Prop} {T : D → Env → Prop} {TN : Ob → Env → Prop} {env : Env} {pt : Env → Option (Bool × Env)} {ps pu : PS'} {pg : PG'}
theorem SC.of {x : Option Out} (h : SW x N T TN) : SC x N T TN := by
  obtain ⟨o, h1, h2⟩ := h
  refine ⟨o, h1, ?_⟩
  cases o with
  | nx e => exact h2
  | rt d e => exact h2
  | rtN d e => exact h2
  | bk e => exact h2
  | ct e => exact h2.elim
theorem s_seqC (h : SW (ps env) (fun e => SC (pu e) N T TN) T TN) : SC (sSeq ps pu env) N T TN := by
  obtain ⟨o, h1, h2⟩ := h
  unfold sSeq
  rw [h1]
  cases o with
  | nx e => exact h2
  | rt d e => exact ⟨_, rfl, h2⟩
  | rtN d e => exact ⟨_, rfl, h2⟩
  | bk e => exact h2.elim
  | ct e => exact h2.elim
/-- if c: continue -/
theorem s_ifC (h : OkE (pt env) fun b e => if b = true then N e else SC (pu e) N T TN) : SC (sSeq (sIf pt sCont sNext) pu env) N T TN := by
  obtain ⟨b, e, h1, h2⟩ := h
  unfold sSeq sIf
  rw [h1]
  cases b with
  | true => exact ⟨_, rfl, h2⟩
  | false => exact h2
theorem pfor_invC {β : Type} (enc : β → D) (I : Nat → Env → Prop) : ∀ (l : List β) (k : Nat) (e : Env), I k e →
    (∀ (j : Nat) (a : β) (e : Env), k ≤ j → l[j - k]? = some a → I j e → OkP (pg (enc a) e) fun e1 => SC (ps e1) (I (j + 1)) T TN) → (∀ e, I (k + l.length) e → N e) → SW (pfor pg ps (l.map enc) e) N T TN
  | [], k, e, h0, _, hd => ⟨_, rfl, hd e h0⟩
  | a :: l, k, e, h0, hs, hd => by
    obtain ⟨e1, g1, o, g2, g3⟩ := hs k a e (Nat.le_refl _) (by rw [Nat.sub_self]; rfl) h0
    rw [List.map_cons, pfor, g1]
    show SW ((ps e1).bind _) N T TN
    rw [g2]
    have go : ∀ e2, I (k + 1) e2 → SW (pfor pg ps (l.map enc) e2) N T TN := fun e2 g3 => by
      refine pfor_invC enc I l (k + 1) e2 g3 (fun j a e hj hl hi => hs j a e (by omega) ?_ hi) fun e h => hd e ?_
      · have : j - k = (j - (k + 1)) + 1 := by omega
        rw [this]; exact hl
      · have : k + (l.length + 1) = k + 1 + l.length := by omega
        rw [List.length_cons, this]; exact h
    cases o with
    | nx e2 => exact go e2 g3
    | ct e2 => exact go e2 g3
    | rt d e2 => exact ⟨_, rfl, g3⟩
    | rtN d e2 => exact ⟨_, rfl, g3⟩
    | bk e2 => exact g3.elim
theorem s_forC {β : Type} (enc : β → D) (I : Nat → Env → Prop) {l : List β} {e : Env} (h0 : I 0 e) (hs : ∀ (j : Nat) (a : β) (e : Env), l[j]? = some a → I j e → OkP (pg (enc a) e) fun e1 => SC (ps e1) (I (j + 1)) T TN) (hd : ∀ e, I l.length e → N e) : SW (pfor pg ps (l.map enc) e) N T TN :=
  pfor_invC enc I l 0 e h0 (fun j a e _ hl hi => hs j a e (by simpa using hl) hi) (fun e h => hd e (by rw [Nat.zero_add] at h; exact h))
end
end MA
/-! QM: defs that may change several things that they are handed; a list that may change, gone through. -/
namespace MA
open PySem PySem.Spec PyProof.Rows L2 SX
section
variable {K : PySem.W.Frag} {G G' H : Hp} {L Lo : List (Addr × HO)} {as : List Addr} {env env' : Env} {σ : L2.St}
/-- objects at their addresses -/
def ROs (K : PySem.W.Frag) (G : Hp) : List Ob → List Addr → List (List (Addr × HO)) → Prop
  | [], ps, css => ps = [] ∧ css = []
  | o :: os, ps, css => ∃ p ps' cs css', ps = p :: ps' ∧ css = cs :: css' ∧ RO K G o p cs ∧ ROs K G os ps' css'
theorem ROs.ex (e : Ex G G') : ∀ {os : List Ob} {ps : List Addr} {css : List (List (Addr × HO))}, ROs K G os ps css → ROs K G' os ps css
  | [], _, _, h => h
  | o :: os, _, _, h => by
    obtain ⟨p, ps, cs, css, h1, h2, h3, h4⟩ := h
    exact ⟨p, ps, cs, css, h1, h2, h3.ex e, ROs.ex e h4⟩
theorem ROs.nil {os : List Ob} {css : List (List (Addr × HO))} (h : ROs K G os [] css) : os = [] ∧ css = [] := by
  cases os with
  | nil => exact ⟨rfl, h.2⟩
  | cons o os => obtain ⟨p, ps, cs, css, h1, _⟩ := h; cases h1
theorem ROs.cons {os : List Ob} {p : Addr} {ps : List Addr} {css : List (List (Addr × HO))} (h : ROs K G os (p :: ps) css) : ∃ o os' cs css', os = o :: os' ∧ css = cs :: css' ∧ RO K G o p cs ∧ ROs K G os' ps css' := by
  cases os with
  | nil => cases h.1
  | cons o os => obtain ⟨p, ps, cs, css, h1, h2, h3, h4⟩ := h; cases h1; exact ⟨o, os, cs, css, rfl, h2, h3, h4⟩
/-- the objects of the slots that a mask tells -/
def objsB : List Bool → Env → Option (List Ob)
  | [], _ => some []
  | false :: m, _ :: e => objsB m e
  | true :: m, some (.m o) :: e => (objsB m e).map (o :: ·)
  | true :: m, some (.io o) :: e => (objsB m e).map (o :: ·)
  | _, _ => none
def setB : List Bool → Env → List Ob → Env
  | [], e, _ => e
  | false :: m, c :: e, os => c :: setB m e os
  | true :: m, some (.io _) :: e, o :: os => some (.io o) :: setB m e os
  | true :: m, some (.m _) :: e, o :: os => some (.m o) :: setB m e os
  | _, e, _ => e
def adrB : List Bool → L2.St → List Addr → Prop
  | [], _, ps => ps = []
  | _ :: _, [], _ => False
  | false :: m, _ :: s, ps => adrB m s ps
  | true :: m, x :: s, ps => ∃ p ps', x = some (.ref p) ∧ ps = p :: ps' ∧ adrB m s ps'
def adrL (σ : L2.St) : List Nat → List Addr → Prop
  | [], ps => ps = []
  | i :: is, ps => ∃ p ps', σ[i]? = some (some (.ref p)) ∧ ps = p :: ps' ∧ adrL σ is ps'
def idxB : Nat → List Bool → List Nat
  | _, [] => []
  | k, false :: m => idxB (k + 1) m
  | k, true :: m => k :: idxB (k + 1) m
theorem adrL_of : ∀ {m : List Bool} {k : Nat} {s : L2.St} {ps : List Addr}, (∀ j, s[j]? = σ[k + j]?) → adrB m s ps → adrL σ (idxB k m) ps
  | [], _, _, _, _, h => h
  | _ :: _, _, [], _, _, h => by cases ‹Bool› <;> exact h.elim
  | false :: m, k, x :: s, ps, hs, h => adrL_of (m := m) (k := k + 1) (s := s) (fun j => by
      have := hs (j + 1)
      rw [List.getElem?_cons_succ] at this
      rw [this, show k + (j + 1) = k + 1 + j by omega]) h
  | true :: m, k, x :: s, ps, hs, h => by
    obtain ⟨p, ps', rfl, rfl, h2⟩ := h
    refine ⟨p, ps', by have := hs 0; simpa using this.symm, rfl, adrL_of (m := m) (k := k + 1) (s := s) (fun j => ?_) h2⟩
    have := hs (j + 1)
    rw [List.getElem?_cons_succ] at this
    rw [this, show k + (j + 1) = k + 1 + j by omega]
theorem adrL_eq : ∀ {is : List Nat} {ps qs : List Addr}, adrL σ is ps → adrL σ is qs → ps = qs
  | [], _, _, h1, h2 => by rw [show _ = [] from h1, show _ = [] from h2]
  | i :: is, _, _, h1, h2 => by
    obtain ⟨p, ps, a1, rfl, a2⟩ := h1
    obtain ⟨q, qs, b1, rfl, b2⟩ := h2
    rw [a1] at b1
    cases b1
    rw [adrL_eq a2 b2]
theorem Rel.objs0 (r : Rel K G as env σ Lo) {os : List Ob} (h : objsB [] env = some os) : ∃ ps css Lo', adrB [] σ ps ∧ ROs K G os ps css ∧ Lo.Perm (css.flatten ++ Lo') ∧
    ∀ {G' : Hp} {os' : List Ob} {css' : List (List (Addr × HO))}, Ex G G' → ROs K G' os' ps css' → ∃ Lo'', Rel K G' as (setB [] env os') σ Lo'' ∧ Lo''.Perm (css'.flatten ++ Lo') := by
  cases h
  refine ⟨[], [], Lo, rfl, ⟨rfl, rfl⟩, List.Perm.refl _, fun {G' os' css'} e r' => ?_⟩
  obtain ⟨rfl, rfl⟩ := r'.nil
  exact ⟨Lo, r.ex e, List.Perm.refl _⟩
theorem Rel.objsB (r : Rel K G as env σ Lo) {m : List Bool} {os : List Ob} (h : MA.objsB m env = some os) : ∃ ps css Lo', adrB m σ ps ∧ ROs K G os ps css ∧ Lo.Perm (css.flatten ++ Lo') ∧
    ∀ {G' : Hp} {os' : List Ob} {css' : List (List (Addr × HO))}, Ex G G' → ROs K G' os' ps css' → ∃ Lo'', Rel K G' as (setB m env os') σ Lo'' ∧ Lo''.Perm (css'.flatten ++ Lo') := by
  induction r generalizing m os with
  | nil => cases m with
    | nil => exact Rel.objs0 .nil h
    | cons b m => cases b <;> cases h
  | emp r ih => cases m with
    | nil => exact Rel.objs0 (.emp r) h
    | cons b m => cases b with
      | true => cases h
      | false =>
        obtain ⟨ps, css, L', h1, h2, h3, h4⟩ := ih (m := m) (os := os) h
        refine ⟨ps, css, L', h1, h2, h3, fun {G' os' css'} e r' => ?_⟩
        obtain ⟨L2, z1, z2⟩ := h4 e r'
        exact ⟨L2, .emp z1, z2⟩
  | val hd r ih => cases m with
    | nil => exact Rel.objs0 (.val hd r) h
    | cons b m => cases b with
      | true => cases h
      | false =>
        obtain ⟨ps, css, L', h1, h2, h3, h4⟩ := ih (m := m) (os := os) h
        refine ⟨ps, css, L', h1, h2, h3, fun {G' os' css'} e r' => ?_⟩
        obtain ⟨L2, z1, z2⟩ := h4 e r'
        exact ⟨L2, .val (R_ex e _ _ hd) z1, z2⟩
  | @own as t s L o p cs hd r ih => cases m with
    | nil => exact Rel.objs0 (.own hd r) h
    | cons b m => cases b with
      | false =>
        obtain ⟨ps, css, L', h1, h2, h3, h4⟩ := ih (m := m) (os := os) h
        refine ⟨ps, css, cs ++ L', h1, h2, (h3.append_left cs).trans (pmid cs _ L'), fun {G' os' css'} e r' => ?_⟩
        obtain ⟨L2, z1, z2⟩ := h4 e r'
        exact ⟨cs ++ L2, .own (hd.ex e) z1, (z2.append_left cs).trans (pmid cs _ L')⟩
      | true =>
        obtain ⟨os1, h0, rfl⟩ := Option.map_eq_some_iff.mp (show (MA.objsB m t).map (o :: ·) = some os from h)
        obtain ⟨ps, css, L', h1, h2, h3, h4⟩ := ih (m := m) (os := os1) h0
        refine ⟨p :: ps, cs :: css, L', ⟨p, ps, rfl, rfl, h1⟩, ⟨p, ps, cs, css, rfl, rfl, hd, h2⟩, by rw [List.flatten_cons, List.append_assoc]; exact h3.append_left cs, fun {G' os' css'} e r' => ?_⟩
        obtain ⟨o', os2, cs', css2, rfl, rfl, r1, r2⟩ := r'.cons
        obtain ⟨L2, z1, z2⟩ := h4 e r2
        exact ⟨cs' ++ L2, .own r1 z1, by rw [List.flatten_cons, List.append_assoc]; exact z2.append_left cs'⟩
  | @io as t s L o p cs hd r ih => cases m with
    | nil => exact Rel.objs0 (.io hd r) h
    | cons b m => cases b with
      | false =>
        obtain ⟨ps, css, L', h1, h2, h3, h4⟩ := ih (m := m) (os := os) h
        refine ⟨ps, css, cs ++ L', h1, h2, (h3.append_left cs).trans (pmid cs _ L'), fun {G' os' css'} e r' => ?_⟩
        obtain ⟨L2, z1, z2⟩ := h4 e r'
        exact ⟨cs ++ L2, .io (hd.ex e) z1, (z2.append_left cs).trans (pmid cs _ L')⟩
      | true =>
        obtain ⟨os1, h0, rfl⟩ := Option.map_eq_some_iff.mp (show (MA.objsB m t).map (o :: ·) = some os from h)
        obtain ⟨ps, css, L', h1, h2, h3, h4⟩ := ih (m := m) (os := os1) h0
        refine ⟨p :: ps, cs :: css, L', ⟨p, ps, rfl, rfl, h1⟩, ⟨p, ps, cs, css, rfl, rfl, hd, h2⟩, by rw [List.flatten_cons, List.append_assoc]; exact h3.append_left cs, fun {G' os' css'} e r' => ?_⟩
        obtain ⟨o', os2, cs', css2, rfl, rfl, r1, r2⟩ := r'.cons
        obtain ⟨L2, z1, z2⟩ := h4 e r2
        exact ⟨cs' ++ L2, .io r1 z1, by rw [List.flatten_cons, List.append_assoc]; exact z2.append_left cs'⟩
/-! what is handed over -/
def RAVM (K : PySem.W.Frag) (G : Hp) : List Addr → List (Option D) → List V → Prop
  | ps, [], vs => ps = [] ∧ vs = []
  | ps, some d :: l, vs => ∃ v r, vs = v :: r ∧ R K G d v ∧ RAVM K G ps l r
  | ps, none :: l, vs => ∃ p ps' r, ps = p :: ps' ∧ vs = .ref p :: r ∧ RAVM K G ps' l r
theorem RAVM.len : ∀ {l : List (Option D)} {ps : List Addr} {vs : List V}, RAVM K G ps l vs → vs.length = l.length
  | [], _, _, h => by rw [h.2]; rfl
  | some d :: l, _, _, h => by obtain ⟨v, r, rfl, h2, h3⟩ := h; rw [List.length_cons, List.length_cons, h3.len]
  | none :: l, _, _, h => by obtain ⟨p, ps, r, rfl, rfl, h3⟩ := h; rw [List.length_cons, List.length_cons, h3.len]
def RefEVM (K : PySem.W.Frag) (is : List Nat) (ta : TA) (pv : Env → Option (List (Option D) × Env)) : Prop := ∀ ⦃G : Hp⦄ ⦃L : List (Addr × HO)⦄ ⦃as : List Addr⦄ ⦃env env' : Env⦄ ⦃σ : L2.St⦄ ⦃H : Hp⦄ ⦃Q : List V → Hp → Prop⦄ ⦃ds : List (Option D)⦄ ⦃ps : List Addr⦄, pv env = some (ds, env') → adrL σ is ps → Wd K G L as env σ H →
  (∀ vs G' H', Ex G G' → RAVM K G' ps ds vs → Wd K G' L as env' σ H' → Q vs H') → ta σ H Q
section
variable {tt : TA} {ta : TE} {pa : PE'} {pv : Env → Option (List (Option D) × Env)} {is : List Nat} {i : Nat} {E : XK} {m : List Bool}
theorem re_vnilM : RefEVM K [] tNil vNil := fun G L as env env' σ H Q d ps e h0 w q => by
  cases e
  exact q [] G H (Ex.refl _) ⟨h0, rfl⟩ w
theorem re_vconsM (ha : RefE K ta pa) (hs : RefEVM K is tt pv) : RefEVM K is (tCons ta tt) (vCons pa pv) := by
  intro G L as env env' σ H Q d ps e h0 w q
  obtain ⟨⟨x, e1⟩, z1, z2⟩ := bind_some e
  obtain ⟨⟨y, e2⟩, z3, z4⟩ := bind_some z2
  cases z4
  refine ha z1 w fun v G1 H1 x1 r1 w1 => ?_
  refine hs z3 h0 w1 fun u G2 H2 x2 r2 w2 => ?_
  exact q _ _ _ (x1.trans x2) ⟨_, _, rfl, R_ex x2 _ _ r1, r2⟩ w2
theorem re_vioM (hs : RefEVM K is tt pv) : RefEVM K (i :: is) (tCons (tVar i) tt) (vIo pv) := by
  intro G L as env env' σ H Q d ps e h0 w q
  obtain ⟨⟨y, e2⟩, z3, z4⟩ := bind_some e
  cases z4
  obtain ⟨p, ps', h1, rfl, h2⟩ := h0
  refine ⟨.ref p, h1, hs z3 h2 w fun u G2 H2 x2 r2 w2 => ?_⟩
  exact q _ _ _ x2 ⟨_, _, _, rfl, rfl, r2⟩ w2
abbrev FM := List (Option D) → List Ob → Option (D × List Ob)
abbrev FMN := List (Option D) → List Ob → Option (Ob × List Ob)
def spM (K : PySem.W.Frag) (f : FM) : Sp := fun vs H Q _ => ∃ G L avs os d os' ps css, RAVM K G ps avs vs ∧ ROs K G os ps css ∧ Now G (css.flatten ++ L) H ∧ f avs os = some (d, os') ∧
  ∀ v G' css' H', Ex G G' → R K G' d v → ROs K G' os' ps css' → Now G' (css'.flatten ++ L) H' → Q v H'
def spMN (K : PySem.W.Frag) (f : FMN) : Sp := fun vs H Q _ => ∃ G L avs os o os' ps css, RAVM K G ps avs vs ∧ ROs K G os ps css ∧ Now G (css.flatten ++ L) H ∧ f avs os = some (o, os') ∧
  ∀ p cs G' css' H', Ex G G' → RO K G' o p cs → ROs K G' os' ps css' → Now G' (cs ++ (css'.flatten ++ L)) H' → Q (.ref p) H'
def eCallM (f : FM) (m : List Bool) (pv : Env → Option (List (Option D) × Env)) : PE' := fun env => (objsB m env).bind fun _ => (pv env).bind fun x => (objsB m x.2).bind fun os => (f x.1 os).bind fun z => some (z.1, setB m x.2 z.2)
def enCallM (f : FMN) (m : List Bool) (pv : Env → Option (List (Option D) × Env)) : Env → Option (Ob × Env) := fun env => (objsB m env).bind fun _ => (pv env).bind fun x => (objsB m x.2).bind fun os => (f x.1 os).bind fun z => some (z.1, setB m x.2 z.2)
theorem re_callM {f : FM} (hm : idxB 0 m = is) (hs : RefEVM K is tt pv) : RefE K (tCall (spM K f) [] E tt) (eCallM f m pv) := by
  intro G L as env env' σ H Q d e w q
  obtain ⟨o0, z0, e⟩ := bind_some e
  obtain ⟨⟨x, e1⟩, z1, z2⟩ := bind_some e
  obtain ⟨os, z3, z4⟩ := bind_some z2
  obtain ⟨⟨z, os'⟩, z5, z6⟩ := bind_some z4
  cases z6
  subst hm
  obtain ⟨Lo, re, n⟩ := w
  obtain ⟨ps, css0, L0, a1, _⟩ := re.objsB z0
  have b1 := adrL_of (σ := σ) (k := 0) (fun j => by rw [Nat.zero_add]) a1
  refine hs z1 b1 ⟨Lo, re, n⟩ fun vs G1 H1 x1 r1 ⟨Lo1, re1, n1⟩ => ?_
  obtain ⟨ps', css, L', a2, k2, k3, k4⟩ := re1.objsB z3
  have ep := adrL_eq b1 (adrL_of (σ := σ) (k := 0) (fun j => by rw [Nat.zero_add]) a2)
  subst ep
  refine ⟨G1, L' ++ L, x, os, _, os', ps, css, by rw [List.append_nil]; exact r1, k2, by rw [← List.append_assoc]; exact n1.permL k3, z5, fun v G2 css2 H2 x2 r2 ro2 n2 => ?_⟩
  obtain ⟨Lo2, k5, k6⟩ := k4 x2 ro2
  exact q _ _ _ (x1.trans x2) r2 ⟨Lo2, k5, Now.permL (Lo := css2.flatten ++ L') (by rw [List.append_assoc]; exact n2) k6.symm⟩
theorem re_callMN {f : FMN} (hm : idxB 0 m = is) (hs : RefEVM K is tt pv) : RefEN K (tCall (spMN K f) [] E tt) (enCallM f m pv) := by
  intro G L as env env' σ H Q d e w q
  obtain ⟨o0, z0, e⟩ := bind_some e
  obtain ⟨⟨x, e1⟩, z1, z2⟩ := bind_some e
  obtain ⟨os, z3, z4⟩ := bind_some z2
  obtain ⟨⟨z, os'⟩, z5, z6⟩ := bind_some z4
  cases z6
  subst hm
  obtain ⟨Lo, re, n⟩ := w
  obtain ⟨ps, css0, L0, a1, _⟩ := re.objsB z0
  have b1 := adrL_of (σ := σ) (k := 0) (fun j => by rw [Nat.zero_add]) a1
  refine hs z1 b1 ⟨Lo, re, n⟩ fun vs G1 H1 x1 r1 ⟨Lo1, re1, n1⟩ => ?_
  obtain ⟨ps', css, L', a2, k2, k3, k4⟩ := re1.objsB z3
  have ep := adrL_eq b1 (adrL_of (σ := σ) (k := 0) (fun j => by rw [Nat.zero_add]) a2)
  subst ep
  refine ⟨G1, L' ++ L, x, os, _, os', ps, css, by rw [List.append_nil]; exact r1, k2, by rw [← List.append_assoc]; exact n1.permL k3, z5, fun p cs G2 css2 H2 x2 r2 ro2 n2 => ?_⟩
  obtain ⟨Lo2, k5, k6⟩ := k4 x2 ro2
  refine q _ _ _ _ (x1.trans x2) r2 ⟨Lo2, k5, midC (n2.perm ?_)⟩
  refine List.Perm.append_left cs ?_
  rw [← List.append_assoc]
  exact (k6.symm).append_right L
/-! defs -/
def envA : List (Option D) → List Ob → Env
  | [], _ => []
  | some d :: l, os => some (.v d) :: envA l os
  | none :: l, o :: os => some (.io o) :: envA l os
  | none :: l, [] => none :: envA l []
def envM (n : Nat) (avs : List (Option D)) (os : List Ob) : Env := envA avs os ++ List.replicate (n - avs.length) none
theorem relM {k : Nat} : ∀ {avs : List (Option D)} {vs : List V} {os : List Ob} {ps : List Addr} {css : List (List (Addr × HO))}, RAVM K G ps avs vs → ROs K G os ps css →
    Rel K G ps (envA avs os ++ List.replicate k none) (vs.map some ++ List.replicate k none) css.flatten
  | [], _, _, _, _, h, ro => by
    obtain ⟨rfl, rfl⟩ := h
    obtain ⟨rfl, rfl⟩ := ro.nil
    exact rel_rep k
  | some d :: l, _, os, _, _, h, ro => by
    obtain ⟨v, r, rfl, h2, h3⟩ := h
    exact .val h2 (relM h3 ro)
  | none :: l, _, _, _, _, h, ro => by
    obtain ⟨p, ps, r, rfl, rfl, h3⟩ := h
    obtain ⟨o, os, cs, css, rfl, rfl, r1, r2⟩ := ro.cons
    exact .io r1 (relM h3 r2)
def outsM : Nat → Env → List Ob
  | 0, _ => []
  | _ + 1, [] => []
  | k + 1, none :: e => outsM k e
  | k + 1, some (.v _) :: e => outsM k e
  | k + 1, some (.m _) :: e => outsM k e
  | k + 1, some (.io o) :: e => o :: outsM k e
theorem rel_outs {ps : List Addr} (r : Rel K G ps env σ Lo) : ∀ {k : Nat}, (outsM k env).length = ps.length → ∃ css Lo', ROs K G (outsM k env) ps css ∧ Lo.Perm (css.flatten ++ Lo') := by
  induction r with
  | nil => intro k h; exact ⟨[], [], by cases k <;> exact ⟨rfl, rfl⟩, List.Perm.refl _⟩
  | @emp as e s L x r ih =>
    intro k h
    cases k with
    | zero =>
      have : as = [] := List.length_eq_zero_iff.mp h.symm
      subst this
      exact ⟨[], L, ⟨rfl, rfl⟩, List.Perm.refl _⟩
    | succ k => exact ih (k := k) h
  | @val as e s L d x hd r ih =>
    intro k h
    cases k with
    | zero =>
      have : as = [] := List.length_eq_zero_iff.mp h.symm
      subst this
      exact ⟨[], L, ⟨rfl, rfl⟩, List.Perm.refl _⟩
    | succ k => exact ih (k := k) h
  | @own as e s L o p cs hd r ih =>
    intro k h
    cases k with
    | zero =>
      have : as = [] := List.length_eq_zero_iff.mp h.symm
      subst this
      exact ⟨[], cs ++ L, ⟨rfl, rfl⟩, List.Perm.refl _⟩
    | succ k =>
      obtain ⟨css, L', q1, q2⟩ := ih (k := k) h
      exact ⟨css, cs ++ L', q1, (q2.append_left cs).trans (pmid cs _ L')⟩
  | @io as e s L o p cs hd r ih =>
    intro k h
    cases k with
    | zero => cases h
    | succ k =>
      obtain ⟨css, L', q1, q2⟩ := ih (k := k) (Nat.succ.inj h)
      exact ⟨cs :: css, L', ⟨p, as, cs, css, rfl, rfl, hd, q1⟩, by rw [List.flatten_cons, List.append_assoc]; exact q2.append_left cs⟩
theorem RAVM.nones : ∀ {l : List (Option D)} {ps : List Addr} {vs : List V}, RAVM K G ps l vs → (l.filter Option.isNone).length = ps.length
  | [], _, _, h => by rw [h.1]; rfl
  | some d :: l, _, _, h => by obtain ⟨v, r, rfl, h2, h3⟩ := h; exact h3.nones
  | none :: l, _, _, h => by obtain ⟨p, ps, r, rfl, rfl, h3⟩ := h; simpa using h3.nones
def fnM (k n : Nat) (pb : PS') : FM := fun avs os => if avs.length = k ∧ (avs.filter Option.isNone).length = os.length then (pb (envM n avs os)).bind fun z => match z with
  | .rt d e => if (outsM k e).length = os.length then some (d, outsM k e) else none
  | .nx e => if (outsM k e).length = os.length then some (.non, outsM k e) else none
  | _ => none
  else none
def fnMN (k n : Nat) (pb : PS') : FMN := fun avs os => if avs.length = k ∧ (avs.filter Option.isNone).length = os.length then (pb (envM n avs os)).bind fun z => match z with
  | .rtN o e => if (outsM k e).length = os.length then some (o, outsM k e) else none
  | _ => none
  else none
theorem ROs.len : ∀ {os : List Ob} {ps : List Addr} {css : List (List (Addr × HO))}, ROs K G os ps css → os.length = ps.length
  | [], _, _, h => by rw [h.1]; rfl
  | o :: os, _, _, h => by obtain ⟨p, ps, cs, css, rfl, rfl, h3, h4⟩ := h; rw [List.length_cons, List.length_cons, h4.len]
variable {ts : TS} {ps : PS'}
theorem lnM {k n : Nat} {vs : List V} {H : Hp} {Q : VK} {E : XK} (h : spM K (fnM k n ps) vs H Q E) : vs.length = k := by
  obtain ⟨G, L, avs, os, d, os', qs, css, r, ro, nw, e, _⟩ := h
  unfold fnM at e
  split at e
  · rename_i hk; rw [r.len]; exact hk.1
  · cases e
theorem lnMN {k n : Nat} {vs : List V} {H : Hp} {Q : VK} {E : XK} (h : spMN K (fnMN k n ps) vs H Q E) : vs.length = k := by
  obtain ⟨G, L, avs, os, d, os', qs, css, r, ro, nw, e, _⟩ := h
  unfold fnMN at e
  split at e
  · rename_i hk; rw [r.len]; exact hk.1
  · cases e
theorem okM {k : Nat} {N : List Str} (h : RefS K ts ps) {vs : List V} {H : Hp} {Q : VK} {E : XK} (hs : spM K (fnM k N.length ps) vs H Q E) : ts { nx := fun _ H' => Q .non H', rt := Q } (start N vs) H := by
  obtain ⟨G, L, avs, os, d, os', qs, css, r, ro, n, e, q⟩ := hs
  unfold fnM at e
  split at e
  case isFalse => cases e
  rename_i hk
  obtain ⟨z, e1, e2⟩ := bind_some e
  have hl := ro.len
  have w : Wd K G L qs (envM N.length avs os) (start N vs) H := ⟨css.flatten, by unfold envM L2.start; rw [r.len]; exact relM r ro, n⟩
  refine h e1 w ?_
  match z, e2 with
  | .rt d' e', e2 =>
    simp only at e2
    split at e2
    case isFalse => cases e2
    rename_i ho
    cases e2
    refine fun v σ' G' H' x rd ⟨Lo, re, n'⟩ => ?_
    obtain ⟨css2, L2, k1, k2⟩ := rel_outs re (k := k) (by rw [ho, hl])
    exact q v G' css2 H' x rd k1 (((by rw [← List.append_assoc]; exact n'.permL k2 : Now G' (css2.flatten ++ (L2 ++ L)) H')).sub ((List.sublist_append_right ..).append_left css2.flatten))
  | .nx e', e2 =>
    simp only at e2
    split at e2
    case isFalse => cases e2
    rename_i ho
    cases e2
    refine fun σ' G' H' x ⟨Lo, re, n'⟩ => ?_
    obtain ⟨css2, L2, k1, k2⟩ := rel_outs re (k := k) (by rw [ho, hl])
    exact q .non G' css2 H' x (by rw [R]) k1 (((by rw [← List.append_assoc]; exact n'.permL k2 : Now G' (css2.flatten ++ (L2 ++ L)) H')).sub ((List.sublist_append_right ..).append_left css2.flatten))
theorem okMN {k : Nat} {N : List Str} (h : RefS K ts ps) {vs : List V} {H : Hp} {Q : VK} {E : XK} (hs : spMN K (fnMN k N.length ps) vs H Q E) : ts { nx := fun _ H' => Q .non H', rt := Q } (start N vs) H := by
  obtain ⟨G, L, avs, os, d, os', qs, css, r, ro, n, e, q⟩ := hs
  unfold fnMN at e
  split at e
  case isFalse => cases e
  rename_i hk
  obtain ⟨z, e1, e2⟩ := bind_some e
  have hl := ro.len
  have w : Wd K G L qs (envM N.length avs os) (start N vs) H := ⟨css.flatten, by unfold envM L2.start; rw [r.len]; exact relM r ro, n⟩
  refine h e1 w ?_
  match z, e2 with
  | .rtN o e', e2 =>
    simp only at e2
    split at e2
    case isFalse => cases e2
    rename_i ho
    cases e2
    refine fun p cs σ' G' H' x rd ⟨Lo, re, n'⟩ => ?_
    obtain ⟨css2, L2, k1, k2⟩ := rel_outs re (k := k) (by rw [ho, hl])
    have n2 := midC' n'
    have n3 : Now G' (cs ++ ((css2.flatten ++ L2) ++ L)) H' := n2.perm (List.Perm.append_left cs (k2.append_right L))
    rw [List.append_assoc] at n3
    exact q p cs G' css2 H' x rd k1 (n3.sub (((List.sublist_append_right ..).append_left css2.flatten).append_left cs))
theorem noM {vs : List V} {H : Hp} {Q : VK} {E : XK} (h : spM K (fun _ _ => none) vs H Q E) : False := by
  obtain ⟨_, _, _, _, _, _, _, _, _, _, _, e, _⟩ := h
  cases e
theorem noMN {vs : List V} {H : Hp} {Q : VK} {E : XK} (h : spMN K (fun _ _ => none) vs H Q E) : False := by
  obtain ⟨_, _, _, _, _, _, _, _, _, _, _, e, _⟩ := h
  cases e
end
/-! a list that may change, gone through by a comprehension that doesn't look at what may change -/
section
variable {vs : List Nat} {g : TG} {pg : PG'} {tt : TT} {pt : Env → Option Bool} {te : TE} {pe : PP}
def enLcH (i : Nat) (pg : PG') (pt : Env → Option Bool) (pe : PP) (vs : List Nat) : Env → Option (Ob × Env) := fun env => (obj env i).bind fun o => match o with
  | .l ds => if ds.length ≤ 100000 then (lcP pg pt pe ds (wipeF (hide env) vs)).bind fun r => some (.l r, env) else none
  | _ => none
theorem re_lcH {i : Nat} (hg : RefPG K vs g pg) (ht : RefPT K tt pt) (he : RefP K te pe) : RefEN K (tLc (iSeq K (tVar i)) g tt te vs) (enLcH i pg pt pe vs) := by
  intro G L as env env' σ H Q o e ⟨Lo, re, n⟩ q
  obtain ⟨o0, z0, e⟩ := bind_some e
  match o0, z0, e with
  | .l items, z0, e =>
    simp only at e
    split at e
    case isFalse => cases e
    rename_i hl
    obtain ⟨ds, e2, e3⟩ := bind_some e
    cases e3
    obtain ⟨p0, cs0, L0, k1, k2, k3, _⟩ := re.obj z0
    obtain ⟨xs, rfl, rax⟩ := k2
    have hm : (p0, HO.lst xs) ∈ Lo := k3.mem_iff.mpr (List.mem_cons_self ..)
    have rh := re.relH
    have gp : ∀ {G2 : Hp} {LL : List (Addr × HO)} {H2 : Hp}, (∀ q ∈ Lo ++ L, q ∈ LL) → Now G2 LL H2 → (Sk.lst p0).has K H2 xs := fun {G2 LL H2} hs n2 => sqL (n2.mu _ (hs _ (List.mem_append_left _ hm)))
    refine w_lc ?_
    refine ⟨_, k1, ?_⟩
    refine ⟨.lst p0, xs, rfl, gp (fun _ h => h) n, ?_⟩
    refine lc_now n (fun i acc G2 L2 => ∃ done rest, L2 = Lo ++ L ∧ Ex G G2 ∧ RA K G2 done acc ∧ done.length ≤ i ∧ lcP pg pt pe (items.drop i) (wipeF (hide env) vs) = some rest ∧ done ++ rest = ds) ⟨[], ds, rfl, Ex.refl _, RA.nil, Nat.le_refl _, e2, rfl⟩ ?_ ?_ ?_
    · rintro i acc G2 L2 H2 ⟨done, rest, rfl, x2, _⟩ n2
      exact gp (fun _ h => by first | exact h | exact List.mem_cons_of_mem _ h) n2
    · rintro Da i x H2 H3 acc G2 L2 hil ⟨done, rest, rfl, x2, ra, hdl, el, ed⟩ n2 ⟨eh, ex⟩
      subst eh
      have hil' : i < items.length := by rw [← rax.len]; exact hil
      have hd : items[i]? = some (items[i]'hil') := List.getElem?_eq_getElem hil'
      obtain ⟨v, q1, rd⟩ := rax.get hd
      rw [ex] at q1
      cases q1
      rw [List.drop_eq_getElem_cons hil', lcP] at el
      obtain ⟨en, el1, el2⟩ := bind_some el
      obtain ⟨b, el3, el4⟩ := bind_some el2
      refine hg el1 ((rh.ex x2).wipe vs) (R_ex x2 _ _ rd) n2 fun σ2 re2 ag => ⟨wipe_agr ag, ?_⟩
      refine ht el3 re2 n2 fun G4 H4 x4 n4 => ?_
      cases b with
      | false => exact ⟨_, _, _, ⟨done, rest, rfl, x2.trans x4, RA_ex x4 _ _ ra, by omega, el4, ed⟩, n4⟩
      | true =>
        obtain ⟨z, el5, el6⟩ := bind_some el4
        obtain ⟨rs, el7, el8⟩ := bind_some el6
        cases el8
        refine he el5 (re2.ex x4) n4 fun w G5 H5 x5 r5 n5 => ?_
        refine LcP.add n5 (by rw [ra.len]; omega) ⟨done ++ [z], rs, rfl, (x2.trans x4).trans x5, (RA_ex (x4.trans x5) _ _ ra).append (RA.cons r5 RA.nil), by rw [List.length_append]; simp; omega, el7, by rw [← ed]; simp⟩
    · rintro Da H2 acc G2 L2 ⟨done, rest, rfl, x2, ra, hdl, el, ed⟩ n2
      have hxl := rax.len
      rw [List.drop_eq_nil_of_le (by omega), lcP] at el
      cases el
      rw [List.append_nil] at ed
      subst ed
      exact q _ _ _ _ x2 ⟨_, rfl, ra⟩ ⟨Lo, re.ex x2, midN n2⟩
end
/-! the plain walk -/
section
variable {P : D → Env → Prop} {PO : Ob → Env → Prop} {m : List Bool}
def ioPM (f : FM) (m : List Bool) (P : D → Env → Prop) (ds : List (Option D)) (e : Env) : Prop := ∃ os, objsB m e = some os ∧ OkP (f ds os) fun z => P z.1 (setB m e z.2)
theorem e_io1M {f : FM} {ds : List (Option D)} {os : List Ob} (h : objsB m env = some os) (q : OkP (f ds os) fun z => P z.1 (setB m env z.2)) : ioPM f m P ds env := ⟨os, h, q⟩
theorem e_callM {f : FM} {pv : Env → Option (List (Option D) × Env)} {o0 : List Ob} (h0 : objsB m env = some o0) (h : OkE (pv env) (ioPM f m P)) : OkE (eCallM f m pv env) P := by
  unfold eCallM
  rw [h0]
  show OkE ((pv env).bind _) P
  refine k_bindEE (h.imp fun ds e ⟨ob, h1, h2⟩ => ?_)
  show OkE ((objsB m e).bind _) P
  rw [h1]
  show OkE ((f ds ob).bind _) P
  exact k_bindPE (h2.imp fun _ q => k_someE q)
def ioPMN (f : FMN) (m : List Bool) (P : Ob → Env → Prop) (ds : List (Option D)) (e : Env) : Prop := ∃ os, objsB m e = some os ∧ OkP (f ds os) fun z => P z.1 (setB m e z.2)
theorem e_io1MN {f : FMN} {ds : List (Option D)} {os : List Ob} (h : objsB m env = some os) (q : OkP (f ds os) fun z => PO z.1 (setB m env z.2)) : ioPMN f m PO ds env := ⟨os, h, q⟩
theorem e_callMN {f : FMN} {pv : Env → Option (List (Option D) × Env)} {o0 : List Ob} (h0 : objsB m env = some o0) (h : OkE (pv env) (ioPMN f m PO)) : OkE (enCallM f m pv env) PO := by
  unfold enCallM
  rw [h0]
  show OkE ((pv env).bind _) PO
  refine k_bindEE (h.imp fun ds e ⟨ob, h1, h2⟩ => ?_)
  show OkE ((objsB m e).bind _) PO
  rw [h1]
  show OkE ((f ds ob).bind _) PO
  exact k_bindPE (h2.imp fun _ q => k_someE q)
theorem e_lcH {i : Nat} {pg : PG'} {pt : Env → Option Bool} {pe : PP} {vs : List Nat} {ds : List D} (h : obj env i = some (.l ds)) (h2 : ds.length ≤ 100000) (q : OkP (lcP pg pt pe ds (wipeF (hide env) vs)) fun r => PO (.l r) env) : OkE (enLcH i pg pt pe vs env) PO := by
  unfold enLcH
  rw [h]
  show OkE (if ds.length ≤ 100000 then _ else _) PO
  rw [if_pos h2]
  exact k_bindPE (q.imp fun _ q => k_someE q)
theorem fM_of {k n : Nat} {pb : PS'} {avs : List (Option D)} {os : List Ob} {P : D × List Ob → Prop} (h : avs.length = k) (h1 : (avs.filter Option.isNone).length = os.length)
    (q : SW (pb (envM n avs os)) (fun e => (outsM k e).length = os.length ∧ P (.non, outsM k e)) (fun d e => (outsM k e).length = os.length ∧ P (d, outsM k e)) (fun _ _ => False)) : OkP (fnM k n pb avs os) P := by
  unfold fnM
  rw [if_pos ⟨h, h1⟩]
  obtain ⟨o, h1, h2⟩ := q
  rw [h1]
  cases o with
  | nx e => obtain ⟨g1, g2⟩ := h2; exact ⟨_, by show (if _ then _ else _) = _; rw [if_pos g1], g2⟩
  | rt d e => obtain ⟨g1, g2⟩ := h2; exact ⟨_, by show (if _ then _ else _) = _; rw [if_pos g1], g2⟩
  | _ => exact h2.elim
theorem fMN_of {k n : Nat} {pb : PS'} {avs : List (Option D)} {os : List Ob} {P : Ob × List Ob → Prop} (h : avs.length = k) (h1 : (avs.filter Option.isNone).length = os.length)
    (q : SW (pb (envM n avs os)) (fun _ => False) (fun _ _ => False) (fun o e => (outsM k e).length = os.length ∧ P (o, outsM k e))) : OkP (fnMN k n pb avs os) P := by
  unfold fnMN
  rw [if_pos ⟨h, h1⟩]
  obtain ⟨o, h1, h2⟩ := q
  rw [h1]
  cases o with
  | rtN d e => obtain ⟨g1, g2⟩ := h2; exact ⟨_, by show (if _ then _ else _) = _; rw [if_pos g1], g2⟩
  | _ => exact h2.elim
end
end
end MA
/-! QN: None in a list or a tuple of any things. -/
namespace MA
open PySem PySem.Spec PyProof.Rows L2 SX
def isNoV : V → Bool
  | .non => true
  | _ => false
def isNoU : Value → Bool
  | .none => true
  | _ => false
theorem isNo_of {v : V} {u : Value} (r : RelV v u) : isNoU u = isNoV v := by
  cases v with
  | non => rw [show u = Value.none from r]; rfl
  | bl b => rw [show u = Value.bool b from r]; rfl
  | int i => obtain ⟨t, rfl⟩ := r; rfl
  | str x => obtain ⟨t, rfl⟩ := r; rfl
  | byt b => obtain ⟨t, rfl⟩ := r; rfl
  | flt b => obtain ⟨t, rfl⟩ := r; rfl
  | ref a => rw [show u = Value.ref a from r]; rfl
  | ty n => rw [show u = Value.type n from r]; rfl
theorem any_isNo : ∀ {xs : List V} {us : List Value}, Vals xs us → us.any isNoU = xs.any isNoV
  | _, _, .nil => rfl
  | _, _, .cons r t => by rw [List.any_cons, List.any_cons, isNo_of r, any_isNo t]
/-- flat, or a tuple, or a list -/
def seqOk (K : PySem.W.Frag) (H : Hp) (v : V) : Prop := flatV v = true ∨ ∃ a ys, v = .ref a ∧ (SqL K H a ys ∨ SqT K H a ys)
def rInN (K : PySem.W.Frag) (neg : Bool) : R2 := fun x y H Q => ∃ p xs, x = .non ∧ y = .ref p ∧ (SqL K H p xs ∨ SqT K H p xs) ∧ (∀ v ∈ xs, seqOk K H v) ∧ Q (.bl (if neg then !xs.any isNoV else xs.any isNoV)) H
section
variable {X : Cx}
theorem eqAt_no {A : Around} {pins : List (Addr × Obj)} {s : Shared} {σ : L2.St} {H : Hp} (hu : A.units < cLine) (I : Inv X pins σ H s) : ∀ {xs : List V} {us : List Value}, Vals xs us → (∀ v ∈ xs, seqOk X.K H v) → ∀ u ∈ us, SeqAt.EqAt A s u .none (isNoU u)
  | _, _, .nil, _ => fun u hu => by cases hu
  | v :: xs, u :: us, .cons r t, f => fun u' hm => by
    rcases List.mem_cons.mp hm with rfl | hm
    · rw [isNo_of r]
      rcases f v (List.mem_cons_self ..) with fv | ⟨a, ys, rfl, hq⟩
      · have := eqAt_V (A := A) (s := s) r (show RelV .non Value.none from rfl) fv rfl
        rw [show isNoV v = eqV v .non by cases v <;> rfl]
        exact this
      · have e : u' = Value.ref a := r
        subst e
        rcases hq with hq | hq
        · obtain ⟨its, _, pl, _⟩ := I.list hq
          exact SeqAt.EqAt.list_none pl.isList hu
        · obtain ⟨its, _, pl, _⟩ := I.tuple hq
          exact SeqAt.EqAt.tuple_none (show s.heap.IsTuple a its.toArray from pl) hu
    · exact eqAt_no hu I t (fun v hv => f v (List.mem_cons_of_mem _ hv)) u' hm
theorem op_inN (hu : X.A.units + 64 < cLine) : OpR X (compareOp .In) (rInN X.K false) := by
  intro pins s σ H x y v u Q I rx ry h
  obtain ⟨p, xs, rfl, rfl, hq, fs, q⟩ := h
  cases ry
  have rx' : v = Value.none := rx
  subst rx'
  rcases hq with hq | hq
  · obtain ⟨its, r, pl, hz⟩ := I.list hq
    refine SeqAt.in_listAt isNoU pl.isList (fun w hw => eqAt_no (A := X.A.in1) (by show X.A.units + 1 < cLine; omega) I r fs w (by simpa using hw)) ⟨.bl _, H, I, rfl, ?_⟩
    rw [show its.toArray.any isNoU = its.any isNoU by simp, any_isNo r]
    exact q
  · obtain ⟨its, r, pl, hz⟩ := I.tuple hq
    refine SeqAt.in_tupleAt isNoU pl (fun w hw => eqAt_no (A := X.A.in1) (by show X.A.units + 1 < cLine; omega) I r fs w (by simpa using hw)) ⟨.bl _, H, I, rfl, ?_⟩
    rw [show its.toArray.any isNoU = its.any isNoU by simp, any_isNo r]
    exact q
theorem op_niN (hu : X.A.units + 64 < cLine) : OpR X (compareOp .NotIn) (rInN X.K true) := by
  intro pins s σ H x y v u Q I rx ry h
  obtain ⟨p, xs, rfl, rfl, hq, fs, q⟩ := h
  cases ry
  have rx' : v = Value.none := rx
  subst rx'
  rcases hq with hq | hq
  · obtain ⟨its, r, pl, hz⟩ := I.list hq
    refine SeqAt.notIn_listAt isNoU pl.isList (fun w hw => eqAt_no (A := X.A.in1) (by show X.A.units + 1 < cLine; omega) I r fs w (by simpa using hw)) ⟨.bl _, H, I, rfl, ?_⟩
    rw [show its.toArray.any isNoU = its.any isNoU by simp, any_isNo r]
    exact q
  · obtain ⟨its, r, pl, hz⟩ := I.tuple hq
    refine SeqAt.notIn_tupleAt isNoU pl (fun w hw => eqAt_no (A := X.A.in1) (by show X.A.units + 1 < cLine; omega) I r fs w (by simpa using hw)) ⟨.bl _, H, I, rfl, ?_⟩
    rw [show its.toArray.any isNoU = its.any isNoU by simp, any_isNo r]
    exact q
end
section
variable {K : PySem.W.Frag} {G H : Hp} {L : List (Addr × HO)}
/-- texts, numbers, truths, None, lists, tuples -/
def D.sq : D → Bool
  | .dic _ _ => false
  | _ => true
theorem R.seqOk {d : D} {v : V} (h : R K G d v) (hd : d.sq = true) (n : Now G L H) : MA.seqOk K H v ∧ isNoV v = isNone d := by
  cases d with
  | dic _ _ => cases hd
  | non => rw [R] at h; subst h; exact ⟨.inl rfl, rfl⟩
  | bl b => rw [R] at h; subst h; exact ⟨.inl rfl, rfl⟩
  | int i => rw [R] at h; subst h; exact ⟨.inl rfl, rfl⟩
  | str l => rw [R] at h; subst h; exact ⟨.inl rfl, rfl⟩
  | lst l => rw [R] at h; obtain ⟨a, xs, rfl, h1, h2⟩ := h; exact ⟨.inr ⟨a, xs, rfl, .inl (sqL (n.ex _ _ h1))⟩, rfl⟩
  | tup l => rw [R] at h; obtain ⟨a, xs, rfl, h1, h2⟩ := h; exact ⟨.inr ⟨a, xs, rfl, .inr (st_ex n.Ex h1)⟩, rfl⟩
  | scr l => rw [R] at h; obtain ⟨a, rfl, h1⟩ := h; exact ⟨.inr ⟨a, _, rfl, .inl (sq_ex n.Ex h1)⟩, rfl⟩
theorem RA.seqOk (n : Now G L H) : ∀ {ds : List D} {xs : List V}, RA K G ds xs → ds.all D.sq = true → (∀ v ∈ xs, MA.seqOk K H v) ∧ xs.any isNoV = ds.any isNone
  | [], _, h, _ => by rw [RA] at h; subst h; exact ⟨fun _ h => (nomatch h), rfl⟩
  | d :: ds, _, h, hd => by
    rw [RA] at h
    obtain ⟨v, r, rfl, h1, h2⟩ := h
    rw [List.all_cons, Bool.and_eq_true] at hd
    obtain ⟨a1, a2⟩ := R.seqOk h1 hd.1 n
    obtain ⟨b1, b2⟩ := RA.seqOk n h2 hd.2
    refine ⟨fun x hx => ?_, by rw [List.any_cons, List.any_cons, a2, b2]⟩
    rcases List.mem_cons.mp hx with rfl | hx
    · exact a1
    · exact b1 x hx
def oNinB : D → D → Option Bool
  | .non, .lst l => if l.all D.sq then some (l.any isNone) else none
  | .non, .tup l => if l.all D.sq then some (l.any isNone) else none
  | _, _ => none
def oNin (d e : D) : Option D := (oNinB d e).bind fun b => some (.bl b)
def oNni (d e : D) : Option D := (oNinB d e).bind fun b => some (.bl (!b))
theorem nin_ok {d e : D} {x y : V} {b : Bool} (h : oNinB d e = some b) (hd : R K G d x) (he : R K G e y) (n : Now G L H) : ∃ p xs, x = .non ∧ y = .ref p ∧ (SqL K H p xs ∨ SqT K H p xs) ∧ (∀ v ∈ xs, seqOk K H v) ∧ xs.any isNoV = b := by
  unfold oNinB at h
  split at h
  · split at h
    · rename_i hs
      cases h
      rw [R] at hd; rw [R] at he
      obtain ⟨a, xs, rfl, h1, h2⟩ := he
      obtain ⟨b1, b2⟩ := RA.seqOk n h2 hs
      exact ⟨a, xs, hd, rfl, .inl (sqL (n.ex _ _ h1)), b1, b2⟩
    · cases h
  · split at h
    · rename_i hs
      cases h
      rw [R] at hd; rw [R] at he
      obtain ⟨a, xs, rfl, h1, h2⟩ := he
      obtain ⟨b1, b2⟩ := RA.seqOk n h2 hs
      exact ⟨a, xs, hd, rfl, .inr (st_ex n.Ex h1), b1, b2⟩
    · cases h
  · cases h
theorem ro_nin : RefO2 K (rInN K false) oNin := by
  intro G L H Q d e z x y h hd he n q
  obtain ⟨b, h1, h2⟩ := bind_some h
  cases h2
  obtain ⟨p, xs, q1, q2, q3, q4, q5⟩ := nin_ok h1 hd he n
  refine ⟨p, xs, q1, q2, q3, q4, ?_⟩
  rw [q5]
  exact q _ _ _ (Ex.refl _) (by rw [R]; rfl) n
theorem ro_nni : RefO2 K (rInN K true) oNni := by
  intro G L H Q d e z x y h hd he n q
  obtain ⟨b, h1, h2⟩ := bind_some h
  cases h2
  obtain ⟨p, xs, q1, q2, q3, q4, q5⟩ := nin_ok h1 hd he n
  refine ⟨p, xs, q1, q2, q3, q4, ?_⟩
  rw [q5]
  exact q _ _ _ (Ex.refl _) (by rw [R]; rfl) n
end
section
variable {P : D → Prop} {ds : List D}
theorem o_ninL (h : ds.all D.sq = true) (q : P (.bl (ds.any isNone))) : OkP (oNin .non (.lst ds)) P := ⟨_, by unfold oNin oNinB; simp only [h, if_true]; rfl, q⟩
theorem o_nniL (h : ds.all D.sq = true) (q : P (.bl (!ds.any isNone))) : OkP (oNni .non (.lst ds)) P := ⟨_, by unfold oNni oNinB; simp only [h, if_true]; rfl, q⟩
end
end MA
/-! ZV: a text turned about: x[::-1]. -/
namespace MA
open PySem PySem.Spec PyProof.Rows L2 SX
def rRevT : V → Hp → VK → Prop := fun x H Q => ∃ l : List Nat, x = .str (S l) ∧ l.length ≤ 100000 ∧ Q (.str (S l.reverse)) H
theorem down_all (n : Nat) : Builtin.Str.strSliceIndices none none (-1) n = (List.range n).reverse := by
  show sliceRange ((n : Int) - 1) (-1) (-1) = _
  rw [PySem.W.krv_sliceRange, PySem.W.krv_range]
theorem down_pick (l : List Nat) : ((Builtin.Str.strSliceIndices none none (-1) (S l).length).filterMap ((S l).cps[·]?)) = l.reverse := by
  have e := PySem.W.krv_all (S l).cps
  rw [down_all, List.filterMap_reverse]
  show (List.filterMap (fun i => (S l).cps[i]?) (List.range (S l).cps.size)).reverse = _
  rw [e]
section
variable {X : Cx} {e : Expr} {te : TE} {k : Nat} {p1 p2 p3 pos : Pos}
theorem pe_revT (he : PE X e te) : PE X (.Subscript e (.Slice none none (some (.UnaryOp .USub (.Constant (.int 1) k p1) p2)) p3) pos) (tUn rRevT te) := by
  constructor
  intro pn s0 sg H0 K0 I0 h0
  refine Subscript_ (thn (he.run pn s0 sg H0 _ I0 h0) fun v sa ha => ?_)
  obtain ⟨xv, Ha, Ia, ra, l, rfl, hl, qa⟩ := ha
  obtain ⟨tk, rfl⟩ := ra
  have hstep : PO X (some (.UnaryOp .USub (.Constant (.int 1) k p1) p2)) (tPart (tUn (rU fun i => .int (-i)) (tC (.int 1)))) := po_some (pe_un un_neg pe_int)
  refine wpAny_Slice (thn (po_none.run pn sa sg Ha (fun o Hx => o = none ∧ Hx = Ha) Ia ⟨rfl, rfl⟩) ?_)
  rintro vl sb ⟨ovl, Hvl, Ib, pl, rfl, evl⟩
  have fvl := evl.symm
  subst fvl
  refine thn (po_none.run pn sb sg Ha (fun o Hx => o = none ∧ Hx = Ha) Ib ⟨rfl, rfl⟩) ?_
  rintro vu sc ⟨ovu, Hvu, Ic, pu, rfl, evu⟩
  have fvu := evu.symm
  subst fvu
  refine thn (hstep.run pn sc sg Ha (fun o Hx => o = some (-1) ∧ Hx = Ha) Ic ⟨1, rfl, -1, rfl, rfl, rfl⟩) ?_
  rintro vs sd ⟨ovs, Hvs, Id, ps, rfl, evs⟩
  have fvs := evs.symm
  subst fvs
  have Ie : Inv X pn sg Ha { sd with heap := sd.heap.push { cls := .type "slice", data := .fields #[vl, vu, vs] } } := Id.kept (t' := sd.toks) fun b ob z => Heap.get?_push_of_some _ z
  cases pl
  cases pu
  obtain ⟨st, rfl, hst⟩ := IsPart.raw ps
  refine tail_any (o := .str (S l) tk) (i := .ref sd.heap.objs.size) (ops := [.str (S l) tk, .ref sd.heap.objs.size]) (typeIs_str _ _ _) F.slot_str_getitem.lookup ?_ (by with_unfolding_all rfl)
  refine wpAny_getItem_str_slice (l := none) (u := none) (st := st) ⟨_, Heap.get?_push_size _ rfl, rfl, rfl⟩ (by rw [hst]; rfl) ?_
  unfold sliceMade slicePicked
  rw [hst]
  show Made.post (if (((-1 : Int) == 1) && _) = true then _ else Made.str ⟨((Builtin.Str.strSliceIndices none none (-1) (S l).length).filterMap ((S l).cps[·]?)).toArray⟩) _ _
  rw [show ((-1 : Int) == 1) = false from rfl, Bool.false_and, if_neg Bool.false_ne_true, down_pick]
  refine ⟨?_, .str (S l.reverse), Ha, Ie.tok _, ⟨_, rfl⟩, qa⟩
  show l.reverse.toArray.size ≤ sizeLine
  rw [List.size_toArray, List.length_reverse, sizeLine_eq]
  omega
end
def oRevT : D → Option D
  | .str l => if l.length ≤ 100000 then some (.str l.reverse) else none
  | _ => none
theorem ro_revT {K : PySem.W.Frag} : RefO1 K rRevT oRevT := by
  intro G L H Q d z x h hd n q
  unfold oRevT at h
  split at h
  · rename_i l
    split at h
    · rename_i hl
      cases h
      rw [R] at hd
      exact ⟨l, hd, hl, q _ _ _ (Ex.refl _) (by rw [R]) n⟩
    · cases h
  · cases h
theorem o_revT {P : D → Prop} {l : List Nat} (h : l.length ≤ 100000) (q : P (.str l.reverse)) : OkP (oRevT (.str l)) P := ⟨_, if_pos h, q⟩
end MA
/-! ZW: a tuple turned about; a thing in a tuple of things of any depth. -/
namespace MA
open PySem PySem.Spec PyProof.Rows L2 SX
theorem places_rev (n : Nat) : Builtin.Slice.slicePlaces ((n : Int) - 1) (-1) (-1) = n := by
  unfold Builtin.Slice.slicePlaces
  have h1 : ¬ ((-1 : Int) > 0) := by omega
  simp only [h1, if_false]
  rw [show (-(-1 : Int)) = 1 from rfl, Int.ediv_one]
  split <;> omega
theorem pick_rev (xs : Array Value) : ((List.range xs.size).filterMap fun (m : Nat) => xs[(((xs.size : Nat) : Int) - 1 + (m : Int) * (-1)).toNat]?).toArray = xs.toList.reverse.toArray := by
  congr 1
  have e := PySem.W.krv_all xs
  have e2 : (fun (m : Nat) => xs[(((xs.size : Nat) : Int) - 1 + (m : Int) * (-1)).toNat]?) = (fun x => xs[x]?) ∘ fun m => xs.size - 1 - m := by
    funext m
    show xs[_]? = xs[xs.size - 1 - m]?
    rw [show (((xs.size : Nat) : Int) - 1 + (m : Int) * (-1)).toNat = xs.size - 1 - m by omega]
  rw [e2, ← List.filterMap_map, PySem.W.krv_range, List.filterMap_reverse, e]
section
variable {prog : Program} {w : World} {A : Around} {E : Value → Shared → Prop} {s : Shared}
theorem sliceApplied_rev {sl : Addr} {vl vu vs : Value} {n : Nat} {Q : Int × Int × Nat → Shared → Prop} (hs : s.heap.IsSliceOf sl vl vu vs) (pl : IsPart vl none) (pu : IsPart vu none) (ps : IsPart vs (some (-1)))
    (h : Q ((n : Int) - 1, -1, n) s) : wpAny (model prog w) A (Builtin.Slice.sliceApplied (.ref sl) (pure (n : Int))) Q E s := by
  obtain ⟨os, hos, hcs, hds⟩ := id hs
  unfold Builtin.Slice.sliceApplied Builtin.Slice.sliceFields
  refine wpAny_bind (wpAny_bind (wpAny_field hos hds (x := vl) rfl (wpAny_bind (wpAny_field hos hds (x := vu) rfl (wpAny_bind (wpAny_field hos hds (x := vs) rfl (wpAny_pure ?_)))))))
  refine wpAny_bind (HT.slicePart_ ps ?_)
  show wpAny _ _ (if ((-1 : Int) == 0) = true then _ else _) _ _ s
  rw [if_neg (by decide)]
  refine wpAny_bind (HT.slicePart_ pl (wpAny_bind (HT.slicePart_ pu (wpAny_bind (wpAny_pure ?_)))))
  show wpAny _ _ (pure ((n : Int) - 1, (-1 : Int), Builtin.Slice.slicePlaces ((n : Int) - 1) (-1) (-1))) _ _ s
  rw [places_rev]
  exact wpAny_pure h
theorem getItem_tuple_rev {t sl : Addr} {items : Array Value} {vl vu vs : Value} {Q : Value → Shared → Prop} (ht : IsTup s.heap t items) (hs : s.heap.IsSliceOf sl vl vu vs) (pl : IsPart vl none) (pu : IsPart vu none) (ps : IsPart vs (some (-1)))
    (h : Q (.ref s.heap.objs.size) { s with heap := s.heap.push { cls := .type "tuple", data := .seq items.toList.reverse.toArray } })
    (hsz : items.size ≤ sizeLine) : wpAny (model prog w) A (getItem (.ref t) (.ref sl)) Q E s := by
  have htake : sizeOk (.seq items.toList.reverse.toArray) := by
    show items.toList.reverse.toArray.size ≤ sizeLine
    rw [List.size_toArray, List.length_reverse, Array.length_toList]
    omega
  obtain ⟨os, hos, hcs, hds⟩ := id hs
  have hTs : s.TypeIs (.ref sl) "slice" := ⟨os, hos, hcs⟩
  unfold getItem
  try with_reducible refine wpAny_holding ?_
  first | refine wpAny_bind (wpAny_pure ?_) | skip
  refine wpAny_bind (wpAny_sequenceKey ht.typeIs (by decide) ?_)
  refine wpAny_bind (wpAny_callSpecial?_slot (name := Str.ofString "__getitem__") ht.typeIs PyProof.Rows.slot_tuple_getitem
    (wpAny_call_entry PyProof.Rows.slot_tuple_getitem ht.typeIs entry_tuple_getitem ?_ (args_tuple_getitem _ _)))
  show wpAny _ _ (Builtin.Tuple.tupleItemsOf (.ref t) >>= _) _ _ s
  refine wpAny_bind (PyProof.Rows.tupleItemsOf_ ht ?_)
  refine wpAny_bind (wpAny_typeOf hTs ?_)
  rw [if_pos (by decide)]
  refine wpAny_bind (sliceApplied_rev hs pl pu ps ?_)
  have hno : ¬ ((((items.size : Int) - 1) == 0 && (-1 : Int) == 1 && items.size == items.size) = true) := by
    rw [show ((-1 : Int) == 1) = false from rfl, Bool.and_false, Bool.false_and]
    exact Bool.false_ne_true
  show wpAny _ _ (if ((((items.size : Int) - 1) == 0 && (-1 : Int) == 1 && items.size == items.size) = true) then _ else _) _ _ s
  rw [if_neg hno, pick_rev]
  first
    | exact wpAny_bind (m := Builtin.Tuple.tupleExact _) (wpAny_newObj_type (wpAny_pure ⟨_, rfl, wpAny_pure h⟩) htake)
    | exact wpAny_bind (m := Builtin.Tuple.tupleExact _) (wpAny_newObj_type (wpAny_bind (wpAny_pure (wpAny_pure ⟨_, rfl, wpAny_pure h⟩))) htake)
    | exact wpAny_bind (wpAny_bind (m := Builtin.Tuple.tupleExact _) (wpAny_newObj_type (wpAny_pure (wpAny_pure ⟨_, rfl, wpAny_pure h⟩)) htake))
    | exact wpAny_bind (wpAny_bind (m := Builtin.Tuple.tupleExact _) (wpAny_newObj_type (wpAny_pure ⟨_, rfl, wpAny_pure h⟩) htake))
end
def rRevQ (K : PySem.W.Frag) : V → Hp → VK → Prop := fun x H Q => ∃ a xs, x = .ref a ∧ SqT K H a xs ∧ ∀ p, H p = none → Q (.ref p) (upd H p (.tup xs.reverse))
section
variable {X : Cx} {e : Expr} {te : TE} {k : Nat} {p1 p2 p3 pos : Pos}
theorem pe_revQ (he : PE X e te) : PE X (.Subscript e (.Slice none none (some (.UnaryOp .USub (.Constant (.int 1) k p1) p2)) p3) pos) (tUn (rRevQ X.K) te) := by
  refine ⟨fun pins s σ H Q I h => ?_⟩
  refine Subscript_ (thn (he.run pins s σ H _ I h) fun v s1 ⟨x, H1, I1, r1, q1⟩ => ?_)
  obtain ⟨a, xs, ex, hx, q⟩ := q1
  subst ex
  cases r1
  have hst : PO X (some (.UnaryOp .USub (.Constant (.int 1) k p1) p2)) (tPart (tUn (rU fun i => .int (-i)) (tC (.int 1)))) := po_some (pe_un un_neg pe_int)
  refine wpAny_Slice (thn (po_none.run pins s1 σ H1 (fun o H2 => o = none ∧ H2 = H1) I1 ⟨rfl, rfl⟩) fun vl s2 ⟨l, H2, I2, pl, el, e2⟩ => ?_)
  subst el e2
  refine thn (po_none.run pins s2 σ H2 (fun o H3 => o = none ∧ H3 = H2) I2 ⟨rfl, rfl⟩) fun vu s3 ⟨u, H3, I3, pu, eu, e3⟩ => ?_
  subst eu e3
  refine thn (hst.run pins s3 σ H3 (fun o H4 => o = some (-1) ∧ H4 = H3) I3 ⟨1, rfl, -1, rfl, rfl, rfl⟩) fun vs s4 ⟨o, H4, I4, ps, eo, e4⟩ => ?_
  subst eo e4
  have I5 : Inv X pins σ H4 { s4 with heap := s4.heap.push { cls := .type "slice", data := .fields #[vl, vu, vs] } } := I4.kept (t' := s4.toks) fun b ob q => Heap.get?_push_of_some _ q
  obtain ⟨its, r, ht, hz⟩ := I5.tuple hx
  have hlen := r.length
  show wpAny (model X.prog X.w) X.A (subscriptTail e (.Slice none none (some (.UnaryOp .USub (.Constant (.int 1) k p1) p2)) p3) (.ref a) (.ref s4.heap.objs.size)) (EP X pins σ Q) X.xe { s4 with heap := s4.heap.push { cls := .type "slice", data := .fields #[vl, vu, vs] } }
  refine tail_any (ops := [.ref a, .ref s4.heap.objs.size]) ht.typeIs (PyProof.Rows.slot_tuple_getitem.lookup) ?_ (by with_unfolding_all rfl)
  refine getItem_tuple_rev ht (Heap.IsSliceOf.new _ vl vu vs) pl pu ps ?_ (by rw [List.size_toArray]; omega)
  refine ⟨.ref _, _, I5.laid (t' := s4.toks) (o := .tup xs.reverse) (fun b ob q => Heap.get?_push_of_some _ q) (Nat.le_refl _) ?_, rfl, q _ (I5.hok.fresh (Nat.le_refl _))⟩
  exact ⟨by rw [List.length_reverse]; exact hz, _, r.reverse, IsTup.new _ _⟩
def rInQ (K : PySem.W.Frag) (neg : Bool) : R2 := fun x y H Q => ∃ d ds, Dp K H x d ∧ Dp K H y (.tuple ds) ∧ d.canLay0 = true ∧ d.depth ≤ 60 ∧ (PyData.tuple ds).canLay0 = true ∧ Q (.bl (if neg then !ds.any fun z => PyData.eqv z d else ds.any fun z => PyData.eqv z d)) H
theorem op_inQ (hu : X.A.units + 64 < cLine) : OpR X (compareOp .In) (rInQ X.K false) := by
  intro pins s σ H x y v u Q I rx ry h
  obtain ⟨d, ds, hd, he, sd, sp, se, q⟩ := h
  obtain ⟨as, r1⟩ := Dp.reads I d x v hd rx
  obtain ⟨bs, r2⟩ := Dp.reads I (.tuple ds) y u he ry
  exact SeqAt.in_tuple_reads r2 r1 se sd (by omega) ⟨.bl _, H, I, rfl, q⟩
theorem op_niQ (hu : X.A.units + 64 < cLine) : OpR X (compareOp .NotIn) (rInQ X.K true) := by
  intro pins s σ H x y v u Q I rx ry h
  obtain ⟨d, ds, hd, he, sd, sp, se, q⟩ := h
  obtain ⟨as, r1⟩ := Dp.reads I d x v hd rx
  obtain ⟨bs, r2⟩ := Dp.reads I (.tuple ds) y u he ry
  exact SeqAt.notIn_tuple_reads r2 r1 se sd (by omega) ⟨.bl _, H, I, rfl, q⟩
end
section
variable {K : PySem.W.Frag} {G H : Hp} {L : List (Addr × HO)}
def oRevQ : D → Option D
  | .tup l => some (.tup l.reverse)
  | _ => none
theorem ro_revQ : RefO1 K (rRevQ K) oRevQ := by
  intro G L H Q d z x h hd n q
  unfold oRevQ at h
  split at h
  · cases h
    rw [R] at hd
    obtain ⟨a, xs, rfl, h1, h2⟩ := hd
    exact ⟨a, xs, rfl, st_ex n.Ex h1, fun p hp => q _ _ _ (n.exn hp) (R_newT n hp h2.reverse) (n.newG hp)⟩
  · cases h
theorem o_revQ {P : D → Prop} {l : List D} (q : P (.tup l.reverse)) : OkP (oRevQ (.tup l)) P := ⟨_, rfl, q⟩
def inQB (d : D) : D → Option Bool
  | .tup l => if shp 40 d && shp 40 (.tup l) then some (l.any fun e => eqd e d) else none
  | _ => none
def oInQ (d e : D) : Option D := (inQB d e).bind fun b => some (.bl b)
def oNiQ (d e : D) : Option D := (inQB d e).bind fun b => some (.bl (!b))
theorem inQ_ok {d e : D} {x y : V} {b : Bool} (h : inQB d e = some b) (hd : R K G d x) (he : R K G e y) (n : Now G L H) : ∃ p ds, Dp K H x p ∧ Dp K H y (.tuple ds) ∧ p.canLay0 = true ∧ p.depth ≤ 60 ∧ (PyData.tuple ds).canLay0 = true ∧ (ds.any fun z => PyData.eqv z p) = b := by
  unfold inQB at h
  split at h
  · split at h
    · rename_i l hs
      rw [Bool.and_eq_true] at hs
      cases h
      refine ⟨pd d, _, (R.dp 40 d x hs.1 hd).ex n.Ex, (R.dp 40 _ y hs.2 he).ex n.Ex, (shp_lay 40 _ hs.1).1, Nat.le_trans (shp_lay 40 _ hs.1).2 (by decide), (shp_lay 40 _ hs.2).1, ?_⟩
      clear hs he hd
      induction l with
      | nil => rfl
      | cons a l ih => rw [pds, List.any_cons, List.any_cons, ih]; rfl
    · cases h
  · cases h
theorem ro_inQ : RefO2 K (rInQ K false) oInQ := by
  intro G L H Q d e z x y h hd he n q
  obtain ⟨b, h1, h2⟩ := bind_some h
  cases h2
  obtain ⟨p, ds, q1, q2, q3, q3', q4, q5⟩ := inQ_ok h1 hd he n
  refine ⟨p, ds, q1, q2, q3, q3', q4, ?_⟩
  rw [q5]
  exact q _ _ _ (Ex.refl _) (by rw [R]; rfl) n
theorem ro_niQ : RefO2 K (rInQ K true) oNiQ := by
  intro G L H Q d e z x y h hd he n q
  obtain ⟨b, h1, h2⟩ := bind_some h
  cases h2
  obtain ⟨p, ds, q1, q2, q3, q3', q4, q5⟩ := inQ_ok h1 hd he n
  refine ⟨p, ds, q1, q2, q3, q3', q4, ?_⟩
  rw [q5]
  exact q _ _ _ (Ex.refl _) (by rw [R]; rfl) n
end
theorem o_niQ {P : D → Prop} {d : D} {l : List D} (h1 : shp 40 d = true) (h2 : shp 40 (.tup l) = true) (q : P (.bl (!l.any fun e => eqd e d))) : OkP (oNiQ d (.tup l)) P := ⟨_, by unfold oNiQ inQB; simp only [h1, h2]; rfl, q⟩
theorem o_inQ {P : D → Prop} {d : D} {l : List D} (h1 : shp 40 d = true) (h2 : shp 40 (.tup l) = true) (q : P (.bl (l.any fun e => eqd e d))) : OkP (oInQ d (.tup l)) P := ⟨_, by unfold oInQ inQB; simp only [h1, h2]; rfl, q⟩
end MA
/-! QJ: repr of anything. -/
namespace MA
open PySem PySem.Spec PyProof.Rows L2 SX
def rReprF : List V → Hp → VK → Prop := fun vs H Q => (∃ x : Str, vs = [.str x] ∧ (reprText x).length ≤ sizeLine ∧ Q (.str (reprText x)) H) ∨ (∃ i : Int, vs = [.int i] ∧ i.natAbs.log2 < 1920 ∧ Q (.str (toString i)) H) ∨ (∃ b : Bool, vs = [.bl b] ∧ Q (.str (if b then "True" else "False")) H) ∨ (vs = [.non] ∧ Q (.str "None") H)
theorem u_reprF {X : Cx} : CallR X (.builtin "repr") rReprF := by
  intro pins s σ H vs us Q I r h
  rcases h with ⟨x, rfl, hl, q⟩ | ⟨i, rfl, hi, q⟩ | ⟨b, rfl, q⟩ | ⟨rfl, q⟩
  · cases r with
    | cons r1 r2 =>
      cases r2
      obtain ⟨t, rfl⟩ := r1
      exact PySem.P.repr_of_str ⟨.str _, H, I.tok _, ⟨_, rfl⟩, q⟩ hl
  · cases r with
    | cons r1 r2 =>
      cases r2
      obtain ⟨t, rfl⟩ := r1
      exact PySem.P.repr_of_int hi ⟨.str _, H, I.tok _, ⟨_, rfl⟩, q⟩
  · cases r with
    | cons r1 r2 =>
      cases r2
      cases r1
      exact PySem.P.repr_of_bool ⟨.str _, H, I.tok _, ⟨_, rfl⟩, q⟩
  · cases r with
    | cons r1 r2 =>
      cases r2
      cases r1
      exact PySem.P.repr_of_none ⟨.str _, H, I.tok _, ⟨_, rfl⟩, q⟩
def rReprA (K : PySem.W.Frag) : List V → Hp → VK → Prop := fun vs H Q => rRepr K vs H Q ∨ rReprF vs H Q
theorem u_reprA {X : Cx} (hu : X.A.units + 64 < cLine) (hg : X.A.guards = some []) : CallR X (.builtin "repr") (rReprA X.K) := (u_repr hu hg).or u_reprF
def oReprA : List D → Option D
  | [d] => if sho 40 d = true ∧ wt d ≤ 16000000 then some (.str (unS (pd d).shown)) else none
  | _ => none
theorem ro_reprA {K : PySem.W.Frag} : RefOL K (rReprA K) oReprA := by
  intro G L H Q ds z xs h hd n q
  unfold oReprA at h
  split at h
  · rename_i d
    split at h
    · rename_i hc
      cases h
      obtain ⟨hs, hw⟩ := hc
      by_cases hcn : isCn d = true
      · exact .inl (ro_repr (ds := [d]) (if_pos ⟨hcn, hs, hw⟩) hd n q)
      obtain ⟨s1, s2⟩ := sho_ok 40 d hs
      obtain ⟨v, rfl, r⟩ := RA1 hd
      refine .inr ?_
      have fin := q
      cases d with
      | lst _ => exact absurd rfl hcn
      | tup _ => exact absurd rfl hcn
      | scr _ => cases hs
      | dic _ _ => cases hs
      | str l =>
        rw [R] at r; subst r
        exact .inl ⟨S l, rfl, by rw [sizeLine_eq]; exact Nat.le_trans s2 (by omega), q _ _ _ (Ex.refl _) (by rw [R, S_unS]; rfl) n⟩
      | int i =>
        rw [R] at r; subst r
        exact .inr (.inl ⟨i, rfl, by have := of_decide_eq_true (show decide (i.natAbs.log2 < 1000) = true from hs); omega, q _ _ _ (Ex.refl _) (by rw [R, S_unS]; rfl) n⟩)
      | bl b =>
        rw [R] at r; subst r
        exact .inr (.inr (.inl ⟨b, rfl, q _ _ _ (Ex.refl _) (by rw [R, S_unS]; cases b <;> rfl) n⟩))
      | non =>
        rw [R] at r; subst r
        exact .inr (.inr (.inr ⟨rfl, q _ _ _ (Ex.refl _) (by rw [R, S_unS]; rfl) n⟩))
    · cases h
  · cases h
theorem o_reprA {d : D} {P : D → Prop} (h : Rp 40 16000000 d) (q : P (shS d)) : OkP (oReprA [d]) P := ⟨_, if_pos ⟨h.1, h.2⟩, q⟩
end MA
/-! QL: a op b op c op d. -/
namespace MA
open PySem PySem.Spec PyProof.Rows L2 SX
def tChain3 (r r' r2 : R2) (ta tb tc td : TE) : TE := fun σ H Q => ta σ H fun x H1 => tb σ H1 fun y H2 => r x y H2 fun z H3 => ∃ k, z = .bl k ∧
  (if k = true then tc σ H3 fun w' H4 => r' y w' H4 fun z2 H5 => ∃ k2, z2 = .bl k2 ∧ (if k2 = true then td σ H5 fun u' H6 => r2 w' u' H6 Q else Q (.bl false) H5) else Q (.bl false) H3)
section
variable {X : Cx} {a b c d : Expr} {ta tb tc td : TE} {pos : Pos}
theorem pe_chain3 {op op' op2 : CmpOp} {r r' r2 : R2} (ho : OpR X (compareOp op) r) (ho' : OpR X (compareOp op') r') (ho2 : OpR X (compareOp op2) r2) (ha : PE X a ta) (hb : PE X b tb) (hc : PE X c tc) (hd : PE X d td)
    (hm : lastMarks [op, op', op2] [b, c, d] = false := by with_unfolding_all rfl) : PE X (.Compare a [op, op', op2] [b, c, d] pos) (tChain3 r r' r2 ta tb tc td) := by
  refine ⟨fun pins s σ H Q I h => ?_⟩
  refine Compare_chain (thn (ha.run pins s σ H _ I h) fun v s1 ⟨x, H1, I1, r1, q1⟩ => chain_link (thn (hb.run pins s1 σ H1 _ I1 q1) fun u s2 ⟨y, H2, I2, r2, q2⟩ =>
    thn (ho pins s2 σ H2 x y v u _ I2 r1 r2 q2) fun d s3 ⟨z, H3, I3, r3, k, e, q3⟩ => ?_)) hm
  subst e
  cases r3
  refine wpAny_truthy_bool ?_
  cases k with
  | false => exact ite_ff ⟨.bl false, H3, I3, rfl, q3⟩
  | true =>
    refine ite_tt (chain_link (thn (hc.run pins s3 σ H3 _ I3 q3) fun w' s4 ⟨z', H4, I4, r4, q4⟩ => thn (ho' pins s4 σ H4 y z' u w' _ I4 r2 r4 q4) fun d s5 ⟨z, H5, I5, r5, k2, e, q5⟩ => ?_))
    subst e
    cases r5
    refine wpAny_truthy_bool ?_
    cases k2 with
    | false => exact ite_ff ⟨.bl false, H5, I5, rfl, q5⟩
    | true => exact ite_tt (chain_last (thn (hd.run pins s5 σ H5 _ I5 q5) fun u' s6 ⟨z'', H6, I6, r6, q6⟩ => ho2 pins s6 σ H6 z' z'' w' u' Q I6 r4 r6 q6))
end
def pChain3 (o o2 o3 : D → D → Option D) (pa pb pc pd : PP) : PP := fun env => (pa env).bind fun x => (pb env).bind fun y => (o x y).bind fun z => (blo z).bind fun b => if b then (pc env).bind fun w => (o2 y w).bind fun z => (blo z).bind fun b => if b then (pd env).bind fun u => o3 w u else some (.bl false) else some (.bl false)
section
variable {K : PySem.W.Frag} {r r2 r3 : R2} {ta tb tc td : TE} {pa pb pc pd : PP}
theorem rp_chain3 {o o2 o3 : D → D → Option D} (ho : RefO2 K r o) (ho2 : RefO2 K r2 o2) (ho3 : RefO2 K r3 o3) (ha : RefP K ta pa) (hb : RefP K tb pb) (hc : RefP K tc pc) (hd : RefP K td pd) : RefP K (tChain3 r r2 r3 ta tb tc td) (pChain3 o o2 o3 pa pb pc pd) := by
  intro G L env σ H Q d e re n q
  obtain ⟨x, e1, e2⟩ := bind_some e
  obtain ⟨y, e3, e4⟩ := bind_some e2
  obtain ⟨z, e5, e6⟩ := bind_some e4
  obtain ⟨b, e7, e8⟩ := bind_some e6
  cases blo_ok e7
  refine ha e1 re n fun v G1 H1 x1 r1 n1 => ?_
  refine hb e3 (re.ex x1) n1 fun w G2 H2 x2 r2 n2 => ?_
  refine ho e5 (R_ex x2 _ _ r1) r2 n2 fun v' G3 H3 x3 r3 n3 => ?_
  rw [R] at r3
  refine ⟨b, r3, ?_⟩
  cases b with
  | false => cases e8; exact q _ _ _ ((x1.trans x2).trans x3) (by rw [R]) n3
  | true =>
    obtain ⟨w', e9, e10⟩ := bind_some e8
    obtain ⟨z2, e11, e12⟩ := bind_some e10
    obtain ⟨b2, e13, e14⟩ := bind_some e12
    cases blo_ok e13
    refine hc e9 (re.ex ((x1.trans x2).trans x3)) n3 fun u G4 H4 x4 r4 n4 => ?_
    refine ho2 e11 (R_ex (x3.trans x4) _ _ r2) r4 n4 fun v'' G5 H5 x5 r5 n5 => ?_
    rw [R] at r5
    refine ⟨b2, r5, ?_⟩
    cases b2 with
    | false => cases e14; exact q _ _ _ ((((x1.trans x2).trans x3).trans x4).trans x5) (by rw [R]) n5
    | true =>
      obtain ⟨u2, e15, e16⟩ := bind_some e14
      refine hd e15 (re.ex ((((x1.trans x2).trans x3).trans x4).trans x5)) n5 fun u' G6 H6 x6 r6 n6 => ?_
      exact ho3 e16 (R_ex (x5.trans x6) _ _ r4) r6 n6 fun v' G' H' x7 r7 n7 => q v' G' H' ((((((x1.trans x2).trans x3).trans x4).trans x5).trans x6).trans x7) r7 n7
end
theorem k_chain3 {o o2 o3 : D → D → Option D} {pa pb pc pd : PP} {env : Env} {P : D → Prop} (h : OkP (pa env) fun x => OkP (pb env) fun y => OkP (o x y) fun z => OkP (blo z) fun b => if b = true then OkP (pc env) fun w => OkP (o2 y w) fun z => OkP (blo z) fun b => if b = true then OkP (pd env) fun u => OkP (o3 w u) P else P (.bl false) else P (.bl false)) : OkP (pChain3 o o2 o3 pa pb pc pd env) P :=
  k_bind (h.imp fun _ h => k_bind (h.imp fun _ h => k_bind (h.imp fun _ h => k_bind (h.imp fun b h => by
    cases b with
    | false => exact ⟨_, rfl, h⟩
    | true => exact k_bind (h.imp fun _ h => k_bind (h.imp fun _ h => k_bind (h.imp fun b h => by
        cases b with
        | false => exact ⟨_, rfl, h⟩
        | true => exact k_bind h)))))))
end MA
/-! ZP: sorted(set(x)), x a list of tuples of numbers. -/
namespace MA
open PySem PySem.Spec PyProof.Rows L2 SX
def tSortSetT (K : PySem.W.Frag) (te : TE) : TE := fun σ H Q => te σ H fun x H1 => ∃ (l : Addr) (ks : List (Addr × List Int)) (d : Nat) (B : Int), x = .ref l ∧ SqL K H1 l (ks.map fun p => V.ref p.1) ∧ (∀ p ∈ ks, SqT K H1 p.1 (p.2.map V.int)) ∧ ks.length < 64 ∧ 1 ≤ d ∧ (∀ p ∈ ks, p.2.length = d ∧ TS.Bd B p.2) ∧
  ∀ (p0 p : Addr) (o : HO) (L : List (Addr × List Int)), H1 p0 = none → (upd H1 p0 o) p = none → (∀ q ∈ L, q ∈ ks) → (∀ q ∈ ks, q.2 ∈ L.map (·.2)) → (L.map (·.2)).Nodup → L.Pairwise (fun q r => TS.code B q.2 ≤ TS.code B r.2) → Q (.ref p) (upd (upd H1 p0 o) p (.lst (L.map fun q => V.ref q.1)))
section
variable {X : Cx}
theorem pe_ssetT {a : Expr} {ta : TE} {p p2 q pos : Pos} (hc : X.calm = true) (hu : X.A.units + 64 < cLine) (hg : Gl X "sorted") (hm : X.mg "sorted" = none) (hg2 : Gl X "set") (hm2 : X.mg "set" = none) (ha : PE X a ta)
    (na : starEach [a] X.env = (false, eval a X.env) :: starEach [] X.env := by rfl) : PE X (.Call (.Name "sorted" p) [.Call (.Name "set" p2) [a] [] q] [] pos) (tSortSetT X.K ta) := by
  refine ⟨fun pins s σ H Q I h => ?_⟩
  refine Call_ (ld_blt (u := .builtin "sorted") I hg hm rfl ?_)
  refine PyProof.Rows.callWith_builtin1 (PyProof.Rows.args_cons ?_ rfl) rfl rfl
  refine Call_ (ld_blt (u := .type "set") I hg2 hm2 rfl ?_)
  refine PyProof.Rows.callWith_type1 (PyProof.Rows.args_cons (thn (ha.run pins s σ H _ I h) fun v s1 ⟨x, H1, I1, r1, q1⟩ => PyProof.Rows.args_nil ?_) na) na rfl
  obtain ⟨l, ks, d, B, rfl, hq, hk, h64, hd, hB, q1⟩ := q1
  refine thn (cr_setOfT hc hu pins s1 σ H1 [.ref l] [v] (fun x2 H2 => ∃ p0 L, x2 = .ref p0 ∧ H1 p0 = none ∧ (∀ q ∈ L, q ∈ ks) ∧ (∀ q ∈ ks, q.2 ∈ L.map (·.2)) ∧ H2 = upd H1 p0 (SetTO X.prog X.w p0 L)) I1 (vals1 r1) ⟨l, ks, rfl, hq, hk, h64, fun p L hp h1 h2 => ⟨p, L, rfl, hp, h1, h2, rfl⟩⟩) fun u s2 ⟨x2, H2, I2, r2, p0, L, e1, hp0, hL1, hL2, e2⟩ => ?_
  subst e1 e2
  refine PyProof.Rows.args_nil ?_
  refine cr_sortedT hc pins s2 σ _ [.ref p0] [u] Q I2 (vals1 r2) ⟨p0, L, d, B, rfl, upd_same, fun q hq' => st_ex (Ex.new hp0) (hk q (hL1 q hq')), hd, fun q hq' => hB q (hL1 q hq'), fun L' p pm nd _ pw hp => ?_⟩
  exact q1 p0 p _ L' hp0 hp (fun q hq' => hL1 q (pm.mem_iff.mp hq')) (fun q hq' => by
    obtain ⟨r, hr, e⟩ := List.mem_map.mp (hL2 q hq')
    exact List.mem_map.mpr ⟨r, pm.mem_iff.mpr hr, e⟩) nd pw
end
/-! data -/
def dd : List (List Int) → List (List Int)
  | [] => []
  | a :: l => if a ∈ l then dd l else a :: dd l
theorem dd_mem {x : List Int} : ∀ {l : List (List Int)}, x ∈ dd l ↔ x ∈ l
  | [] => Iff.rfl
  | a :: l => by
    rw [dd]
    split
    · rename_i h
      rw [dd_mem, List.mem_cons]
      exact ⟨.inr, fun h2 => h2.elim (fun e => e ▸ h) id⟩
    · rw [List.mem_cons, List.mem_cons, dd_mem]
theorem dd_nodup : ∀ l : List (List Int), (dd l).Nodup
  | [] => List.Pairwise.nil
  | a :: l => by
    rw [dd]
    split
    · exact dd_nodup l
    · rename_i h
      exact List.Pairwise.cons (fun b hb e => h (dd_mem.mp (e ▸ hb))) (dd_nodup l)
def okTs : List (List Int) → Bool
  | [] => true
  | x :: r => decide (1 ≤ x.length) && (x :: r).all fun y => y.length == x.length && y.all fun k => decide (0 ≤ k) && decide (k < 1073741824)
abbrev tsD (ls : List (List Int)) : List D := ls.map fun ns => D.tup (ns.map D.int)
def pnSST (pe : PP) : Env → Option (List D) := fun env => (pe env).bind fun d => match d with
  | .lst ds => (tupsI ds).bind fun ls => if ls.length < 64 ∧ okTs ls = true then some (tsD (sortT (dd ls))) else none
  | _ => none
theorem lex_code {B : Int} : ∀ (q r : List Int), q.length = r.length → TS.Bd B q → TS.Bd B r → TS.code B q ≤ TS.code B r → HT.lexLt r q = false
  | [], [], _, _, _, _ => rfl
  | [], _ :: _, h, _, _, _ => nomatch h
  | _ :: _, [], h, _, _, _ => nomatch h
  | d :: q, e :: r, h, hq, hr, hc => by
    rw [HT.lexLt_cons]
    have hl : q.length = r.length := by simpa using h
    split
    · rename_i e1
      subst e1
      refine lex_code q r hl hq.tail hr.tail ?_
      have := (TS.code_same (B := B) (d := e) (r := r) (q := q) hl.symm)
      omega
    · rename_i e1
      refine decide_eq_false fun h2 => ?_
      have := TS.code_lt (B := B) hl.symm hr.tail hq.tail h2
      omega
section
variable {K : PySem.W.Frag} {te : TE} {pe : PP}
theorem tups_as {G : Hp} : ∀ {ds : List D} {ls : List (List Int)} {xs : List V}, tupsI ds = some ls → RA K G ds xs → ∃ as : List (Addr × List Int), xs = as.map (fun p => V.ref p.1) ∧ as.map (·.2) = ls ∧ ∀ p ∈ as, SqT K G p.1 (p.2.map V.int)
  | [], _, _, h, r => by
    cases h; rw [RA] at r; subst r
    exact ⟨[], rfl, rfl, fun _ h => nomatch h⟩
  | d :: ds, _, _, h, r => by
    obtain ⟨n, h1, h2⟩ := bind_some h
    obtain ⟨ls, h3, h4⟩ := bind_some h2
    cases h4
    rw [RA] at r
    obtain ⟨v, r', rfl, q1, q2⟩ := r
    obtain ⟨as, rfl, rfl, h5⟩ := tups_as h3 q2
    obtain ⟨t, rfl, h6⟩ := tupI_R h1 q1
    refine ⟨(t, n) :: as, rfl, rfl, fun p hp => ?_⟩
    rcases List.mem_cons.mp hp with rfl | hp
    · exact h6
    · exact h5 p hp
theorem rp_SST (h : RefP K te pe) : RefPN K (tSortSetT K te) (pnSST pe) := by
  intro G L env σ H Q ds e re n q
  obtain ⟨d, e1, e2⟩ := bind_some e
  match d, e1, e2 with
  | .lst l, e1, e2 =>
    obtain ⟨ls, e3, e4⟩ := bind_some e2
    split at e4
    case isFalse => cases e4
    rename_i hc
    cases e4
    obtain ⟨h64, hok⟩ := hc
    refine h e1 re n fun v G1 H1 x1 r1 n1 => ?_
    rw [R] at r1
    obtain ⟨a, xs, rfl, h1, h2⟩ := r1
    obtain ⟨as, rfl, hls, h5⟩ := tups_as e3 h2
    have hd : ∃ d : Nat, 1 ≤ d ∧ ∀ p ∈ as, p.2.length = d ∧ TS.Bd 1073741824 p.2 := by
      subst hls
      cases as with
      | nil => exact ⟨1, Nat.le_refl _, fun _ h => nomatch h⟩
      | cons a0 as =>
        rw [List.map_cons, okTs, Bool.and_eq_true, decide_eq_true_eq, List.all_eq_true] at hok
        refine ⟨a0.2.length, hok.1, fun p hp => ?_⟩
        have := hok.2 p.2 (by rw [← List.map_cons (f := fun (p : Addr × List Int) => p.2)]; exact List.mem_map_of_mem hp)
        rw [Bool.and_eq_true, beq_iff_eq, List.all_eq_true] at this
        refine ⟨this.1, fun m hm => ?_⟩
        have := this.2 m hm
        rw [Bool.and_eq_true, decide_eq_true_eq, decide_eq_true_eq] at this
        exact this
    obtain ⟨d, hd1, hd2⟩ := hd
    refine ⟨a, as, d, 1073741824, rfl, sqL (n1.ex _ _ h1), fun p hp => st_ex n1.Ex (h5 p hp), by rw [← hls, List.length_map] at h64; exact h64, hd1, hd2, fun p0 p o L' hp0 hp hL1 hL2 hnd hpw => ?_⟩
    have ek : L'.map (·.2) = sortT (dd ls) := by
      refine srt_uniq (le := fun a b => HT.lexLt b a = false) (fun a b h1 h2 => lex_anti a b h2 h1) ?_ ?_ (sortT_srt _)
      · refine List.Perm.trans ?_ (sortT_perm _).symm
        refine (List.perm_ext_iff_of_nodup hnd (dd_nodup ls)).mpr fun x => ?_
        rw [dd_mem, ← hls]
        constructor
        · intro hx
          obtain ⟨y, hy, rfl⟩ := List.mem_map.mp hx
          exact List.mem_map_of_mem (hL1 y hy)
        · intro hx
          obtain ⟨y, hy, rfl⟩ := List.mem_map.mp hx
          exact hL2 y hy
      · rw [List.pairwise_map]
        refine List.Pairwise.imp_of_mem (fun {x y} hx hy hxy => ?_) hpw
        have a1 := hd2 x (hL1 x hx)
        have a2 := hd2 y (hL1 y hy)
        exact lex_code x.2 y.2 (by rw [a1.1, a2.1]) a1.2 a2.2 hxy
    have hr : RA K G1 (tsD (sortT (dd ls))) (L'.map fun q => V.ref q.1) := by
      rw [← ek]
      clear ek hpw hnd hL2
      induction L' with
      | nil => exact RA.nil
      | cons y L' ih =>
        exact RA.cons (TupI.R ⟨y.1, rfl, h5 y (hL1 y (List.mem_cons_self ..))⟩) (ih fun q hq => hL1 q (List.mem_cons_of_mem _ hq))
    exact q _ _ _ _ x1 hr ((n1.new hp0).newL hp)
end
theorem k_SST {pe : PP} {env : Env} {PA : List D → Prop} (h : OkP (pe env) fun d => ∃ ls, d = .lst (tsD ls) ∧ ls.length < 64 ∧ okTs ls = true ∧ PA (tsD (sortT (dd ls)))) : OkP (pnSST pe env) PA := by
  refine k_bind (h.imp fun d ⟨ls, h1, h2, h3, q⟩ => ?_)
  subst h1
  show OkP ((tupsI (tsD ls)).bind _) PA
  rw [tupsI_map]
  show OkP (if ls.length < 64 ∧ okTs ls = true then _ else _) PA
  rw [if_pos ⟨h2, h3⟩]
  exact k_some q
end MA
/-! ZI: the steps of the walk as instances (printed by mkzi.py). -/
namespace MA
open PySem PySem.Spec PyProof.Rows L2 SX
class SP1 (A : Prop) (B : outParam Prop) : Prop where
  imp : B → A
class SS1 (A : Prop) (B : outParam Prop) : Prop where
  imp : B → A
class RP0 (A : Prop) (H B : outParam Prop) : Prop where
  imp : H → B → A
class RP1 (A : Prop) (X : outParam Type) (H B : outParam (X → Prop)) : Prop where
  imp : ∀ x : X, H x → B x → A
class RS1 (A : Prop) (X : outParam Type) (H B : outParam (X → Prop)) : Prop where
  imp : ∀ x : X, H x → B x → A
instance (priority := 4999) i_k_c {P : D → Prop} {env : Env} {d : D} : SP1 (OkP (pC d env) P) (P d) := ⟨k_c⟩
instance (priority := 4998) i_k_op {P : D → Prop} {env : Env} {pa : PP} {pb : PP} {o : D → D → Option D} : SP1 (OkP (pOp o pa pb env) P) (OkP (pa env) fun (d : D) => OkP (pb env) fun (e : D) => OkP (o d e) P) := ⟨k_op⟩
instance (priority := 4997) i_k_un {P : D → Prop} {env : Env} {pa : PP} {o : D → Option D} : SP1 (OkP (pUn o pa env) P) (OkP (pa env) fun (d : D) => OkP (o d) P) := ⟨k_un⟩
instance (priority := 4996) i_k_nil {PA : List D → Prop} {env : Env} : SP1 (OkP (pNil env) PA) (PA []) := ⟨k_nil⟩
instance (priority := 4995) i_k_cons {PA : List D → Prop} {env : Env} {pa : PP} {ps : Env → Option (List D)} : SP1 (OkP (pCons pa ps env) PA) (OkP (pa env) fun (d : D) => OkP (ps env) fun (ds : List D) => PA (d :: ds)) := ⟨k_cons⟩
instance (priority := 4994) i_k_cb {P : D → Prop} {env : Env} {ps : Env → Option (List D)} {o : List D → Option D} : SP1 (OkP (pCB o ps env) P) (OkP (ps env) fun (ds : List D) => OkP (o ds) P) := ⟨k_cb⟩
instance (priority := 4993) i_k_bm {P : D → Prop} {env : Env} {pa : PP} {ps : Env → Option (List D)} {o : D → List D → Option D} : SP1 (OkP (pBM o pa ps env) P) (OkP (pa env) fun (d : D) => OkP (ps env) fun (ds : List D) => OkP (o d ds) P) := ⟨k_bm⟩
instance (priority := 4992) i_k_bm0 {P : D → Prop} {env : Env} {pa : PP} {o : D → List D → Option D} : SP1 (OkP (pBM0 o pa env) P) (OkP (pa env) fun (d : D) => OkP (o d []) P) := ⟨k_bm0⟩
instance (priority := 4991) i_k_lst {PA : List D → Prop} {env : Env} {ps : Env → Option (List D)} : SP1 (OkP (pnLst ps env) PA) (OkP (ps env) (lenK PA)) := ⟨k_lst⟩
instance (priority := 4990) i_k_tup {P : D → Prop} {env : Env} {ps : Env → Option (List D)} : SP1 (OkP (pTup ps env) P) (OkP (ps env) (lenK fun (ds : List D) => P (D.tup ds))) := ⟨k_tup⟩
instance (priority := 4989) i_k_fz {P : D → Prop} {env : Env} {pn : Env → Option (List D)} : SP1 (OkP (pFz pn env) P) (OkP (pn env) fun (ds : List D) => P (D.lst ds)) := ⟨k_fz⟩
instance (priority := 4988) i_k_test {PB : Bool → Prop} {env : Env} {pe : PP} : SP1 (OkP (pTest pe env) PB) (OkP (pe env) fun (d : D) => OkP (blo d) PB) := ⟨k_test⟩
instance (priority := 4987) i_k_blo {PB : Bool → Prop} {b : Bool} : SP1 (OkP (blo (D.bl b)) PB) (PB b) := ⟨k_blo⟩
instance (priority := 4986) i_k_tru {PB : Bool → Prop} {env : Env} {pe : PP} : SP1 (OkP (pTru pe env) PB) (OkP (pe env) fun (d : D) => OkP (tru d) PB) := ⟨k_tru⟩
instance (priority := 4985) i_k_truB {PB : Bool → Prop} {b : Bool} : SP1 (OkP (tru (D.bl b)) PB) (PB b) := ⟨k_truB⟩
instance (priority := 4984) i_k_not {PB : Bool → Prop} {env : Env} {pt : Env → Option Bool} : SP1 (OkP (pNot pt env) PB) (OkP (pt env) fun (b : Bool) => PB !b) := ⟨k_not⟩
instance (priority := 4983) i_k_and {PB : Bool → Prop} {env : Env} {pt : Env → Option Bool} {pu : Env → Option Bool} : SP1 (OkP (pAnd pt pu env) PB) (OkP (pt env) fun (b : Bool) => if b = true then OkP (pu env) PB else PB false) := ⟨k_and⟩
instance (priority := 4982) i_k_or {PB : Bool → Prop} {env : Env} {pt : Env → Option Bool} {pu : Env → Option Bool} : SP1 (OkP (pOr pt pu env) PB) (OkP (pt env) fun (b : Bool) => if b = true then PB true else OkP (pu env) PB) := ⟨k_or⟩
instance (priority := 4981) i_k_if {P : D → Prop} {env : Env} {pa : PP} {pb : PP} {pt : Env → Option Bool} : SP1 (OkP (pIf pt pa pb env) P) (OkP (pt env) fun (b : Bool) => if b = true then OkP (pa env) P else OkP (pb env) P) := ⟨k_if⟩
instance (priority := 4980) i_k_andT {P : D → Prop} {env : Env} {pa : PP} {pb : PP} : SP1 (OkP (pAndT pa pb env) P) (OkP (pa env) fun (d : D) => OkP (tru d) fun (b : Bool) => if b = true then OkP (pb env) P else P d) := ⟨k_andT⟩
instance (priority := 4979) i_k_orT {P : D → Prop} {env : Env} {pa : PP} {pb : PP} : SP1 (OkP (pOrT pa pb env) P) (OkP (pa env) fun (d : D) => OkP (tru d) fun (b : Bool) => if b = true then P d else OkP (pb env) P) := ⟨k_orT⟩
instance (priority := 4978) i_k_notT {P : D → Prop} {env : Env} {pa : PP} : SP1 (OkP (pNotT pa env) P) (OkP (pa env) fun (d : D) => OkP (tru d) fun (b : Bool) => P (D.bl !b)) := ⟨k_notT⟩
instance (priority := 4977) i_k_chain {P : D → Prop} {env : Env} {pa : PP} {pb : PP} {pc : PP} {o : D → D → Option D} {o2 : D → D → Option D} : SP1 (OkP (pChain o o2 pa pb pc env) P) (OkP (pa env) fun (x : D) => OkP (pb env) fun (y : D) => OkP (o x y) fun (z : D) => OkP (blo z) fun (b : Bool) => if b = true then OkP (pc env) fun (w : D) => OkP (o2 y w) P else P (D.bl false)) := ⟨k_chain⟩
instance (priority := 4976) i_k_nopart {env : Env} {Q : Option Int → Prop} : SP1 (OkP (pNoPart env) Q) (Q none) := ⟨k_nopart⟩
instance (priority := 4975) i_k_part {env : Env} {pe : PP} {Q : Option Int → Prop} : SP1 (OkP (pPart pe env) Q) (OkP (pe env) fun (d : D) => OkP (into d) fun (i : Int) => Q (some i)) := ⟨k_part⟩
instance (priority := 4974) i_k_into {Q : Int → Prop} {j : Int} : SP1 (OkP (into (D.int j)) Q) (Q j) := ⟨k_into⟩
instance (priority := 4973) i_k_sl {P : D → Prop} {env : Env} {pa : PP} {o : D → Option Int → Option Int → Option D} {pl : Env → Option (Option Int)} {ph : Env → Option (Option Int)} : SP1 (OkP (pSl o pa pl ph env) P) (OkP (pa env) fun (d : D) => OkP (pl env) fun (l : Option Int) => OkP (ph env) fun (u : Option Int) => OkP (o d l u) P) := ⟨k_sl⟩
instance (priority := 4972) i_k_call {P : D → Prop} {env : Env} {ps : Env → Option (List D)} {f : List D → Option D} : SP1 (OkP (pCall f ps env) P) (OkP (ps env) fun (ds : List D) => OkP (f ds) P) := ⟨k_call⟩
instance (priority := 4971) i_k_callN {PA : List D → Prop} {env : Env} {ps : Env → Option (List D)} {f : List D → Option (List D)} : SP1 (OkP (pnCall f ps env) PA) (OkP (ps env) fun (ds : List D) => OkP (f ds) PA) := ⟨k_callN⟩
instance (priority := 4970) i_k_cbN {PA : List D → Prop} {env : Env} {ps : Env → Option (List D)} {f : List D → Option (List D)} : SP1 (OkP (pnCB f ps env) PA) (OkP (ps env) fun (ds : List D) => OkP (f ds) PA) := ⟨k_cbN⟩
instance (priority := 4969) i_k_addN {PA : List D → Prop} {env : Env} {pa : PP} {pb : PP} : SP1 (OkP (pnAdd pa pb env) PA) (OkP (pa env) fun (d : D) => OkP (pb env) fun (e : D) => OkP (onAdd d e) PA) := ⟨k_addN⟩
instance (priority := 4968) i_k_slN {PA : List D → Prop} {env : Env} {pa : PP} {pl : Env → Option (Option Int)} {ph : Env → Option (Option Int)} : SP1 (OkP (pnSl pa pl ph env) PA) (OkP (pa env) fun (d : D) => OkP (pl env) fun (l : Option Int) => OkP (ph env) fun (u : Option Int) => OkP (onSl d l u) PA) := ⟨k_slN⟩
instance (priority := 4967) i_k_ifN {pt : Env → Option Bool} {pa : Env → Option (List D)} {pb : Env → Option (List D)} {env : Env} {PA : List D → Prop} : SP1 (OkP (pnIf pt pa pb env) PA) (OkP (pt env) fun (b : Bool) => if b = true then OkP (pa env) PA else OkP (pb env) PA) := ⟨k_ifN⟩
instance (priority := 4966) i_o_slN {ds : List D} {PA : List D → Prop} {lo : Option Int} {hi : Option Int} : SP1 (OkP (onSl (D.lst ds) lo hi) PA) (PA (cutL ds lo hi)) := ⟨o_slN⟩
instance (priority := 4965) i_o_isubI {P : D → Prop} {i : Int} {j : Int} : SP1 (OkP (oISub (D.int i) (D.int j)) P) (P (D.int (i - j))) := ⟨o_isubI⟩
instance (priority := 4964) i_o_slT {P : D → Prop} {ds : List D} {lo : Option Int} {hi : Option Int} : SP1 (OkP (oSl (D.tup ds) lo hi) P) (P (D.tup (cutL ds lo hi))) := ⟨o_slT⟩
instance (priority := 4963) i_o_slC {P : D → Prop} {ns : List Int} {lo : Option Int} {hi : Option Int} : SP1 (OkP (oSl (D.scr ns) lo hi) P) (P (D.lst (List.map D.int (cutL ns lo hi)))) := ⟨o_slC⟩
instance (priority := 4962) i_e_sl {pa : PE'} {env : Env} {P : D → Env → Prop} {o : D → Option Int → Option Int → Option D} {pl : Env → Option (Option Int × Env)} {ph : Env → Option (Option Int × Env)} : SP1 (OkE (eSl o pa pl ph env) P) (OkE (pa env) fun (d : D) (e : Env) => OkE (pl e) fun (l : Option Int) (e1 : Env) => OkE (ph e1) fun (u : Option Int) (e2 : Env) => OkP (o d l u) fun (z : D) => P z e2) := ⟨e_sl⟩
instance (priority := 4961) i_e_part {pe : PE'} {env : Env} {P : Option Int → Env → Prop} : SP1 (OkE (ePart pe env) P) (OkE (pe env) fun (d : D) (e : Env) => OkP (into d) fun (i : Int) => P (some i) e) := ⟨e_part⟩
instance (priority := 4960) i_e_nopart {env : Env} {P : Option Int → Env → Prop} : SP1 (OkE (eNoPart env) P) (P none env) := ⟨e_nopart⟩
instance (priority := 4959) i_o_addB {P : D → Prop} {a : Bool} {j : Int} : SP1 (OkP (oAdd (D.bl a) (D.int j)) P) (P (D.int ((if a = true then 1 else 0) + j))) := ⟨o_addB⟩
instance (priority := 4958) i_o_subB {P : D → Prop} {a : Bool} {j : Int} : SP1 (OkP (oSub (D.bl a) (D.int j)) P) (P (D.int ((if a = true then 1 else 0) - j))) := ⟨o_subB⟩
instance (priority := 4957) i_o_boolI {P : D → Prop} {i : Int} : SP1 (OkP (oBool [D.int i]) P) (P (D.bl (i != 0))) := ⟨o_boolI⟩
instance (priority := 4956) i_o_boolB {P : D → Prop} {a : Bool} : SP1 (OkP (oBool [D.bl a]) P) (P (D.bl a)) := ⟨o_boolB⟩
instance (priority := 4955) i_e_Q {pe : PP} {env : Env} {PE : D → Env → Prop} : SP1 (OkE (eQ pe env) PE) (OkP (pe env) (nlK PE env)) := ⟨e_Q⟩
instance (priority := 4954) i_e_QN {pn : Env → Option (List D)} {env : Env} {PO : Ob → Env → Prop} : SP1 (OkE (eQN pn env) PO) (OkP (pn env) (nlsK PO env)) := ⟨e_QN⟩
instance (priority := 4953) i_k_revN {PA : List D → Prop} {env : Env} {pe : PP} : SP1 (OkP (pnRev pe env) PA) (OkP (pe env) (revP PA)) := ⟨k_revN⟩
instance (priority := 4952) i_k_rev1 {PA : List D → Prop} {l : List D} : SP1 (revP PA (D.lst l)) (PA l.reverse) := ⟨k_rev1⟩
instance (priority := 4951) i_k_seq {PA : List D → Prop} {env : Env} {pe : PP} : SP1 (OkP (pSeq pe env) PA) (OkP (pe env) fun (d : D) => OkP (itm d) PA) := ⟨k_seq⟩
instance (priority := 4950) i_k_itmL {PA : List D → Prop} {l : List D} : SP1 (OkP (itm (D.lst l)) PA) (PA l) := ⟨k_itmL⟩
instance (priority := 4949) i_k_itmT {PA : List D → Prop} {l : List D} : SP1 (OkP (itm (D.tup l)) PA) (PA l) := ⟨k_itmT⟩
instance (priority := 4948) i_k_itmS {PA : List D → Prop} {l : List Nat} : SP1 (OkP (itm (D.str l)) PA) (PA (List.map (fun (c : Nat) => D.str [c]) l)) := ⟨k_itmS⟩
instance (priority := 4947) i_k_itmC {PA : List D → Prop} {l : List Int} : SP1 (OkP (itm (D.scr l)) PA) (PA (List.map D.int l)) := ⟨k_itmC⟩
instance (priority := 4946) i_k_rng {PA : List D → Prop} {env : Env} {ps : Env → Option (List D)} : SP1 (OkP (pRng ps env) PA) (OkP (ps env) (rngP PA)) := ⟨k_rng⟩
instance (priority := 4945) i_k_rng2 {PA : List D → Prop} {env : Env} {ps : Env → Option (List D)} : SP1 (OkP (pRng2 ps env) PA) (OkP (ps env) (rngP2 PA)) := ⟨k_rng2⟩
instance (priority := 4944) i_k_enum {PA : List D → Prop} {env : Env} {ps : Env → Option (List D)} : SP1 (OkP (pEnum ps env) PA) (OkP (ps env) (enumP PA)) := ⟨k_enum⟩
instance (priority := 4943) i_k_zip {PA : List D → Prop} {env : Env} {ps : Env → Option (List D)} {s : Bool} : SP1 (OkP (pZip s ps env) PA) (OkP (ps env) (zipP s PA)) := ⟨k_zip⟩
instance (priority := 4942) i_k_enumZip {PA : List D → Prop} {env : Env} {ps : Env → Option (List D)} : SP1 (OkP (pEnumZip ps env) PA) (OkP (ps env) (zipP true fun (l : List D) => PA (enumD 0 l))) := ⟨k_enumZip⟩
instance (priority := 4941) i_k_revS {PA : List D → Prop} {env : Env} {pe : PP} : SP1 (OkP (pRevS pe env) PA) (OkP (pe env) (revSP PA)) := ⟨k_revS⟩
instance (priority := 4940) i_k_yes {PB : Bool → Prop} {env : Env} : SP1 (OkP (pYes env) PB) (PB true) := ⟨k_yes⟩
instance (priority := 4939) i_k_isi1 {P : D → Prop} {env : Env} {pe : PP} {c : String} : SP1 (OkP (pIsi1 c pe env) P) (OkP (pe env) fun (d : D) => P (D.bl (isD c d))) := ⟨k_isi1⟩
instance (priority := 4938) i_k_isi2 {P : D → Prop} {env : Env} {pe : PP} {c1 : String} {c2 : String} : SP1 (OkP (pIsi2 c1 c2 pe env) P) (OkP (pe env) fun (d : D) => P (D.bl (isD c1 d || isD c2 d))) := ⟨k_isi2⟩
instance (priority := 4937) i_k_lc {PA : List D → Prop} {env : Env} {pe : PP} {pt : Env → Option Bool} {pi : Env → Option (List D)} {pg : PG'} {vs : List Nat} : SP1 (OkP (pnLc pi pg pt pe vs env) PA) (OkP (pi env) (lenK fun (items : List D) => OkP (lcP pg pt pe items (wipeF env vs)) PA)) := ⟨k_lc⟩
instance (priority := 4936) i_k_gN {env : Env} {i : Nat} {d : D} {Q : Env → Prop} : SP1 (OkP (gN i d env) Q) (Q (List.set env i (some (C.v d)))) := ⟨k_gN⟩
instance (priority := 4935) i_k_gsCons {env : Env} {d : D} {Q : Env → Prop} {pg : PG'} {qs : List D → Env → Option Env} {ds : List D} : SP1 (OkP (gsCons pg qs (d :: ds) env) Q) (OkP (pg d env) fun (e : Env) => OkP (qs ds e) Q) := ⟨k_gsCons⟩
instance (priority := 4934) i_k_gsNil {env : Env} {Q : Env → Prop} : SP1 (OkP (gsNil [] env) Q) (Q env) := ⟨k_gsNil⟩
instance (priority := 4933) i_o_addI {P : D → Prop} {i : Int} {j : Int} : SP1 (OkP (oAdd (D.int i) (D.int j)) P) (P (D.int (i + j))) := ⟨o_addI⟩
instance (priority := 4932) i_o_subI {P : D → Prop} {i : Int} {j : Int} : SP1 (OkP (oSub (D.int i) (D.int j)) P) (P (D.int (i - j))) := ⟨o_subI⟩
instance (priority := 4931) i_o_neg {P : D → Prop} {i : Int} : SP1 (OkP (oNeg (D.int i)) P) (P (D.int (-i))) := ⟨o_neg⟩
instance (priority := 4930) i_o_eqS {P : D → Prop} {l : List Nat} {m : List Nat} : SP1 (OkP (oEq (D.str l) (D.str m)) P) (P (D.bl (decide (l = m)))) := ⟨o_eqS⟩
instance (priority := 4929) i_o_eqI {P : D → Prop} {i : Int} {j : Int} : SP1 (OkP (oEq (D.int i) (D.int j)) P) (P (D.bl (decide (i = j)))) := ⟨o_eqI⟩
instance (priority := 4928) i_o_eqB {P : D → Prop} {a : Bool} {b : Bool} : SP1 (OkP (oEq (D.bl a) (D.bl b)) P) (P (D.bl (decide (a = b)))) := ⟨o_eqB⟩
instance (priority := 4927) i_o_neS {P : D → Prop} {l : List Nat} {m : List Nat} : SP1 (OkP (oNe (D.str l) (D.str m)) P) (P (D.bl !decide (l = m))) := ⟨o_neS⟩
instance (priority := 4926) i_o_neI {P : D → Prop} {i : Int} {j : Int} : SP1 (OkP (oNe (D.int i) (D.int j)) P) (P (D.bl !decide (i = j))) := ⟨o_neI⟩
instance (priority := 4925) i_o_neB {P : D → Prop} {a : Bool} {b : Bool} : SP1 (OkP (oNe (D.bl a) (D.bl b)) P) (P (D.bl !decide (a = b))) := ⟨o_neB⟩
instance (priority := 4924) i_o_ltI {P : D → Prop} {i : Int} {j : Int} : SP1 (OkP (oLt (D.int i) (D.int j)) P) (P (D.bl (decide (i < j)))) := ⟨o_ltI⟩
instance (priority := 4923) i_o_leI {P : D → Prop} {i : Int} {j : Int} : SP1 (OkP (oLe (D.int i) (D.int j)) P) (P (D.bl (decide (i ≤ j)))) := ⟨o_leI⟩
instance (priority := 4922) i_o_gtI {P : D → Prop} {i : Int} {j : Int} : SP1 (OkP (oGt (D.int i) (D.int j)) P) (P (D.bl (decide (j < i)))) := ⟨o_gtI⟩
instance (priority := 4921) i_o_geI {P : D → Prop} {i : Int} {j : Int} : SP1 (OkP (oGe (D.int i) (D.int j)) P) (P (D.bl (decide (j ≤ i)))) := ⟨o_geI⟩
instance (priority := 4920) i_o_isN {P : D → Prop} {d : D} : SP1 (OkP (oIs d D.non) P) (P (D.bl (isNone d))) := ⟨o_isN⟩
instance (priority := 4919) i_o_isntN {P : D → Prop} {d : D} : SP1 (OkP (oIsnt d D.non) P) (P (D.bl !isNone d)) := ⟨o_isntN⟩
instance (priority := 4918) i_o_slL {P : D → Prop} {ds : List D} {lo : Option Int} {hi : Option Int} : SP1 (OkP (oSl (D.lst ds) lo hi) P) (P (D.lst (cutL ds lo hi))) := ⟨o_slL⟩
instance (priority := 4917) i_o_lenL {P : D → Prop} {ds : List D} : SP1 (OkP (oLen [D.lst ds]) P) (P (D.int ↑ds.length)) := ⟨o_lenL⟩
instance (priority := 4916) i_o_lenT {P : D → Prop} {ds : List D} : SP1 (OkP (oLen [D.tup ds]) P) (P (D.int ↑ds.length)) := ⟨o_lenT⟩
instance (priority := 4915) i_o_lenC {P : D → Prop} {ns : List Int} : SP1 (OkP (oLen [D.scr ns]) P) (P (D.int ↑ns.length)) := ⟨o_lenC⟩
instance (priority := 4914) i_o_abs {P : D → Prop} {i : Int} : SP1 (OkP (oAbs [D.int i]) P) (P (D.int (if i < 0 then -i else i))) := ⟨o_abs⟩
instance (priority := 4913) i_o_min {P : D → Prop} {i : Int} {j : Int} : SP1 (OkP (oMin [D.int i, D.int j]) P) (P (D.int (if j < i then j else i))) := ⟨o_min⟩
instance (priority := 4912) i_o_max {P : D → Prop} {i : Int} {j : Int} : SP1 (OkP (oMax [D.int i, D.int j]) P) (P (D.int (if j > i then j else i))) := ⟨o_max⟩
instance (priority := 4911) i_o_intI {P : D → Prop} {i : Int} : SP1 (OkP (oInt [D.int i]) P) (P (D.int i)) := ⟨o_intI⟩
instance (priority := 4910) i_o_intB {P : D → Prop} {a : Bool} : SP1 (OkP (oInt [D.bl a]) P) (P (D.int (if a = true then 1 else 0))) := ⟨o_intB⟩
instance (priority := 4909) i_o_tupL {P : D → Prop} {ds : List D} : SP1 (OkP (oTuple [D.lst ds]) P) (P (D.tup ds)) := ⟨o_tupL⟩
instance (priority := 4908) i_o_tupT {P : D → Prop} {ds : List D} : SP1 (OkP (oTuple [D.tup ds]) P) (P (D.tup ds)) := ⟨o_tupT⟩
instance (priority := 4907) i_o_listL {ds : List D} {PA : List D → Prop} : SP1 (OkP (onList [D.lst ds]) PA) (PA ds) := ⟨o_listL⟩
instance (priority := 4906) i_o_listT {ds : List D} {PA : List D → Prop} : SP1 (OkP (onList [D.tup ds]) PA) (PA ds) := ⟨o_listT⟩
instance (priority := 4905) i_o_inS {P : D → Prop} {l : List Nat} {c : Nat} : SP1 (OkP (oIn (D.str [c]) (D.str l)) P) (P (D.bl (decide (c ∈ l)))) := ⟨o_inS⟩
instance (priority := 4904) i_o_niS {P : D → Prop} {l : List Nat} {c : Nat} : SP1 (OkP (oNi (D.str [c]) (D.str l)) P) (P (D.bl !decide (c ∈ l))) := ⟨o_niS⟩
instance (priority := 4903) i_o_iaddI {P : D → Prop} {i : Int} {j : Int} : SP1 (OkP (oIAdd (D.int i) (D.int j)) P) (P (D.int (i + j))) := ⟨o_iaddI⟩
instance (priority := 4902) i_e_L {P : D → Env → Prop} {env : Env} {pp : PP} : SP1 (OkE (eL pp env) P) (OkP (pp (hide env)) fun (d : D) => P d env) := ⟨e_L⟩
instance (priority := 4901) i_e_LA {PA : List D → Env → Prop} {env : Env} {ps : Env → Option (List D)} : SP1 (OkE (eLA ps env) PA) (OkP (ps (hide env)) fun (d : List D) => PA d env) := ⟨e_LA⟩
instance (priority := 4900) i_e_LI {PA : List D → Env → Prop} {env : Env} {ps : Env → Option (List D)} : SP1 (OkE (eLI ps env) PA) (OkP (ps (hide env)) fun (d : List D) => PA d env) := ⟨e_LI⟩
instance (priority := 4899) i_e_P {P : D → Env → Prop} {env : Env} {pp : PP} : SP1 (OkE (eP pp env) P) (OkP (pp env) (scP P env)) := ⟨e_P⟩
instance (priority := 4898) i_e_T {PB : Bool → Env → Prop} {env : Env} {pt : Env → Option Bool} : SP1 (OkE (eT pt env) PB) (OkP (pt env) fun (b : Bool) => PB b env) := ⟨e_T⟩
instance (priority := 4897) i_e_N {PO : Ob → Env → Prop} {env : Env} {pn : Env → Option (List D)} : SP1 (OkE (eN pn env) PO) (OkP (pn (hide env)) fun (ds : List D) => PO (Ob.l ds) env) := ⟨e_N⟩
instance (priority := 4896) i_e_Fz {P : D → Env → Prop} {env : Env} {pn : Env → Option (Ob × Env)} : SP1 (OkE (eFz pn env) P) (OkE (pn env) fun (o : Ob) (e : Env) => match o with | Ob.l ds => P (D.lst ds) e | Ob.st ns t => False | Ob.dk ks vs => P (D.dic ks vs) e) := ⟨e_Fz⟩
instance (priority := 4895) i_e_op {P : D → Env → Prop} {env : Env} {pa : PE'} {pb : PE'} {o : D → D → Option D} : SP1 (OkE (eOp o pa pb env) P) (OkE (pa env) fun (d : D) (e : Env) => OkE (pb e) fun (d2 : D) (e2 : Env) => OkP (o d d2) fun (z : D) => P z e2) := ⟨e_op⟩
instance (priority := 4894) i_e_un {P : D → Env → Prop} {env : Env} {pa : PE'} {o : D → Option D} : SP1 (OkE (eUn o pa env) P) (OkE (pa env) fun (d : D) (e : Env) => OkP (o d) fun (z : D) => P z e) := ⟨e_un⟩
instance (priority := 4893) i_e_nil {PA : List D → Env → Prop} {env : Env} : SP1 (OkE (eNil env) PA) (PA [] env) := ⟨e_nil⟩
instance (priority := 4892) i_e_cons {PA : List D → Env → Prop} {env : Env} {pa : PE'} {ps : Env → Option (List D × Env)} : SP1 (OkE (eCons pa ps env) PA) (OkE (pa env) fun (d : D) (e : Env) => OkE (ps e) fun (ds : List D) (e2 : Env) => PA (d :: ds) e2) := ⟨e_cons⟩
instance (priority := 4891) i_e_cb {P : D → Env → Prop} {env : Env} {ps : Env → Option (List D × Env)} {o : List D → Option D} : SP1 (OkE (eCB o ps env) P) (OkE (ps env) fun (ds : List D) (e : Env) => OkP (o ds) fun (z : D) => P z e) := ⟨e_cb⟩
instance (priority := 4890) i_e_bm {P : D → Env → Prop} {env : Env} {pa : PE'} {ps : Env → Option (List D × Env)} {o : D → List D → Option D} : SP1 (OkE (eBM o pa ps env) P) (OkE (pa env) fun (d : D) (e : Env) => OkE (ps e) fun (ds : List D) (e2 : Env) => OkP (o d ds) fun (z : D) => P z e2) := ⟨e_bm⟩
instance (priority := 4889) i_e_lst {PO : Ob → Env → Prop} {env : Env} {ps : Env → Option (List D × Env)} : SP1 (OkE (enLst ps env) PO) (OkE (ps env) (lenE fun (ds : List D) (e : Env) => PO (Ob.l ds) e)) := ⟨e_lst⟩
instance (priority := 4888) i_e_tup {P : D → Env → Prop} {env : Env} {ps : Env → Option (List D × Env)} : SP1 (OkE (eTup ps env) P) (OkE (ps env) (lenE fun (ds : List D) (e : Env) => P (D.tup ds) e)) := ⟨e_tup⟩
instance (priority := 4887) i_e_test {PB : Bool → Env → Prop} {env : Env} {pe : PE'} : SP1 (OkE (eTest pe env) PB) (OkE (pe env) fun (d : D) (e : Env) => OkP (blo d) fun (b : Bool) => PB b e) := ⟨e_test⟩
instance (priority := 4886) i_e_tru {PB : Bool → Env → Prop} {env : Env} {pe : PE'} : SP1 (OkE (eTru pe env) PB) (OkE (pe env) fun (d : D) (e : Env) => OkP (tru d) fun (b : Bool) => PB b e) := ⟨e_tru⟩
instance (priority := 4885) i_e_not {PB : Bool → Env → Prop} {env : Env} {pt : Env → Option (Bool × Env)} : SP1 (OkE (eNot pt env) PB) (OkE (pt env) fun (b : Bool) (e : Env) => PB (!b) e) := ⟨e_not⟩
instance (priority := 4884) i_e_and {PB : Bool → Env → Prop} {env : Env} {pt : Env → Option (Bool × Env)} {pu : Env → Option (Bool × Env)} : SP1 (OkE (eAnd pt pu env) PB) (OkE (pt env) fun (b : Bool) (e : Env) => if b = true then OkE (pu e) PB else PB false e) := ⟨e_and⟩
instance (priority := 4883) i_e_or {PB : Bool → Env → Prop} {env : Env} {pt : Env → Option (Bool × Env)} {pu : Env → Option (Bool × Env)} : SP1 (OkE (eOr pt pu env) PB) (OkE (pt env) fun (b : Bool) (e : Env) => if b = true then PB true e else OkE (pu e) PB) := ⟨e_or⟩
instance (priority := 4882) i_e_if {P : D → Env → Prop} {env : Env} {pa : PE'} {pb : PE'} {pt : Env → Option (Bool × Env)} : SP1 (OkE (eIf pt pa pb env) P) (OkE (pt env) fun (b : Bool) (e : Env) => if b = true then OkE (pa e) P else OkE (pb e) P) := ⟨e_if⟩
instance (priority := 4881) i_e_andT {P : D → Env → Prop} {env : Env} {pa : PE'} {pb : PE'} : SP1 (OkE (eAndT pa pb env) P) (OkE (pa env) fun (d : D) (e : Env) => OkP (tru d) fun (b : Bool) => if b = true then OkE (pb e) P else P d e) := ⟨e_andT⟩
instance (priority := 4880) i_e_orT {P : D → Env → Prop} {env : Env} {pa : PE'} {pb : PE'} : SP1 (OkE (eOrT pa pb env) P) (OkE (pa env) fun (d : D) (e : Env) => OkP (tru d) fun (b : Bool) => if b = true then P d e else OkE (pb e) P) := ⟨e_orT⟩
instance (priority := 4879) i_e_call {P : D → Env → Prop} {env : Env} {ps : Env → Option (List D × Env)} {f : List D → Option D} : SP1 (OkE (eCall f ps env) P) (OkE (ps env) fun (ds : List D) (e : Env) => OkP (f ds) fun (z : D) => P z e) := ⟨e_call⟩
instance (priority := 4878) i_e_callN {PO : Ob → Env → Prop} {env : Env} {ps : Env → Option (List D × Env)} {f : List D → Option (List D)} : SP1 (OkE (enCall f ps env) PO) (OkE (ps env) fun (ds : List D) (e : Env) => OkP (f ds) fun (z : List D) => PO (Ob.l z) e) := ⟨e_callN⟩
instance (priority := 4877) i_e_vnil {env : Env} {PV : List (Option D) → Env → Prop} : SP1 (OkE (vNil env) PV) (PV [] env) := ⟨e_vnil⟩
instance (priority := 4876) i_e_vcons {env : Env} {pa : PE'} {PV : List (Option D) → Env → Prop} {pv : Env → Option (List (Option D) × Env)} : SP1 (OkE (vCons pa pv env) PV) (OkE (pa env) fun (d : D) (e : Env) => OkE (pv e) fun (ds : List (Option D)) (e2 : Env) => PV (some d :: ds) e2) := ⟨e_vcons⟩
instance (priority := 4875) i_e_vio {env : Env} {PV : List (Option D) → Env → Prop} {pv : Env → Option (List (Option D) × Env)} : SP1 (OkE (vIo pv env) PV) (OkE (pv env) fun (ds : List (Option D)) (e2 : Env) => PV (none :: ds) e2) := ⟨e_vio⟩
instance (priority := 4874) i_e_callT {P : D → Env → Prop} {env : Env} {ps : Env → Option (List D × Env)} {pn : Env → Option (Ob × Env)} {f : List (Option D) → Ob → Option (D × Ob)} : SP1 (OkE (eCallT f pn ps env) P) (OkE (pn env) fun (o : Ob) (e : Env) => OkE (ps e) fun (ds : List D) (e2 : Env) => OkP (f (none :: List.map some ds) o) fun (z : D × Ob) => P z.fst e2) := ⟨e_callT⟩
instance (priority := 4873) i_e_callTN {PO : Ob → Env → Prop} {env : Env} {ps : Env → Option (List D × Env)} {pn : Env → Option (Ob × Env)} {f : List (Option D) → Ob → Option (List D × Ob)} : SP1 (OkE (enCallT f pn ps env) PO) (OkE (pn env) fun (o : Ob) (e : Env) => OkE (ps e) fun (ds : List D) (e2 : Env) => OkP (f (none :: List.map some ds) o) fun (z : List D × Ob) => PO (Ob.l z.fst) e2) := ⟨e_callTN⟩
instance (priority := 4872) i_e_addN {PO : Ob → Env → Prop} {env : Env} {pa : PE'} {pb : PE'} : SP1 (OkE (enAdd pa pb env) PO) (OkE (pa env) fun (d : D) (e : Env) => OkE (pb e) fun (d2 : D) (e2 : Env) => OkP (onAdd d d2) fun (z : List D) => PO (Ob.l z) e2) := ⟨e_addN⟩
instance (priority := 4871) i_e_cbN {PO : Ob → Env → Prop} {env : Env} {ps : Env → Option (List D × Env)} {o : List D → Option (List D)} : SP1 (OkE (enCB o ps env) PO) (OkE (ps env) fun (ds : List D) (e : Env) => OkP (o ds) fun (z : List D) => PO (Ob.l z) e) := ⟨e_cbN⟩
instance (priority := 4870) i_e_seq {PA : List D → Env → Prop} {env : Env} {pe : PE'} : SP1 (OkE (eSeq pe env) PA) (OkE (pe env) fun (d : D) (e : Env) => OkP (itm d) fun (ds : List D) => PA ds e) := ⟨e_seq⟩
instance (priority := 4869) i_e_rng {PA : List D → Env → Prop} {env : Env} {ps : Env → Option (List D × Env)} : SP1 (OkE (eRng ps env) PA) (OkE (ps env) (rngE PA)) := ⟨e_rng⟩
instance (priority := 4868) i_e_yes {PB : Bool → Env → Prop} {env : Env} : SP1 (OkE (eYes env) PB) (PB true env) := ⟨e_yes⟩
instance (priority := 4867) i_s_next {N : Env → Prop} {T : D → Env → Prop} {TN : Ob → Env → Prop} {env : Env} : SP1 (SW (sNext env) N T TN) (N env) := ⟨s_next⟩
instance (priority := 4866) i_s_seq {N : Env → Prop} {T : D → Env → Prop} {TN : Ob → Env → Prop} {env : Env} {ps : PS'} {pu : PS'} : SP1 (SW (sSeq ps pu env) N T TN) (SW (ps env) (fun (e : Env) => SW (pu e) N T TN) T TN) := ⟨s_seq⟩
instance (priority := 4865) i_s_if {N : Env → Prop} {T : D → Env → Prop} {TN : Ob → Env → Prop} {env : Env} {pt : Env → Option (Bool × Env)} {ps : PS'} {pu : PS'} : SP1 (SW (sIf pt ps pu env) N T TN) (OkE (pt env) fun (b : Bool) (e : Env) => if b = true then SW (ps e) N T TN else SW (pu e) N T TN) := ⟨s_if⟩
instance (priority := 4864) i_s_ret {N : Env → Prop} {T : D → Env → Prop} {TN : Ob → Env → Prop} {env : Env} {pe : PE'} : SP1 (SW (sRet pe env) N T TN) (OkE (pe env) T) := ⟨s_ret⟩
instance (priority := 4863) i_s_retO {N : Env → Prop} {T : D → Env → Prop} {TN : Ob → Env → Prop} {env : Env} : SP1 (SW (sRetO env) N T TN) (T D.non env) := ⟨s_retO⟩
instance (priority := 4862) i_s_retN {N : Env → Prop} {T : D → Env → Prop} {TN : Ob → Env → Prop} {env : Env} {pn : Env → Option (Ob × Env)} : SP1 (SW (sRetN pn env) N T TN) (OkE (pn env) TN) := ⟨s_retN⟩
instance (priority := 4861) i_s_asg {N : Env → Prop} {T : D → Env → Prop} {TN : Ob → Env → Prop} {env : Env} {pe : PE'} {pg : PG'} : SP1 (SW (sAsg pe pg env) N T TN) (OkE (pe env) fun (d : D) (e : Env) => OkP (pg d e) N) := ⟨s_asg⟩
instance (priority := 4860) i_s_drop {N : Env → Prop} {T : D → Env → Prop} {TN : Ob → Env → Prop} {env : Env} {pe : PE'} : SP1 (SW (sDrop pe env) N T TN) (OkE (pe env) fun (x : D) (e : Env) => N e) := ⟨s_drop⟩
instance (priority := 4859) i_s_for {N : Env → Prop} {T : D → Env → Prop} {TN : Ob → Env → Prop} {env : Env} {ps : PS'} {pg : PG'} {pi : Env → Option (List D × Env)} : SP1 (SW (sFor pi pg ps env) N T TN) (OkE (pi env) fun (items : List D) (e : Env) => SW (pfor pg ps items e) N T TN) := ⟨s_for⟩
instance (priority := 4858) i_w_wnil {env : Env} {PW : List AV → Env → Prop} : SP1 (OkE (wNil env) PW) (PW [] env) := ⟨w_wnil⟩
instance (priority := 4857) i_w_wcons {env : Env} {pe : PE'} {PW : List AV → Env → Prop} {pw : Env → Option (List AV × Env)} : SP1 (OkE (wCons pe pw env) PW) (OkE (pe env) fun (d : D) (e : Env) => OkE (pw e) fun (ds : List AV) (e2 : Env) => PW (AV.d d :: ds) e2) := ⟨w_wcons⟩
instance (priority := 4856) i_w_wnew {env : Env} {pn : Env → Option (Ob × Env)} {PW : List AV → Env → Prop} {pw : Env → Option (List AV × Env)} : SP1 (OkE (wNew pn pw env) PW) (OkE (pn env) fun (d : Ob) (e : Env) => OkE (pw e) fun (ds : List AV) (e2 : Env) => PW (AV.n d :: ds) e2) := ⟨w_wnew⟩
instance (priority := 4855) i_s_par {N : Env → Prop} {T : D → Env → Prop} {TN : Ob → Env → Prop} {env : Env} {i : Nat} {j : Nat} {pw : Env → Option (List AV × Env)} : SP1 (SW (sPar i j pw env) N T TN) (OkE (pw env) (parP i j N)) := ⟨s_par⟩
instance (priority := 4854) i_s_par1 {N : Env → Prop} {env : Env} {i : Nat} {a : AV} {b : AV} {j : Nat} : SP1 (parP i j N [a, b] env) (OkP (setAV env i a) fun (e1 : Env) => OkP (setAV e1 j b) N) := ⟨s_par1⟩
instance (priority := 4853) i_s_par3 {N : Env → Prop} {T : D → Env → Prop} {TN : Ob → Env → Prop} {env : Env} {i : Nat} {j : Nat} {k : Nat} {pw : Env → Option (List AV × Env)} : SP1 (SW (sPar3 i j k pw env) N T TN) (OkE (pw env) (parP3 i j k N)) := ⟨s_par3⟩
instance (priority := 4852) i_s_par31 {N : Env → Prop} {env : Env} {i : Nat} {a : AV} {b : AV} {c : AV} {j : Nat} {k : Nat} : SP1 (parP3 i j k N [a, b, c] env) (OkP (setAV env i a) fun (e1 : Env) => OkP (setAV e1 j b) fun (e2 : Env) => OkP (setAV e2 k c) N) := ⟨s_par31⟩
instance (priority := 4851) i_m_reverse {P : D × List D → Prop} {ds : List D} : SP1 (OkP (mReverse ds []) P) (P (D.non, ds.reverse)) := ⟨m_reverse⟩
instance (priority := 4850) i_s_tt {A : Prop} : SS1 (true = true ∧ A) (A) := ⟨s_tt⟩
instance (priority := 4849) i_e_callO {PO : Ob → Env → Prop} {env : Env} {ps : Env → Option (List D × Env)} {f : List D → Option Ob} : SS1 (OkE (enCallO f ps env) PO) (OkE (ps env) fun (ds : List D) (e : Env) => OkP (f ds) fun (z : Ob) => PO z e) := ⟨e_callO⟩
instance (priority := 4848) i_k_rg1 {pa : PP} {env : Env} {PA : List D → Prop} : SS1 (OkP (pnRg1 pa env) PA) (OkP (pa env) (rg1P PA)) := ⟨k_rg1⟩
instance (priority := 4847) i_k_mulN {pa : PP} {pb : PP} {env : Env} {PA : List D → Prop} : SS1 (OkP (pnMul pa pb env) PA) (OkP (pa env) fun (d : D) => OkP (pb env) fun (e : D) => OkP (onMul d e) PA) := ⟨k_mulN⟩
instance (priority := 4846) i_k_rng3 {ps : Env → Option (List D)} {env : Env} {PA : List D → Prop} : SS1 (OkP (pRng3 ps env) PA) (OkP (ps env) (rngP3 PA)) := ⟨k_rng3⟩
instance (priority := 4845) i_k_st1 {Q : Env → Prop} {pg : List D → Env → Option Env} {d : D} {ds : List D} {env : Env} : SS1 (OkP (gSt 2 1 pg (D.tup (d :: ds)) env) Q) (OkP (pg [d, D.lst ds] env) Q) := ⟨k_st1⟩
instance (priority := 4844) i_k_st1L {Q : Env → Prop} {pg : List D → Env → Option Env} {d : D} {ds : List D} {env : Env} : SS1 (OkP (gSt 2 1 pg (D.lst (d :: ds)) env) Q) (OkP (pg [d, D.lst ds] env) Q) := ⟨k_st1L⟩
instance (priority := 4843) i_o_startsw {P : D → Prop} {l : List Nat} {b : List Nat} : SS1 (OkP (oStartsw (D.str l) [D.str b]) P) (P (D.bl (decide (List.take b.length l = b)))) := ⟨o_startsw⟩
instance (priority := 4842) i_k_orN {pa : Env → Option (List D)} {pb : Env → Option (List D)} {env : Env} {PA : List D → Prop} : SS1 (OkP (pnOr pa pb env) PA) (OkP (pa env) fun (l : List D) => if l.isEmpty = true then OkP (pb env) PA else PA l) := ⟨k_orN⟩
instance (priority := 4841) i_k_callK {f : List D → Option D} {n : Nat} {m : Nat} {ix : List Nat} {pa : Env → Option (List D)} {pk : Env → Option (List D)} {env : Env} {P : D → Prop} : SS1 (OkP (pCallK f n m ix pa pk env) P) (OkP (pa env) fun (ds : List D) => OkP (pk env) fun (es : List D) => kwP f n m ix P ds es) := ⟨k_callK⟩
instance (priority := 4840) i_k_get2 {pa : PP} {pb : PP} {pc : PP} {env : Env} {P : D → Prop} : SS1 (OkP (pGet2 pa pb pc env) P) (OkP (pa env) fun (x : D) => OkP (pb env) fun (k : D) => OkP (pc env) fun (d : D) => OkP (oGet2 x k d) P) := ⟨k_get2⟩
instance (priority := 4839) i_k_deq {pa : PP} {pb : PP} {env : Env} {P : D → Prop} : SS1 (OkP (pDEq pa pb env) P) (OkP (pa env) fun (x : D) => OkP (pb env) fun (y : D) => OkP (oDEqB x y) fun (b : Bool) => P (D.bl b)) := ⟨k_deq⟩
instance (priority := 4838) i_o_addBB {a : Bool} {b : Bool} {P : D → Prop} : SS1 (OkP (oAddBB (D.bl a) (D.bl b)) P) (P (D.int ((if a = true then 1 else 0) + if b = true then 1 else 0))) := ⟨o_addBB⟩
instance (priority := 4837) i_k_dne {pa : PP} {pb : PP} {env : Env} {P : D → Prop} : SS1 (OkP (pDNe pa pb env) P) (OkP (pa env) fun (x : D) => OkP (pb env) fun (y : D) => OkP (oDEqB x y) fun (b : Bool) => P (D.bl !b)) := ⟨k_dne⟩
instance (priority := 4836) i_k_disp {l : List (DK × PP)} {env : Env} {P : D → Prop} : SS1 (OkP (pDisp l env) P) (OkP (pPairs l env) fun (ds : List D) => P (D.dic (List.map (fun (x : DK × PP) => x.fst) l) ds)) := ⟨k_disp⟩
instance (priority := 4835) i_k_pp0 {env : Env} {PA : List D → Prop} : SS1 (OkP (pPairs [] env) PA) (PA []) := ⟨k_pp0⟩
instance (priority := 4834) i_k_pp1 {k : DK} {p : PP} {l : List (DK × PP)} {env : Env} {PA : List D → Prop} : SS1 (OkP (pPairs ((k, p) :: l) env) PA) (OkP (p env) fun (d : D) => OkP (pPairs l env) fun (ds : List D) => PA (d :: ds)) := ⟨k_pp1⟩
instance (priority := 4833) i_k_rngDn {ps : Env → Option (List D)} {env : Env} {PA : List D → Prop} : SS1 (OkP (pRngDn ps env) PA) (OkP (ps env) (rngPD PA)) := ⟨k_rngDn⟩
instance (priority := 4832) i_k_revR {pa : PP} {env : Env} {PA : List D → Prop} : SS1 (OkP (pRevR pa env) PA) (OkP (pa env) (revRP PA)) := ⟨k_revR⟩
instance (priority := 4831) i_k_dget {pa : PP} {pb : PP} {env : Env} {P : D → Prop} : SS1 (OkP (pDGet pa pb env) P) (OkP (pa env) fun (x : D) => OkP (pb env) fun (k : D) => OkP (oDGet x k) P) := ⟨k_dget⟩
instance (priority := 4830) i_k_din {pa : PP} {pb : PP} {env : Env} {P : D → Prop} : SS1 (OkP (pDIn pa pb env) P) (OkP (pa env) fun (k : D) => OkP (pb env) fun (x : D) => OkP (oDIn k x) fun (b : Bool) => P (D.bl b)) := ⟨k_din⟩
instance (priority := 4829) i_k_dni {pa : PP} {pb : PP} {env : Env} {P : D → Prop} : SS1 (OkP (pDNi pa pb env) P) (OkP (pa env) fun (k : D) => OkP (pb env) fun (x : D) => OkP (oDIn k x) fun (b : Bool) => P (D.bl !b)) := ⟨k_dni⟩
instance (priority := 4828) i_k_callO {f : List D → Option Ob} {ps : Env → Option (List D)} {env : Env} {P : D → Prop} : SS1 (OkP (pCallO f ps env) P) (OkP (ps env) fun (ds : List D) => OkP (f ds) fun (o : Ob) => ∃ (ks : List DK), ∃ (vs : List D), o = Ob.dk ks vs ∧ P (D.dic ks vs)) := ⟨k_callO⟩
instance (priority := 4827) i_e_dic0 {env : Env} {PO : Ob → Env → Prop} : SS1 (OkE (enDic0 env) PO) (PO (Ob.dk [] []) env) := ⟨e_dic0⟩
instance (priority := 4826) i_o_listD {ks : List DK} {vs : List D} {PA : List D → Prop} : SS1 (OkP (onListD [D.dic ks vs]) PA) (PA (List.map kD ks)) := ⟨o_listD⟩
instance (priority := 4825) i_k_callD {f : List D → Option D} {dd : List D} {ps : Env → Option (List D)} {env : Env} {P : D → Prop} : SS1 (OkP (pCallD f dd ps env) P) (OkP (ps env) fun (ds : List D) => OkP (f (ds ++ dd)) P) := ⟨k_callD⟩
instance (priority := 4824) i_k_callKN {f : List D → Option (List D)} {n : Nat} {m : Nat} {ix : List Nat} {pa : Env → Option (List D)} {pk : Env → Option (List D)} {env : Env} {P : List D → Prop} : SS1 (OkP (pnCallK f n m ix pa pk env) P) (OkP (pa env) fun (ds : List D) => OkP (pk env) fun (es : List D) => kwP f n m ix P ds es) := ⟨k_callKN⟩
instance (priority := 4823) i_k_yesT {A : Prop} {B : Prop} : SS1 (if true = true then A else B) (A) := ⟨k_yesT⟩
instance (priority := 4820) i_k_nfT {A : Prop} {B : Prop} : SS1 (if (!false) = true then A else B) (A) := ⟨k_nfT⟩
instance (priority := 4819) i_k_var {P : D → Prop} {env : Env} {i : Nat} : RP1 (OkP (pVar i env) P) (D) (fun d => pget env i = some d) (fun d => P d) := ⟨fun _ h q => k_var h q⟩
instance (priority := 4818) i_e_sc {P : D → Env → Prop} {env : Env} {d : D} : RP0 (scP P env d) (d.sc = true) (P d env) := ⟨fun h q => e_sc h q⟩
instance (priority := 4817) i_k_nlK {PE : D → Env → Prop} {env : Env} {d : D} : RP0 (nlK PE env d) (nl d = true) (PE d env) := ⟨fun h q => k_nlK h q⟩
instance (priority := 4816) i_k_nlsK {PO : Ob → Env → Prop} {env : Env} {ds : List D} : RP0 (nlsK PO env ds) (nls ds = true) (PO (Ob.l ds) env) := ⟨fun h q => k_nlsK h q⟩
instance (priority := 4815) i_k_gT {env : Env} {Q : Env → Prop} {m : Nat} {pg : List D → Env → Option Env} {ds : List D} : RP0 (OkP (gT m pg (D.tup ds) env) Q) (ds.length = m) (OkP (pg ds env) Q) := ⟨fun h q => k_gT h q⟩
instance (priority := 4814) i_k_gTL {env : Env} {Q : Env → Prop} {m : Nat} {pg : List D → Env → Option Env} {ds : List D} : RP0 (OkP (gT m pg (D.lst ds) env) Q) (ds.length = m) (OkP (pg ds env) Q) := ⟨fun h q => k_gTL h q⟩
instance (priority := 4813) i_s_aug {N : Env → Prop} {T : D → Env → Prop} {TN : Ob → Env → Prop} {env : Env} {i : Nat} {pe : PE'} {o : D → D → Option D} : RP1 (SW (sAug i pe o env) N T TN) (D) (fun d => env[i]? = some (some (C.v d))) (fun d => OkE (pe env) fun (x : D) (e : Env) => OkP (o d x) fun (z : D) => notIo e i = true ∧ N (List.set e i (some (C.v z)))) := ⟨fun _ h q => s_aug h q⟩
instance (priority := 4812) i_e_callIo {P : D → Env → Prop} {env : Env} {i : Nat} {f : List (Option D) → Ob → Option (D × Ob)} {pv : Env → Option (List (Option D) × Env)} : RP1 (OkE (eCallIo f i pv env) P) (Ob) (fun o0 => obj env i = some o0) (fun o0 => OkE (pv env) (ioP f i P)) := ⟨fun _ h q => e_callIo h q⟩
instance (priority := 4811) i_e_callIoN {PO : Ob → Env → Prop} {env : Env} {i : Nat} {f : List (Option D) → Ob → Option (List D × Ob)} {pv : Env → Option (List (Option D) × Env)} : RP1 (OkE (enCallIo f i pv env) PO) (Ob) (fun o0 => obj env i = some o0) (fun o0 => OkE (pv env) (ioPN f i PO)) := ⟨fun _ h q => e_callIoN h q⟩
instance (priority := 4810) i_e_io1 {P : D → Env → Prop} {env : Env} {i : Nat} {f : List (Option D) → Ob → Option (D × Ob)} {ds : List (Option D)} : RP1 (ioP f i P ds env) (Ob) (fun ob => obj env i = some ob) (fun ob => OkP (f ds ob) fun (z : D × Ob) => P z.fst (setO env i z.snd)) := ⟨fun _ h q => e_io1 h q⟩
instance (priority := 4809) i_e_io1N {PO : Ob → Env → Prop} {env : Env} {i : Nat} {f : List (Option D) → Ob → Option (List D × Ob)} {ds : List (Option D)} : RP1 (ioPN f i PO ds env) (Ob) (fun ob => obj env i = some ob) (fun ob => OkP (f ds ob) fun (z : List D × Ob) => PO (Ob.l z.fst) (setO env i z.snd)) := ⟨fun _ h q => e_io1N h q⟩
instance (priority := 4808) i_e_frz {P : D → Env → Prop} {env : Env} {i : Nat} {pe : PE'} : RP1 (OkE (eFrz i pe env) P) (Env) (fun e1 => frz1 env i = some e1) (fun e1 => OkE (pe e1) P) := ⟨fun _ h q => e_frz h q⟩
instance (priority := 4807) i_e_ifrz {PA : List D → Env → Prop} {env : Env} {i : Nat} {ps : Env → Option (List D × Env)} : RP1 (OkE (eiFrz i ps env) PA) (Env) (fun e1 => frz1 env i = some e1) (fun e1 => OkE (ps e1) PA) := ⟨fun _ h q => e_ifrz h q⟩
instance (priority := 4806) i_e_nfrz {PO : Ob → Env → Prop} {env : Env} {i : Nat} {pn : Env → Option (Ob × Env)} : RP1 (OkE (enFrz i pn env) PO) (Env) (fun e1 => frz1 env i = some e1) (fun e1 => OkE (pn e1) PO) := ⟨fun _ h q => e_nfrz h q⟩
instance (priority := 4805) i_e_copy {i : Nat} {env : Env} {PO : Ob → Env → Prop} : RP1 (OkE (enCopy i env) PO) (List D) (fun o0 => obj env i = some (Ob.l o0)) (fun o0 => PO (Ob.l o0) env) := ⟨fun _ h q => e_copy h q⟩
instance (priority := 4804) i_e_ixM {P : D → Env → Prop} {env : Env} {i : Nat} {pj : PE'} : RP1 (OkE (eIxM i pj env) P) (Ob) (fun o0 => obj env i = some o0) (fun o0 => OkE (pj env) (ixMP i P)) := ⟨fun _ h q => e_ixM h q⟩
instance (priority := 4803) i_s_sub {env : Env} {i : Nat} {d : D} {Q : Env → Prop} {pj : PE'} : RP1 (OkP (tSub i pj d env) Q) (Ob) (fun o0 => obj env i = some o0) (fun o0 => OkE (pj env) (subP i d Q)) := ⟨fun _ h q => s_sub h q⟩
instance (priority := 4802) i_e_mut {P : D → Env → Prop} {env : Env} {i : Nat} {ps : Env → Option (List D × Env)} {f : List D → List D → Option (D × List D)} : RP1 (OkE (eMut f i ps env) P) (List D) (fun o0 => obj env i = some (Ob.l o0)) (fun o0 => OkE (ps env) (mutP f i P)) := ⟨fun _ h q => e_mut h q⟩
instance (priority := 4801) i_e_mut0 {P : D → Env → Prop} {env : Env} {i : Nat} {f : List D → List D → Option (D × List D)} : RP1 (OkE (eMut0 f i env) P) (List D) (fun ds => obj env i = some (Ob.l ds)) (fun ds => OkP (f ds []) fun (z : D × List D) => P z.fst (setO env i (Ob.l z.snd))) := ⟨fun _ h q => e_mut0 h q⟩
instance (priority := 4800) i_e_mut1 {P : D → Env → Prop} {env : Env} {i : Nat} {f : List D → List D → Option (D × List D)} {es : List D} : RP1 (mutP f i P es env) (List D) (fun ds => obj env i = some (Ob.l ds)) (fun ds => OkP (f ds es) fun (z : D × List D) => P z.fst (setO env i (Ob.l z.snd))) := ⟨fun _ h q => e_mut1 h q⟩
instance (priority := 4799) i_e_var {PO : Ob → Env → Prop} {env : Env} {i : Nat} : RP1 (OkE (enVar i env) PO) (Ob) (fun ob => env[i]? = some (some (C.m ob))) (fun ob => PO ob (List.set env i none)) := ⟨fun _ h q => e_var h q⟩
instance (priority := 4795) i_e_callM {env : Env} {P : D → Env → Prop} {m : List Bool} {f : FM} {pv : Env → Option (List (Option D) × Env)} : RS1 (OkE (eCallM f m pv env) P) (List Ob) (fun o0 => objsB m env = some o0) (fun o0 => OkE (pv env) (ioPM f m P)) := ⟨fun _ h q => e_callM h q⟩
instance (priority := 4794) i_e_callMN {env : Env} {PO : Ob → Env → Prop} {m : List Bool} {f : FMN} {pv : Env → Option (List (Option D) × Env)} : RS1 (OkE (enCallM f m pv env) PO) (List Ob) (fun o0 => objsB m env = some o0) (fun o0 => OkE (pv env) (ioPMN f m PO)) := ⟨fun _ h q => e_callMN h q⟩
instance (priority := 4793) i_e_io1M {env : Env} {P : D → Env → Prop} {m : List Bool} {f : FM} {ds : List (Option D)} : RS1 (ioPM f m P ds env) (List Ob) (fun os => objsB m env = some os) (fun os => OkP (f ds os) fun (z : D × List Ob) => P z.fst (setB m env z.snd)) := ⟨fun _ h q => e_io1M h q⟩
instance (priority := 4792) i_e_io1MN {env : Env} {PO : Ob → Env → Prop} {m : List Bool} {f : FMN} {ds : List (Option D)} : RS1 (ioPMN f m PO ds env) (List Ob) (fun os => objsB m env = some os) (fun os => OkP (f ds os) fun (z : Ob × List Ob) => PO z.fst (setB m env z.snd)) := ⟨fun _ h q => e_io1MN h q⟩
instance (priority := 4790) i_s_subD0 {i : Nat} {env : Env} {d : D} {Q : Env → Prop} {pj : PE'} : RS1 (OkP (tSubD i pj d env) Q) (Ob) (fun o0 => obj env i = some o0) (fun o0 => OkE (pj env) (subDP i d Q)) := ⟨fun _ h q => s_subD0 h q⟩
instance (priority := 4789) i_o_ixL {P : D → Prop} {j : Int} {ds : List D} : RS1 (OkP (oIx (D.lst ds) (D.int j)) P) (D) (fun d => atI ds j = some d) (fun d => P d) := ⟨fun _ h q => o_ixL h q⟩
instance (priority := 4788) i_o_ixT {P : D → Prop} {j : Int} {ds : List D} : RS1 (OkP (oIx (D.tup ds) (D.int j)) P) (D) (fun d => atI ds j = some d) (fun d => P d) := ⟨fun _ h q => o_ixT h q⟩
end MA
/-! ZA: dicts gone through (not in the layer's list: a law that needs it imports it). -/
namespace MA
open PySem PySem.Spec PyProof.Rows L2 SX
section
variable {K : PySem.W.Frag} {G G2 : Hp} {a : Addr} {kvs : List (Key × V)}
theorem Rd_chg (h1 : Rd G a (.dK kvs)) (h2 : Rd G2 a (.dK kvs)) (h3 : ∀ b, b ≠ a → ∀ u, G b = some u → G2 b = some u) {b : Addr} {u : HO} (hu : ∀ o u', u ≠ .frz o u') (h : Rd G b u) : Rd G2 b u := by
  by_cases e : b = a
  · subst e
    have : u = .dK kvs := by
      rcases h with h | ⟨o, h⟩
      · rcases h1 with h1 | ⟨o', h1⟩
        · rw [h] at h1; cases h1; rfl
        · rw [h] at h1; cases h1; exact absurd rfl (hu _ _)
      · rcases h1 with h1 | ⟨o', h1⟩
        · rw [h] at h1; cases h1
        · rw [h] at h1; cases h1; rfl
    subst this
    exact h2
  · rcases h with h | ⟨o, h⟩
    · exact .inl (h3 b e _ h)
    · exact .inr ⟨o, h3 b e _ h⟩
mutual
theorem R_chg (h1 : Rd G a (.dK kvs)) (h2 : Rd G2 a (.dK kvs)) (h3 : ∀ b, b ≠ a → ∀ u, G b = some u → G2 b = some u) : ∀ (d : D) (v : V), R K G d v → R K G2 d v
  | .non, _, h => h
  | .bl _, _, h => h
  | .int _, _, h => h
  | .str _, _, h => h
  | .lst ds, _, h => by
    rw [R] at h ⊢
    obtain ⟨b, xs, rfl, g1, g2⟩ := h
    refine ⟨b, xs, rfl, h3 b (fun e => ?_) _ g1, RA_chg h1 h2 h3 ds xs g2⟩
    subst e
    rcases h1 with h1 | ⟨o, h1⟩ <;> (rw [g1] at h1; cases h1)
  | .tup ds, _, h => by
    rw [R] at h ⊢
    obtain ⟨b, xs, rfl, g1, g2⟩ := h
    exact ⟨b, xs, rfl, g1.imp (Rd_chg h1 h2 h3 fun _ _ e => nomatch e) id, RA_chg h1 h2 h3 ds xs g2⟩
  | .scr ns, _, h => by
    rw [R] at h ⊢
    obtain ⟨b, rfl, g1⟩ := h
    exact ⟨b, rfl, g1.imp (Rd_chg h1 h2 h3 fun _ _ e => nomatch e) id⟩
  | .dic ks vs, _, h => by
    rw [R] at h ⊢
    obtain ⟨b, kvs', rfl, g1, g2, g3⟩ := h
    exact ⟨b, kvs', rfl, Rd_chg h1 h2 h3 (fun _ _ e => nomatch e) g1, g2, RA_chg h1 h2 h3 vs _ g3⟩
theorem RA_chg (h1 : Rd G a (.dK kvs)) (h2 : Rd G2 a (.dK kvs)) (h3 : ∀ b, b ≠ a → ∀ u, G b = some u → G2 b = some u) : ∀ (ds : List D) (xs : List V), RA K G ds xs → RA K G2 ds xs
  | [], _, h => h
  | d :: ds, _, h => by
    rw [RA] at h ⊢
    obtain ⟨v, r, rfl, g1, g2⟩ := h
    exact ⟨v, r, rfl, R_chg h1 h2 h3 d v g1, RA_chg h1 h2 h3 ds r g2⟩
end
theorem RelF_chg (h1 : Rd G a (.dK kvs)) (h2 : Rd G2 a (.dK kvs)) (h3 : ∀ b, b ≠ a → ∀ u, G b = some u → G2 b = some u) {env : Env} {σ : L2.St} (r : RelF K G env σ) : RelF K G2 env σ := ⟨r.1, fun i d h => by
  obtain ⟨v, q1, q2⟩ := r.2 i d h
  exact ⟨v, q1, R_chg h1 h2 h3 _ _ q2⟩⟩
/-! a thing in use, or in use already -/
def tLockO (t : TE) : TE := fun σ H Q => tLockE t σ H Q ∨ t σ H Q
theorem pe_lockO {X : Cx} {e : Expr} {t : TE} (h : PE X e t) : PE X e (tLockO t) := ⟨fun pins s σ H Q I hw => hw.elim ((pe_lock h).run pins s σ H Q I) (h.run pins s σ H Q I)⟩
theorem Now.lock {L : List (Addr × HO)} {H : Hp} {od : Obj} (n : Now G L H) (h : G a = some (.dK kvs)) : Now (upd G a (.frz od (.dK kvs))) L (upd H a (.frz od (.dK kvs))) where
  ex := fun b u e => by
    by_cases z : b = a
    · subst z; rw [upd_same] at e ⊢; exact e
    · rw [upd_ne z] at e ⊢; exact n.ex b u e
  mu := fun p hp => by
    have : p.1 ≠ a := fun e => by have := n.ap p hp; rw [e, h] at this; cases this
    rw [upd_ne this]; exact n.mu p hp
  ap := fun p hp => by
    have : p.1 ≠ a := fun e => by have := n.ap p hp; rw [e, h] at this; cases this
    rw [upd_ne this]; exact n.ap p hp
  nd := n.nd
theorem Now.unlock {L : List (Addr × HO)} {H : Hp} {od : Obj} (n : Now G L H) (h : G a = some (.frz od (.dK kvs))) : Now (upd G a (.dK kvs)) L (upd H a (.dK kvs)) where
  ex := fun b u e => by
    by_cases z : b = a
    · subst z; rw [upd_same] at e ⊢; exact e
    · rw [upd_ne z] at e ⊢; exact n.ex b u e
  mu := fun p hp => by
    have : p.1 ≠ a := fun e => by have := n.ap p hp; rw [e, h] at this; cases this
    rw [upd_ne this]; exact n.mu p hp
  ap := fun p hp => by
    have : p.1 ≠ a := fun e => by have := n.ap p hp; rw [e, h] at this; cases this
    rw [upd_ne this]; exact n.ap p hp
  nd := n.nd
/-- what is new after the use -/
theorem Ex.unlock {G1 : Hp} {od : Obj} (h : G a = some (.dK kvs)) (x : MA.Ex (upd G a (.frz od (.dK kvs))) G1) : MA.Ex G (upd G1 a (.dK kvs)) := fun b u e => by
  by_cases z : b = a
  · subst z; rw [upd_same]; rw [h] at e; exact e
  · rw [upd_ne z]; exact x b u (by rw [upd_ne z]; exact e)
/-- the reading holds when the dict at i is in use -/
def RefPNF (K : PySem.W.Frag) (i : Nat) (te : TE) (pn : Env → Option (List D)) : Prop := ∀ ⦃G : Hp⦄ ⦃L : List (Addr × HO)⦄ ⦃env : Env⦄ ⦃σ : L2.St⦄ ⦃H : Hp⦄ ⦃Q : VK⦄ ⦃ds : List D⦄ ⦃a : Addr⦄ ⦃o : Obj⦄ ⦃kvs : List (Key × V)⦄, pn env = some ds → σ[i]? = some (some (.ref a)) → G a = some (.frz o (.dK kvs)) → RelF K G env σ → Now G L H →
  (∀ p xs G' H', MA.Ex G G' → RA K G' ds xs → Now G' ((p, .lst xs) :: L) H' → Q (.ref p) H') → te σ H Q
theorem rp_lockN {i : Nat} {te : TE} {pn : Env → Option (List D)} (hv : ∀ env ds, pn env = some ds → ∃ ks vs, pget env i = some (.dic ks vs)) (h : RefPNF K i te pn) : RefPN K (tLockO te) pn := by
  intro G L env σ H Q ds e re n q
  obtain ⟨ks, vs, hg⟩ := hv env ds e
  obtain ⟨v, q1, q2⟩ := re.2 i _ hg
  rw [R] at q2
  obtain ⟨a, kvs, rfl, g1, g2, g3⟩ := q2
  rcases g1 with g1 | ⟨o, g1⟩
  · refine .inl ⟨a, .dK kvs, n.ex _ _ g1, trivial, fun od => ?_⟩
    have h3 : ∀ b, b ≠ a → ∀ u, G b = some u → (upd G a (.frz od (.dK kvs))) b = some u := fun b hb u e => by rw [upd_ne hb]; exact e
    refine h e q1 upd_same (RelF_chg (.inl g1) (.inr ⟨od, upd_same⟩) h3 re) (n.lock g1) fun p xs G' H' x ra n' => ?_
    have ga : G' a = some (.frz od (.dK kvs)) := x _ _ upd_same
    refine ⟨n'.ex _ _ ga, ?_⟩
    refine q p xs (upd G' a (.dK kvs)) (upd H' a (.dK kvs)) (Ex.unlock g1 x) (RA_chg (.inr ⟨od, ga⟩) (.inl upd_same) (fun b hb u e => by rw [upd_ne hb]; exact e) _ _ ra) (n'.unlock ga)
  · exact .inr (h e q1 g1 re n q)
end
section
variable {K : PySem.W.Frag} {g : TG} {tt : TT} {te tk tv : TE} {vs : List Nat} {pg : PG'} {pt : Env → Option Bool} {pe pk pv : PP} {wi : TI} {pi : Env → Option (List D)}
/-- a comprehension over what is walked -/
theorem w_lcOk {G1 H1 : Hp} {L : List (Addr × HO)} {env : Env} {σ : L2.St} {items ds : List D} {J : It} {Q : VK} (hg : RefPG K vs g pg) (ht : RefPT K tt pt) (he : RefP K te pe) (re : RelF K G1 env σ) (ok : ItOk K G1 J items) (n1 : Now G1 L H1) (hl : items.length ≤ 100000) (e2 : lcP pg pt pe items (wipeF env vs) = some ds)
    (q : ∀ p xs G' H', MA.Ex G1 G' → RA K G' ds xs → Now G' ((p, .lst xs) :: L) H' → Q (.ref p) H') : lcK J g tt te vs σ Q H1 := by
  obtain ⟨Gp, Y, rfl, hGp, hY⟩ := ok
  refine lc_now n1 (fun i acc G2 L2 => ∃ done rest, L2 = L ∧ MA.Ex G1 G2 ∧ RA K G2 done acc ∧ done.length ≤ i ∧ lcP pg pt pe (items.drop i) (wipeF env vs) = some rest ∧ done ++ rest = ds) ⟨[], ds, rfl, Ex.refl _, RA.nil, Nat.le_refl _, e2, rfl⟩ ?_ ?_ ?_
  · rintro i acc G2 L2 H2 ⟨done, rest, rfl, x2, _⟩ n2
    exact hGp _ _ _ x2 n2
  · rintro Da i x H2 H3 acc G2 L2 hil ⟨done, rest, rfl, x2, ra, hdl, el, ed⟩ n2 y
    have hd : items[i]? = some (items[i]'hil) := List.getElem?_eq_getElem hil
    obtain ⟨G3, x3, rd, n3⟩ := hY i _ _ _ _ _ _ hd x2 n2 y
    rw [List.drop_eq_getElem_cons hil, lcP] at el
    obtain ⟨en, el1, el2⟩ := bind_some el
    obtain ⟨b, el3, el4⟩ := bind_some el2
    refine hg el1 ((re.ex (x2.trans x3)).wipe vs) rd n3 fun σ2 re2 ag => ⟨wipe_agr ag, ?_⟩
    refine ht el3 re2 n3 fun G4 H4 x4 n4 => ?_
    cases b with
    | false => exact ⟨_, _, _, ⟨done, rest, rfl, (x2.trans x3).trans x4, RA_ex (x3.trans x4) _ _ ra, by omega, el4, ed⟩, n4⟩
    | true =>
      obtain ⟨z, el5, el6⟩ := bind_some el4
      obtain ⟨rs, el7, el8⟩ := bind_some el6
      cases el8
      refine he el5 (re2.ex x4) n4 fun w G5 H5 x5 r5 n5 => ?_
      refine LcP.add n5 (by rw [ra.len]; omega) ⟨done ++ [z], rs, rfl, ((x2.trans x3).trans x4).trans x5, (RA_ex ((x3.trans x4).trans x5) _ _ ra).append (RA.cons r5 RA.nil), by rw [List.length_append]; simp; omega, el7, by rw [← ed]; simp⟩
  · rintro Da H2 acc G2 L2 ⟨done, rest, rfl, x2, ra, hdl, el, ed⟩ n2
    rw [List.drop_length, lcP] at el
    cases el
    rw [List.append_nil] at ed
    subst ed
    exact q _ _ _ _ x2 ra n2
theorem key_at {ks : List DK} {kvs : List (Key × V)} {i : Nat} {k : Key} {v : V} (h : kvs.map (·.1) = ks.map dkey) (e : kvs[i]? = some (k, v)) : ∃ k', ks[i]? = some k' ∧ k = dkey k' := by
  have h1 : (kvs.map (·.1))[i]? = some k := by rw [List.getElem?_map, e]; rfl
  rw [h, List.getElem?_map] at h1
  cases h2 : ks[i]? with
  | none => rw [h2] at h1; cases h1
  | some k' => rw [h2] at h1; cases h1; exact ⟨k', rfl, rfl⟩
theorem R_key {G : Hp} (k : DK) : R K G (kD k) (kV (dkey k)) := by
  cases k with
  | inl i => show R K G (.int i) _; rw [R]; rfl
  | inr l => show R K G (.str l) _; rw [R]; rfl
theorem it_keys {G : Hp} {a : Addr} {o : Obj} {ks : List DK} {kvs : List (Key × V)} (hg : G a = some (.frz o (.dK kvs))) (h : kvs.map (·.1) = ks.map dkey) : ItOk K G (Itk a o kvs) (ks.map kD) := by
  have hl : kvs.length = (ks.map kD).length := by have := congrArg List.length h; rw [List.length_map, List.length_map] at this; rw [List.length_map]; exact this
  refine itok (Gp := fun H => H a = some (.frz o (.dK kvs))) (Y := fun i H x H' => H' = H ∧ ∃ k v, kvs[i]? = some (k, v) ∧ x = kV k) hl (fun G' L H e n => n.ex _ _ (e _ _ hg)) fun i d G' L H x H' hd e n ⟨eh, k, v, e1, ex⟩ => ?_
  subst eh; subst ex
  obtain ⟨k', h1, rfl⟩ := key_at h e1
  rw [List.getElem?_map, h1] at hd
  cases hd
  exact ⟨G', Ex.refl _, R_key k', n⟩
theorem it_items {G : Hp} {a : Addr} {o : Obj} {ks : List DK} {ds : List D} {kvs : List (Key × V)} (hg : G a = some (.frz o (.dK kvs))) (h : kvs.map (·.1) = ks.map dkey) (hr : RA K G ds (kvs.map (·.2))) : ItOk K G (Iti a o kvs) ((ks.zip ds).map fun p => D.tup [kD p.1, p.2]) := by
  have hkd : ks.length = ds.length := (KR.of h hr).2
  have hl : kvs.length = ((ks.zip ds).map fun p => D.tup [kD p.1, p.2]).length := by have := congrArg List.length h; rw [List.length_map, List.length_map] at this; rw [List.length_map, List.length_zip]; omega
  refine itok (Gp := fun H => H a = some (.frz o (.dK kvs))) (Y := fun i H x H' => ∃ T k v, kvs[i]? = some (k, v) ∧ x = .ref T ∧ H T = none ∧ H' = upd H T (.tup [kV k, v])) hl (fun G' L H e n => n.ex _ _ (e _ _ hg)) fun i d G' L H x H' hd e n ⟨T, k, v, e1, ex, hT, eh⟩ => ?_
  subst eh; subst ex
  obtain ⟨k', h1, rfl⟩ := key_at h e1
  rw [List.getElem?_map] at hd
  cases h2 : (ks.zip ds)[i]? with
  | none => rw [h2] at hd; cases hd
  | some p =>
    rw [h2] at hd
    cases hd
    have h3 := List.getElem?_zip_eq_some.mp h2
    rw [h1] at h3
    obtain ⟨w, q1, q2⟩ := hr.get h3.2
    rw [List.getElem?_map, e1] at q1
    cases q1
    have : p.1 = k' := by have := h3.1; cases this; rfl
    show ∃ G'', MA.Ex G' G'' ∧ R K G'' (D.tup [kD p.1, p.2]) (.ref T) ∧ Now G'' L (upd H T (.tup [kV (dkey k'), v]))
    rw [this]
    exact tup2 n hT (R_key k') (R_ex e _ _ q2)
def pDKeys (i : Nat) : Env → Option (List D) := fun env => (pget env i).bind fun d => match d with
  | .dic ks _ => some (ks.map kD)
  | _ => none
def pDItems (i : Nat) : Env → Option (List D) := fun env => (pget env i).bind fun d => match d with
  | .dic ks vs => some ((ks.zip vs).map fun p => D.tup [kD p.1, p.2])
  | _ => none
theorem pDKeys_dic {i : Nat} {env : Env} {ds : List D} (h : pDKeys i env = some ds) : ∃ ks vs, pget env i = some (.dic ks vs) ∧ ds = ks.map kD := by
  obtain ⟨d, e1, e2⟩ := bind_some h
  cases d with
  | dic ks vs => cases e2; exact ⟨ks, vs, e1, rfl⟩
  | _ => cases e2
theorem pDItems_dic {i : Nat} {env : Env} {ds : List D} (h : pDItems i env = some ds) : ∃ ks vs, pget env i = some (.dic ks vs) ∧ ds = (ks.zip vs).map fun p => D.tup [kD p.1, p.2] := by
  obtain ⟨d, e1, e2⟩ := bind_some h
  cases d with
  | dic ks vs => cases e2; exact ⟨ks, vs, e1, rfl⟩
  | _ => cases e2
/-- what the dict at i holds, when it is in use -/
theorem dic_at {G : Hp} {env : Env} {σ : L2.St} {i : Nat} {ks : List DK} {ds : List D} {a : Addr} {o : Obj} {kvs : List (Key × V)} (re : RelF K G env σ) (h : pget env i = some (.dic ks ds)) (q1 : σ[i]? = some (some (.ref a))) (g1 : G a = some (.frz o (.dK kvs))) : kvs.map (·.1) = ks.map dkey ∧ RA K G ds (kvs.map (·.2)) := by
  obtain ⟨v, p1, p2⟩ := re.2 i _ h
  rw [q1] at p1
  cases p1
  rw [R] at p2
  obtain ⟨b, kvs', e, g2, g3, g4⟩ := p2
  cases e
  rcases g2 with g2 | ⟨o', g2⟩
  · rw [g1] at g2; cases g2
  · rw [g1] at g2; cases g2; exact ⟨g3, g4⟩
theorem rp_lcK {i : Nat} (hg : RefPG K vs g pg) (ht : RefPT K tt pt) (he : RefP K te pe) : RefPN K (tLockO (tLc (iKeys (tVar i)) g tt te vs)) (pnLc (pDKeys i) pg pt pe vs) := by
  refine rp_lockN (i := i) (fun env ds e => ?_) fun G L env σ H Q ds a o kvs e q1 g1 re n q => ?_
  · obtain ⟨items, e1, _⟩ := bind_some e
    obtain ⟨ks, us, h, _⟩ := pDKeys_dic e1
    exact ⟨ks, us, h⟩
  · obtain ⟨items, e1, e2⟩ := bind_some e
    split at e2
    case isFalse => cases e2
    rename_i hl
    obtain ⟨ks, us, h, rfl⟩ := pDKeys_dic e1
    have hk := dic_at re h q1 g1
    exact w_lc ⟨_, q1, a, o, rfl, .inl ⟨kvs, n.ex _ _ g1, w_lcOk hg ht he re (it_keys g1 hk.1) n hl e2 q⟩⟩
theorem rp_lcI {i : Nat} (hg : RefPG K vs g pg) (ht : RefPT K tt pt) (he : RefP K te pe) : RefPN K (tLockO (tLc (iItems (tVar i)) g tt te vs)) (pnLc (pDItems i) pg pt pe vs) := by
  refine rp_lockN (i := i) (fun env ds e => ?_) fun G L env σ H Q ds a o kvs e q1 g1 re n q => ?_
  · obtain ⟨items, e1, _⟩ := bind_some e
    obtain ⟨ks, us, h, _⟩ := pDItems_dic e1
    exact ⟨ks, us, h⟩
  · obtain ⟨items, e1, e2⟩ := bind_some e
    split at e2
    case isFalse => cases e2
    rename_i hl
    obtain ⟨ks, us, h, rfl⟩ := pDItems_dic e1
    have hk := dic_at re h q1 g1
    exact w_lc ⟨_, q1, a, o, kvs, rfl, n.ex _ _ g1, w_lcOk hg ht he re (it_items g1 hk.1 hk.2) n hl e2 q⟩
/-! {k: v for .. in .. if ..} -/
def dcP (pg : PG') (pt : Env → Option Bool) (pk pv : PP) : List D → List (DK × D) → Env → Option (List (DK × D))
  | [], acc, _ => some acc
  | d :: r, acc, env => (pg d env).bind fun en => (pt en).bind fun b => if b then (pk en).bind fun k => (pv en).bind fun z => (dkOf k).bind fun k => dcP pg pt pk pv r (putD acc k z) env else dcP pg pt pk pv r acc env
def pDc (pi : Env → Option (List D)) (pg : PG') (pt : Env → Option Bool) (pk pv : PP) (vs : List Nat) : PP := fun env => (pi env).bind fun items => if items.length ≤ 100000 then (dcP pg pt pk pv items [] (wipeF env vs)).bind fun l => some (.dic (l.map (·.1)) (l.map (·.2))) else none
def dcK (J : It) (g : TG) (tt : TT) (tk tv : TE) (vs : List Nat) (σ : L2.St) (Q : VK) (H : Hp) : Prop := ∀ D, H D = none → ∃ W : Nat → Nat → Hp → Prop, (∃ m, W 0 m (upd H D (.dK []))) ∧ ∀ i m H, W i m H →
  (J.stop i H ∧ Q (.ref D) H) ∨ (J.go i H ∧ ∃ Nx : Hp → Prop, (∀ H', Nx H' → ∃ m', m' < m ∧ W (i + 1) m' H') ∧ ∀ x H', J.yld i H x H' → g x (wipe σ vs) H' fun σ2 H2 => wipe σ2 vs = wipe σ vs ∧ tt σ2 H2 fun b H3 =>
    if b = true then tk σ2 H3 fun y H4 => tv σ2 H4 fun z H5 => ∃ kvs k, y = kV k ∧ H5 D = some (.dK kvs) ∧ kvs.length < sizeLine ∧ Nx (upd H5 D (.dK (putK kvs k z))) else Nx H3)
theorem w_dc {σ : L2.St} {H : Hp} {Q : VK} (h : wi σ H fun J H1 => dcK J g tt tk tv vs σ Q H1) : tDc wi g tt tk tv vs σ H Q := h
abbrev LD := Nat → List (Key × V) → Hp → List (Addr × HO) → Prop
def DcP (P : LD) (D : Addr) (i : Nat) (H : Hp) : Prop := ∃ acc G L, P i acc G L ∧ Now G ((D, .dK acc) :: L) H
theorem dc_now {Gp : Hp → Prop} {m : Nat} {Y : Nat → Hp → V → Hp → Prop} {σ : L2.St} {G H : Hp} {L : List (Addr × HO)} {Q : VK} (n : Now G L H) (P : LD) (p0 : P 0 [] G L)
    (hG : ∀ i acc G L H, P i acc G L → Now G L H → Gp H)
    (hs : ∀ D i x H H' acc G L, i < m → P i acc G L → Now G ((D, .dK acc) :: L) H → Y i H x H' → g x (wipe σ vs) H' fun σ2 H2 => wipe σ2 vs = wipe σ vs ∧ tt σ2 H2 fun b H3 =>
      if b = true then tk σ2 H3 fun y H4 => tv σ2 H4 fun z H5 => ∃ kvs k, y = kV k ∧ H5 D = some (.dK kvs) ∧ kvs.length < sizeLine ∧ DcP P D (i + 1) (upd H5 D (.dK (putK kvs k z))) else DcP P D (i + 1) H3)
    (hd : ∀ D H acc G L, P m acc G L → Now G ((D, .dK acc) :: L) H → Q (.ref D) H) :
    dcK (Itg Gp m Y) g tt tk tv vs σ Q H := fun D hD => by
  refine ⟨fun i k H => k = m - i ∧ i ≤ m ∧ DcP P D i H, ⟨m, by simp, Nat.zero_le _, ⟨[], G, L, p0, n.newL hD⟩⟩, ?_⟩
  rintro i k H ⟨rfl, hi, acc, G1, L1, p, n1⟩
  by_cases hlt : i < m
  · exact .inr ⟨⟨hG i acc G1 L1 H p n1.drop, hlt⟩, DcP P D (i + 1), fun H' p' => ⟨m - (i + 1), by omega, rfl, hlt, p'⟩, fun x H' y => hs D i x H H' acc G1 L1 hlt p n1 y⟩
  · have e : i = m := by omega
    subst e
    exact .inl ⟨⟨hG i acc G1 L1 H p n1.drop, Nat.le_refl _⟩, hd D H acc G1 L1 p n1⟩
theorem putK_len (kvs : List (Key × V)) (k : Key) (v : V) : (putK kvs k v).length ≤ kvs.length + 1 := length_putK kvs k v
theorem w_dcOk {G1 H1 : Hp} {L : List (Addr × HO)} {env : Env} {σ : L2.St} {items : List D} {l : List (DK × D)} {J : It} {Q : VK} (hg : RefPG K vs g pg) (ht : RefPT K tt pt) (hk : RefP K tk pk) (hv : RefP K tv pv) (re : RelF K G1 env σ) (ok : ItOk K G1 J items) (n1 : Now G1 L H1) (hl : items.length ≤ 100000) (e2 : dcP pg pt pk pv items [] (wipeF env vs) = some l)
    (q : ∀ p kvs G' H', MA.Ex G1 G' → KR K G' l kvs → Now G' ((p, .dK kvs) :: L) H' → Q (.ref p) H') : dcK J g tt tk tv vs σ Q H1 := by
  obtain ⟨Gp, Y, rfl, hGp, hY⟩ := ok
  refine dc_now n1 (fun i acc G2 L2 => ∃ done, L2 = L ∧ MA.Ex G1 G2 ∧ KR K G2 done acc ∧ acc.length ≤ i ∧ dcP pg pt pk pv (items.drop i) done (wipeF env vs) = some l) ⟨[], rfl, Ex.refl _, KR.nil, Nat.le_refl _, e2⟩ ?_ ?_ ?_
  · rintro i acc G2 L2 H2 ⟨done, rfl, x2, _⟩ n2
    exact hGp _ _ _ x2 n2
  · rintro Da i x H2 H3 acc G2 L2 hil ⟨done, rfl, x2, kr, hdl, el⟩ n2 y
    have hd : items[i]? = some (items[i]'hil) := List.getElem?_eq_getElem hil
    obtain ⟨G3, x3, rd, n3⟩ := hY i _ _ _ _ _ _ hd x2 n2 y
    rw [List.drop_eq_getElem_cons hil, dcP] at el
    obtain ⟨en, el1, el2⟩ := bind_some el
    obtain ⟨b, el3, el4⟩ := bind_some el2
    refine hg el1 ((re.ex (x2.trans x3)).wipe vs) rd n3 fun σ2 re2 ag => ⟨wipe_agr ag, ?_⟩
    refine ht el3 re2 n3 fun G4 H4 x4 n4 => ?_
    have krx : ∀ {Ga Gb : Hp}, MA.Ex Ga Gb → KR K Ga done acc → KR K Gb done acc := fun x h => ⟨h.1, RA_ex x _ _ h.2⟩
    cases b with
    | false => exact ⟨_, _, _, ⟨done, rfl, (x2.trans x3).trans x4, krx (x3.trans x4) kr, by omega, el4⟩, n4⟩
    | true =>
      obtain ⟨k, el5, el6⟩ := bind_some el4
      obtain ⟨z, el7, el8⟩ := bind_some el6
      obtain ⟨k', el9, el10⟩ := bind_some el8
      refine hk el5 (re2.ex x4) n4 fun w G5 H5 x5 r5 n5 => ?_
      refine hv el7 (re2.ex (x4.trans x5)) n5 fun u G6 H6 x6 r6 n6 => ?_
      have hkw := dk_of el9 r5
      refine ⟨acc, dkey k', hkw, n6.get0, Nat.lt_of_le_of_lt hdl (Nat.lt_of_lt_of_le hil (Nat.le_trans hl (by decide))), putK acc (dkey k') u, G6, _, ⟨putD done k' z, rfl, (((x2.trans x3).trans x4).trans x5).trans x6, (krx (((x3.trans x4).trans x5).trans x6) kr).put r6, ?_, el10⟩, n6.set0⟩
      have := putK_len acc (dkey k') u
      omega
  · rintro Da H2 acc G2 L2 ⟨done, rfl, x2, kr, hdl, el⟩ n2
    rw [List.drop_length, dcP] at el
    cases el
    exact q _ _ _ _ x2 kr n2
theorem rp_dc (hi : RefPI K wi pi) (hg : RefPG K vs g pg) (ht : RefPT K tt pt) (hk : RefP K tk pk) (hv : RefP K tv pv) : RefP K (tDc wi g tt tk tv vs) (pDc pi pg pt pk pv vs) := by
  intro G L env σ H Q d e re n q
  obtain ⟨items, e1, e2⟩ := bind_some e
  split at e2
  case isFalse => cases e2
  rename_i hl
  obtain ⟨l, e3, e4⟩ := bind_some e2
  cases e4
  refine w_dc (hi e1 re n fun J G1 H1 x1 ok n1 => ?_)
  refine w_dcOk hg ht hk hv (re.ex x1) ok n1 hl e3 fun p kvs G' H' x kr n' => ?_
  refine q _ _ _ ((x1.trans x).trans n'.exf) ?_ n'.freeze
  rw [R]
  have h2 := kr.two
  exact ⟨p, kvs, rfl, .inl upd_same, h2.1, RA_ex n'.exf _ _ h2.2⟩
theorem k_dc {env : Env} {P : D → Prop} {l : List D} (h : pi env = some l) (hl : l.length ≤ 100000) (q : OkP (dcP pg pt pk pv l [] (wipeF env vs)) fun l => P (.dic (l.map (·.1)) (l.map (·.2)))) : OkP (pDc pi pg pt pk pv vs env) P := by
  obtain ⟨z, h1, h2⟩ := q
  refine ⟨_, ?_, h2⟩
  unfold pDc
  rw [h]
  show (if l.length ≤ 100000 then _ else _) = _
  rw [if_pos hl, h1]
  rfl
end
end MA
/-! ZB: sorted('01-') (not in the layer's list: a law that needs it imports it). -/
namespace MA
open PySem PySem.Spec PyProof.Rows L2 SX
section
variable {prog : Program} {w : World} {A : Around} {E : Value → Shared → Prop} {s : Shared}
theorem strs_signs {x : Str} {acc : Array Value} (hacc : ItemsOf (SignAt x) acc x.cps.size) : StrsAre acc.toList (x.cps.toList.map fun c => (⟨#[c]⟩ : Str)) := by
  have gen : ∀ (l : List Nat) (us : List Value), us.length = l.length → (∀ (j : Nat) (u : Value), us[j]? = some u → ∃ c, l[j]? = some c ∧ ∃ t, u = .str ⟨#[c]⟩ t) → StrsAre us (l.map fun c => (⟨#[c]⟩ : Str)) := by
    intro l
    induction l with
    | nil => intro us e _; cases us with | nil => exact .nil | cons a b => simp at e
    | cons a l ih =>
      intro us e hu
      cases us with
      | nil => simp at e
      | cons u us =>
        obtain ⟨c, hc, t, rfl⟩ := hu 0 u rfl
        have ec : a = c := Option.some.inj hc
        subst ec
        exact .cons _ t (ih us (by simpa using e) fun j u h => hu (j + 1) u (by simpa using h))
  refine gen _ _ (by simpa using hacc.1) fun j u hu => ?_
  obtain ⟨c, t', hc, rfl⟩ := hacc.2 j u (by simpa using hu)
  exact ⟨c, by simpa using hc, t', rfl⟩
theorem sorted_text {x : Str} {t : Tok} {Q : Value → Shared → Prop} (hh : A.handled = none) (hn : x.cps.size < 64)
    (hQ : ∀ (s1 : Shared) (h' : Heap) (out : Array Value) (c : Nat) (ss : List Str), (∀ b o, s.heap.get? b = some o → s1.heap.get? b = some o) → s1.gens = s.gens → s1.drawn = s.drawn → s1.os = s.os → (∀ b o, s1.heap.get? b = some o → h'.get? b = some o) →
      h'.get? s1.heap.objs.size = some (seqObj "list" out c) → StrsAre out.toList ss → ss.Perm (x.cps.toList.map fun c => (⟨#[c]⟩ : Str)) → sortedS ss = true → Q (.ref s1.heap.objs.size) { s1 with heap := h' }) :
    wpAny (model prog w) A (call (.builtin "sorted") [.str x t]) Q E s := by
  refine Calls.call_function_entry kind_sorted plain_sorted entry_sorted (args_sorted1 _) ?_
  unfold Builtin.«sorted»
  refine wpAny_bind (m := checkCount "sorted" 1 1 _) (wpAny_pure ?_)
  refine wpAny_bind (wpAny_collect_str (A := A.in1) hh x t (fun s1 acc k1 g1 d1 o1 hi => ?_) (by rw [sizeLine_eq]; omega))
  have hS := strs_signs hi
  have h64 : acc.toList.length < 64 := by have := hi.1; rw [Array.length_toList]; omega
  refine wpAny_bind (wpAny_newList ?_ (by rw [sizeLine_eq]; omega))
  have hoL : (s1.heap.push (seqObj "list" acc.toList.toArray 0)).get? s1.heap.objs.size = some (seqObj "list" acc.toList.toArray 0) := Heap.get?_push_size _ rfl
  refine wpAny_bind (wpAny_holding (wpAny_call_entry slot_list_sort ⟨_, hoL, rfl⟩ entry_list_sort (list_sort_treeK strKind_oneLt hoL hS.keysOf (fun v₁ v₂ rest e => keyKind_strs (by rw [← e]; exact hS)) h64 fun st' a1 a2 => ⟨_, rfl, ?_⟩) (args_list_sort _)))
  obtain ⟨ss', h1, h2, h3⟩ := sorted_out_str hS a1 a2
  obtain ⟨c, hc⟩ := sortedHeap_at (vs := acc.toList) (out := (arrOf st').map (·.2)) hoL
  refine wpAny_pure ⟨_, rfl, hQ s1 _ _ c ss' k1 g1 d1 o1 (fun b u e => ?_) hc h1 h2 h3⟩
  have hlt := Heap.lt_size e
  show (sortedHeap (s1.heap.push (seqObj "list" acc.toList.toArray 0)) s1.heap.objs.size acc.toList _).get? b = some u
  rw [sortedHeap_old (Nat.ne_of_lt hlt) (by rw [size_push']; exact Nat.lt_succ_of_lt hlt)]
  exact Heap.get?_push_of_some _ e
end
def rSortTx : List V → Hp → VK → Prop := fun xs H Q => ∃ z : Str, xs = [.str z] ∧ z.cps.size < 64 ∧ ∀ (ys : List Str) (p : Addr), ys.Perm (z.cps.toList.map fun c => (⟨#[c]⟩ : Str)) → sortedS ys = true → H p = none → Q (.ref p) (upd H p (.lst (ys.map V.str)))
theorem cr_sortTx {X : Cx} (hc : X.calm = true) : CallR X (.builtin "sorted") rSortTx := by
  intro pins s σ H xs us Q I r h
  obtain ⟨z, rfl, hz, q⟩ := h
  cases r with
  | cons r1 rr =>
    cases rr
    obtain ⟨t, rfl⟩ := r1
    refine sorted_text (I.ok.hd hc) hz fun s1 h' out c ss k1 g1 d1 o1 k2 hg hS hp hs => ?_
    have e1 : s1 = { s with heap := s1.heap, toks := s1.toks } := by
      cases s1
      cases s
      cases g1
      cases d1
      cases o1
      rfl
    have I1 : Inv X pins σ H { s with heap := s1.heap, toks := s1.toks } := I.kept (t' := s1.toks) k1
    have hlen : (ss.map V.str).length ≤ sizeLine := by
      have h1 := hp.length_eq
      have h2 : z.cps.toList.length = z.cps.size := by simp
      rw [List.length_map, h2] at h1
      rw [List.length_map, sizeLine_eq]
      omega
    have I2 : Inv X pins σ (upd H s1.heap.objs.size (.lst (ss.map V.str))) { s with heap := h', toks := s1.toks } :=
      I1.laid (t' := s1.toks) k2 (Nat.le_refl _) (show ObjOk X.prog X.w _ _ _ (.lst (ss.map V.str)) from ⟨hlen, out.toList, c, vals_of_strs hS, by rw [Array.toArray_toList]; exact hg⟩)
    have e2 : ({ s1 with heap := h' } : Shared) = { s with heap := h', toks := s1.toks } := by rw [e1]
    rw [e2]
    exact ⟨.ref s1.heap.objs.size, _, I2, rfl, q ss _ hp hs (I1.hok.fresh (Nat.le_refl _))⟩
def onSortTx : List D → Option (List D)
  | [.str l] => if l = [48, 49, 45] then some [.str [45], .str [48], .str [49]] else none
  | _ => none
theorem perm_01 {ys : List Str} (h : ys.Perm [⟨#[48]⟩, ⟨#[49]⟩, ⟨#[45]⟩]) (hs : sortedS ys = true) : ys = [⟨#[45]⟩, ⟨#[48]⟩, ⟨#[49]⟩] := by
  have hl := h.length_eq
  have nd : ys.Nodup := h.nodup_iff.mpr (by decide)
  have hm : ∀ y ∈ ys, y = ⟨#[48]⟩ ∨ y = ⟨#[49]⟩ ∨ y = ⟨#[45]⟩ := fun y hy => by
    have := h.mem_iff.mp hy
    simpa using this
  match ys, hl with
  | [a, b, c], _ =>
    have ha := hm a (by simp)
    have hb := hm b (by simp)
    have hc := hm c (by simp)
    rcases ha with rfl | rfl | rfl <;> rcases hb with rfl | rfl | rfl <;> rcases hc with rfl | rfl | rfl <;> first | rfl | (exfalso; revert nd; decide) | (exfalso; revert hs; decide)
theorem ro_sortTx {K : PySem.W.Frag} : RefOLN K rSortTx onSortTx := by
  intro G L H Q ds z xs h hd n q
  unfold onSortTx at h
  split at h
  · split at h
    · rename_i hl
      subst hl
      obtain ⟨v, rfl, r⟩ := RA1 hd
      rw [R] at r; subst r
      cases h
      refine ⟨_, rfl, by decide, fun ys p hp hs hn => ?_⟩
      rw [perm_01 hp hs]
      refine q p _ G _ (Ex.refl _) ?_ (n.newL hn)
      exact RA.cons (by rw [R]) (RA.cons (by rw [R]) (RA.cons (by rw [R]) RA.nil))
    · cases h
  · cases h
theorem o_sortTx {PA : List D → Prop} (q : PA [.str [45], .str [48], .str [49]]) : OkP (onSortTx [.str [48, 49, 45]]) PA := ⟨_, rfl, q⟩
end MA
/-! ZC: comprehensions of two clauses (not in the layer's list: a law that needs it imports it). -/
namespace MA
open PySem PySem.Spec PyProof.Rows L2 SX
def lcP2 (pg : PG') (pt : Env → Option Bool) (pi1 : Env → Option (List D)) (pg1 : PG') (pt1 : Env → Option Bool) (pe : PP) (vs1 : List Nat) : List D → Env → Option (List D)
  | [], _ => some []
  | x :: xs, env => (pg x env).bind fun e => (pt e).bind fun b => if b then (pi1 e).bind fun items => if items.length ≤ 100 then (lcP pg1 pt1 pe items (wipeF e vs1)).bind fun r1 => (lcP2 pg pt pi1 pg1 pt1 pe vs1 xs env).bind fun r => some (r1 ++ r) else none else lcP2 pg pt pi1 pg1 pt1 pe vs1 xs env
def pnLc2 (pi : Env → Option (List D)) (pg : PG') (pt : Env → Option Bool) (pi1 : Env → Option (List D)) (pg1 : PG') (pt1 : Env → Option Bool) (pe : PP) (vs vs1 : List Nat) : Env → Option (List D) := fun env => (pi env).bind fun items => if items.length ≤ 1000 then lcP2 pg pt pi1 pg1 pt1 pe vs1 items (wipeF env vs) else none
theorem in_g {G : Hp → Prop} {n : Nat} {Y : Nat → Hp → V → Hp → Prop} {Nx : Hp → Prop} {H0 : Hp} {Body : V → Hp → (Hp → Prop) → Prop} (Pv : Nat → Hp → Prop) (h0 : Pv 0 H0) (hG : ∀ i H, Pv i H → G H)
    (hs : ∀ j x H H', j < n → Pv j H → Y j H x H' → Body x H' (Pv (j + 1))) (hd : ∀ H, Pv n H → Nx H) :
    ∃ W1 : Nat → Nat → Hp → Prop, (∃ m, W1 0 m H0) ∧ ∀ j k H, W1 j k H → ((Itg G n Y).stop j H ∧ Nx H) ∨ ((Itg G n Y).go j H ∧ ∃ Nx1 : Hp → Prop, (∀ H', Nx1 H' → ∃ k', k' < k ∧ W1 (j + 1) k' H') ∧ ∀ x H', (Itg G n Y).yld j H x H' → Body x H' Nx1) := by
  refine ⟨fun j k H => k = n - j ∧ j ≤ n ∧ Pv j H, ⟨n, by simp, Nat.zero_le _, h0⟩, ?_⟩
  rintro j k H ⟨rfl, hj, p⟩
  by_cases hlt : j < n
  · exact .inr ⟨⟨hG j H p, hlt⟩, Pv (j + 1), fun H' p' => ⟨n - (j + 1), by omega, rfl, hlt, p'⟩, fun x H' y => hs j x H H' hlt p y⟩
  · have e : j = n := by omega
    subst e
    exact .inl ⟨⟨hG j H p, Nat.le_refl _⟩, hd H p⟩
theorem rp_lc2 {K : PySem.W.Frag} {wi wi1 : TI} {g g1 : TG} {tt tt1 : TT} {te : TE} {vs vs1 : List Nat} {pi pi1 : Env → Option (List D)} {pg pg1 : PG'} {pt pt1 : Env → Option Bool} {pe : PP}
    (hi : RefPI K wi pi) (hg : RefPG K vs g pg) (ht : RefPT K tt pt) (hi1 : RefPI K wi1 pi1) (hg1 : RefPG K vs1 g1 pg1) (ht1 : RefPT K tt1 pt1) (he : RefP K te pe) : RefPN K (tLc2 wi g tt wi1 g1 tt1 te vs vs1) (pnLc2 pi pg pt pi1 pg1 pt1 pe vs vs1) := by
  intro G L env σ H Q ds e re n q
  obtain ⟨items, e1, e2⟩ := bind_some e
  split at e2
  case isFalse => cases e2
  rename_i hl
  refine (hi e1 re n fun J G1 H1 x1 ok n1 => ?_)
  obtain ⟨Gp, Y, rfl, hGp, hY⟩ := ok
  intro Da hDa
  refine in_g (Body := fun x H' N => g x (wipe σ vs) H' fun σ2 H2 => wipe σ2 vs = wipe σ vs ∧ tt σ2 H2 fun b H3 =>
    if b = true then wi1 σ2 H3 fun J1 H4 => ∃ W1 : Nat → Nat → Hp → Prop, (∃ m, W1 0 m H4) ∧ ∀ j k H, W1 j k H →
      (J1.stop j H ∧ N H) ∨ (J1.go j H ∧ ∃ Nx1 : Hp → Prop, (∀ H', Nx1 H' → ∃ k', k' < k ∧ W1 (j + 1) k' H') ∧ ∀ x H', J1.yld j H x H' → g1 x (wipe σ2 vs1) H' fun σ3 H5 => wipe σ3 vs1 = wipe σ2 vs1 ∧ tt1 σ3 H5 fun b H6 =>
        if b = true then te σ3 H6 fun y H7 => ∃ acc, H7 Da = some (.lst acc) ∧ acc.length < sizeLine ∧ Nx1 (upd H7 Da (.lst (acc ++ [y]))) else Nx1 H6)
    else N H3) (fun i H => ∃ acc G2 done rest, Now G2 ((Da, .lst acc) :: L) H ∧ MA.Ex G1 G2 ∧ RA K G2 done acc ∧ done.length ≤ i * 100 ∧ lcP2 pg pt pi1 pg1 pt1 pe vs1 (items.drop i) (wipeF env vs) = some rest ∧ done ++ rest = ds) ⟨[], G1, [], ds, n1.newL hDa, Ex.refl _, RA.nil, Nat.zero_le _, e2, rfl⟩ ?_ ?_ ?_
  · rintro i H2 ⟨acc, G2, done, rest, n2, x2, _⟩
    exact hGp _ _ _ x2 n2
  · rintro i x H2 H3 hil ⟨acc, G2, done, rest, n2, x2, ra, hdl, el, ed⟩ y
    have hd : items[i]? = some (items[i]'hil) := List.getElem?_eq_getElem hil
    obtain ⟨G3, x3, rd, n3⟩ := hY i _ _ _ _ _ _ hd x2 n2 y
    rw [List.drop_eq_getElem_cons hil, lcP2] at el
    obtain ⟨en, el1, el2⟩ := bind_some el
    obtain ⟨b, el3, el4⟩ := bind_some el2
    refine hg el1 ((re.ex ((x1.trans x2).trans x3)).wipe vs) rd n3 fun σ2 re2 ag => ⟨wipe_agr ag, ?_⟩
    refine ht el3 re2 n3 fun G4 H4 x4 n4 => ?_
    cases b with
    | false => exact ⟨acc, G4, done, rest, n4, (x2.trans x3).trans x4, RA_ex (x3.trans x4) _ _ ra, by omega, el4, ed⟩
    | true =>
      obtain ⟨items1, el5, el6⟩ := bind_some el4
      split at el6
      case isFalse => cases el6
      rename_i hl1
      obtain ⟨r1, el7, el8⟩ := bind_some el6
      obtain ⟨r, el9, el10⟩ := bind_some el8
      cases el10
      refine hi1 el5 (re2.ex x4) n4 fun J1 G5 H5 x5 ok1 n5 => ?_
      obtain ⟨Gp1, Y1, rfl, hGp1, hY1⟩ := ok1
      refine in_g (Body := fun x H' N1 => g1 x (wipe σ2 vs1) H' fun σ3 H5 => wipe σ3 vs1 = wipe σ2 vs1 ∧ tt1 σ3 H5 fun b H6 =>
        if b = true then te σ3 H6 fun y H7 => ∃ acc, H7 Da = some (.lst acc) ∧ acc.length < sizeLine ∧ N1 (upd H7 Da (.lst (acc ++ [y]))) else N1 H6) (fun j H => ∃ acc G6 done1 rest1, Now G6 ((Da, .lst acc) :: L) H ∧ MA.Ex G5 G6 ∧ RA K G6 (done ++ done1) acc ∧ done1.length ≤ j ∧ lcP pg1 pt1 pe (items1.drop j) (wipeF en vs1) = some rest1 ∧ done1 ++ rest1 = r1) ⟨acc, G5, [], r1, n5, Ex.refl _, by rw [List.append_nil]; exact RA_ex ((x3.trans x4).trans x5) _ _ ra, Nat.zero_le _, el7, rfl⟩ ?_ ?_ ?_
      · rintro j H6 ⟨acc, G6, done1, rest1, n6, x6, _⟩
        exact hGp1 _ _ _ x6 n6
      · rintro j x H6 H7 hjl ⟨acc, G6, done1, rest1, n6, x6, ra6, hdl6, ek, ed6⟩ y
        have hd1 : items1[j]? = some (items1[j]'hjl) := List.getElem?_eq_getElem hjl
        obtain ⟨G7, x7, rd7, n7⟩ := hY1 j _ _ _ _ _ _ hd1 x6 n6 y
        rw [List.drop_eq_getElem_cons hjl, lcP] at ek
        obtain ⟨en1, ek1, ek2⟩ := bind_some ek
        obtain ⟨b1, ek3, ek4⟩ := bind_some ek2
        refine hg1 ek1 ((re2.ex (((x4.trans x5).trans x6).trans x7)).wipe vs1) rd7 n7 fun σ3 re3 ag1 => ⟨wipe_agr ag1, ?_⟩
        refine ht1 ek3 re3 n7 fun G8 H8 x8 n8 => ?_
        cases b1 with
        | false => exact ⟨acc, G8, done1, rest1, n8, (x6.trans x7).trans x8, RA_ex (x7.trans x8) _ _ ra6, by omega, ek4, ed6⟩
        | true =>
          obtain ⟨z, ek5, ek6⟩ := bind_some ek4
          obtain ⟨rs, ek7, ek8⟩ := bind_some ek6
          cases ek8
          refine he ek5 (re3.ex x8) n8 fun w G9 H9 x9 r9 n9 => ?_
          have hal : acc.length < 100000 := by
            have := ra6.len
            rw [List.length_append] at this
            omega
          refine ⟨acc, n9.get0, Nat.lt_of_lt_of_le hal (by decide), acc ++ [w], G9, done1 ++ [z], rs, n9.set0, ((x6.trans x7).trans x8).trans x9, ?_, by rw [List.length_append]; simp; omega, ek7, by rw [← ed6]; simp⟩
          rw [← List.append_assoc]
          exact (RA_ex ((x7.trans x8).trans x9) _ _ ra6).append (RA.cons r9 RA.nil)
      · rintro H6 ⟨acc, G6, done1, rest1, n6, x6, ra6, hdl6, ek, ed6⟩
        rw [List.drop_length, lcP] at ek
        cases ek
        rw [List.append_nil] at ed6
        subst ed6
        exact ⟨acc, G6, done ++ done1, r, n6, (((x2.trans x3).trans x4).trans x5).trans x6, ra6, by rw [List.length_append]; omega, el9, by rw [← ed]; simp⟩
  · rintro H2 ⟨acc, G2, done, rest, n2, x2, ra, hdl, el, ed⟩
    rw [List.drop_length, lcP2] at el
    cases el
    rw [List.append_nil] at ed
    subst ed
    exact q _ _ _ _ (x1.trans x2) ra n2
end MA
namespace MA
open PySem PySem.Spec PyProof.Rows L2 SX
/- sheet(lane): 0 lane, 1 found, 2 size, 3 sign -/
def bd_sheet : PS' := (sSeq (sAsg (eL (pTup (pCons (pC (.int 1)) (pCons (pC (.int 1)) pNil)))) (gT 2 (gsCons (tN 1) (gsCons (tN 2) gsNil))))
  (sSeq (sFor (eLI (pRevS (pVar 0))) (tN 3) (sSeq (sIf (eT (pTest (pOp oEq (pVar 3) (pC (.str [49]))))) (sAug 1 (eL (pVar 2)) oShl) (sIf (eT (pTest (pOp oEq (pVar 3) (pC (.str [45]))))) (sAug 1 (eL (pOp oShl (pVar 1) (pVar 2))) oOr) sNext))
  (sAug 2 (eL (pC (.int 2))) oIMul)))
  (sRet (eL (pVar 1)))))
def f_sheet : List D → Option D := fn0 1 4 bd_sheet
/- sheet_of(numbers): 0 numbers, 1 found, 2 number -/
def bd_sheet_of : PS' := (sSeq (sAsg (eL (pC (.int 0))) (tN 1))
  (sSeq (sFor (eLI (pSeq (pVar 0))) (tN 2) (sAug 1 (eL (pOp oShl (pC (.int 1)) (pVar 2))) oOr))
  (sRet (eL (pVar 1)))))
def f_sheet_of : List D → Option D := fn0 1 3 bd_sheet_of
/- all_lanes(width): 0 width, 1 found, 2 place, 3 lane, 4 sign -/
def bd_all_lanes : PS' := (sSeq (sAsg (eL (pFz (pnLst (pCons (pC (.str [])) pNil)))) (tN 1))
  (sSeq (sFor (eLI (pRng (pCons (pVar 0) pNil))) (tN 2) (sAsg (eL (pFz (pnLc2 (pSeq (pVar 1)) (gN 3) pYes (pSeq (pFz (pnCB onSortTx (pCons (pC (.str [48, 49, 45])) pNil)))) (gN 4) pYes (pOp oAdd (pVar 3) (pVar 4)) [3, 4] [4]))) (tN 1)))
  (sRet (eL (pVar 1)))))
def f_all_lanes : List D → Option D := fn0 1 5 bd_all_lanes
/- wider(lane): 0 lane, 1 place, 2 sign -/
def bd_wider : PS' := (sRetN (eN (pnLc (pEnum (pCons (pVar 0) pNil)) (gT 2 (gsCons (gN 1) (gsCons (gN 2) gsNil))) (pTest (pOp oNe (pVar 2) (pC (.str [45])))) (pOp oAdd (pOp oAdd (pSl oSl (pVar 0) pNoPart (pPart (pVar 1))) (pC (.str [45]))) (pSl oSl (pVar 0) (pPart (pOp oAdd (pVar 1) (pC (.int 1)))) pNoPart)) [1, 2])))
def f_wider : List D → Option (List D) := fn0N 1 3 bd_wider
/- widest(width, numbers): 0 width, 1 numbers, 2 wanted, 3 some, 4 lane, 5 other -/
def bd_widest : PS' := (sSeq (sAsg (eL (pCall f_sheet_of (pCons (pVar 1) pNil))) (tN 2))
  (sSeq (sAsg (eL (pDc (pSeq (pCall f_all_lanes (pCons (pVar 0) pNil))) (gN 4) (pTest (pOp oEq (pOp oOr (pCall f_sheet (pCons (pVar 4) pNil)) (pVar 2)) (pVar 2))) (pVar 4) (pC (.bl true)) [4])) (tN 3))
  (sRetN (eN (pnLc (pDKeys 3) (gN 4) (pNot (pTru (pCB oAny (pCons (pFz (pnLc (pSeq (pFz (pnCall f_wider (pCons (pVar 4) pNil)))) (gN 5) pYes (pDIn (pVar 5) (pVar 3)) [5])) pNil)))) (pVar 4) [4])))))
def f_widest : List D → Option (List D) := fn0N 2 6 bd_widest
/- _law_box(_law_cells_here, _law_k): 0 _law_cells_here, 1 _law_k, 2 _law_cell -/
def bd_box : PS' := (sSeq (sAsg (eL (pOp oIx (pVar 0) (pVar 1))) (tN 2))
  (sRetN (eN (pnLst (pCons (pOp oMul (pCB oAbs (pCons (pVar 2) pNil)) (pCB oInt (pCons (pOp oGe (pCB oAbs (pCons (pVar 2) pNil)) (pOp oPow (pC (.int 10)) (pC (.int 18)))) pNil))) (pCons (pOp oAdd (pOp oAdd (pOp oMod (pVar 2) (pC (.int 2305843009213693951))) (pOp oMul (pC (.int 15485863)) (pVar 1))) (pC (.int 11))) (pCons (pC (.int 0)) pNil)))))))
def f_box : List D → Option (List D) := fn0N 2 3 bd_box
/- _law_take(_law_box_here, _law_amount): 0 _law_box_here, 1 _law_amount, 2 _law_found, 3 _law_mixed -/
def bd_take : PS' := (sSeq (sIf (eT (pTest (pOp oGt (pOp oIx (pVar 0) (pC (.int 0))) (pC (.int 0))))) (sSeq (sAsg (eP (pOp oMod (pOp oIx (pVar 0) (pC (.int 0))) (pVar 1))) (tN 2))
  (sSeq (sAsg (eP (pOp oFdiv (pOp oIx (pVar 0) (pC (.int 0))) (pVar 1))) (tSub 0 (eL (pC (.int 0)))))
  (sRet (eL (pVar 2))))) sNext)
  (sSeq (sAsg (eP (pOp oAdd (pOp oIx (pVar 0) (pC (.int 2))) (pC (.int 1)))) (tSub 0 (eL (pC (.int 2)))))
  (sSeq (sAsg (eP (pOp oMod (pOp oAdd (pOp oIx (pVar 0) (pC (.int 1))) (pOp oMul (pC (.int 1442695040888963407)) (pOp oIx (pVar 0) (pC (.int 2))))) (pC (.int 2305843009213693951)))) (tN 3))
  (sSeq (sAsg (eP (pOp oMod (pOp oAdd (pOp oAdd (pOp oMul (pVar 3) (pVar 3)) (pOp oMul (pC (.int 39373)) (pOp oIx (pVar 0) (pC (.int 2))))) (pC (.int 7))) (pC (.int 2305843009213693921)))) (tN 3))
  (sSeq (sAsg (eP (pOp oMod (pOp oAdd (pOp oMul (pVar 3) (pOp oAdd (pOp oFdiv (pVar 3) (pC (.int 65536))) (pC (.int 3)))) (pOp oIx (pVar 0) (pC (.int 2)))) (pC (.int 2305843009213693907)))) (tN 3))
  (sRet (eL (pOp oMod (pOp oFdiv (pVar 3) (pC (.int 1048576))) (pVar 1)))))))))
def f_take : List (Option D) → Ob → Option (D × Ob) := fn1 2 4 bd_take
/- _law_cells(_law_script, _law_most): 0 _law_script, 1 _law_most, 2 _law_cells_here, 3 _law_k, 4 _law_cell -/
def bd_cells : PS' := (sSeq (sAsgN (eN (pnOr (pnCB onList (pCons (pSl oSl (pVar 0) pNoPart (pPart (pVar 1))) pNil)) (pnLst (pCons (pC (.int 0)) pNil)))) 2)
  (sSeq (sFor (eLI (pEnum (pCons (pSl oSl (pVar 0) (pPart (pVar 1)) (pPart (pC (.int 63)))) pNil))) (gT 2 (gsCons (tN 3) (gsCons (tN 4) gsNil))) (sAsg (eP (pOp oAdd (pOp oIx (pVar 2) (pOp oMod (pVar 3) (pVar 1))) (pOp oMul (pVar 4) (pOp oAdd (pVar 3) (pC (.int 2)))))) (tSub 2 (eL (pOp oMod (pVar 3) (pVar 1))))))
  (sRetN (enVar 2))))
def f_cells : List D → Option (List D) := fn0N 2 5 bd_cells
/- _law_bits(_law_span, _law_number): 0 _law_span, 1 _law_number, 2 _law_k -/
def bd_bits : PS' := (sRet (eL (pBM oJoin (pC (.str [])) (pCons (pFz (pnLc (pRng (pCons (pVar 0) pNil)) (gN 2) pYes (pCB oStr (pCons (pOp oAnd (pOp oShr (pVar 1) (pOp oSub (pOp oSub (pVar 0) (pC (.int 1))) (pVar 2))) (pC (.int 1))) pNil)) [2])) pNil))))
def f_bits : List D → Option D := fn0 2 3 bd_bits
/- _law_held(_law_lane, _law_span): 0 _law_lane, 1 _law_span, 2 _law_bits_here, 3 _law_number, 4 _law_k, 5 _law_some, 6 _law_one, 7 _law_bit -/
def bd_held : PS' := (sSeq (sAsg (eL (pFz (pnLc (pRng (pCons (pOp oShl (pC (.int 1)) (pVar 1)) pNil)) (gN 3) pYes (pCall f_bits (pCons (pVar 1) (pCons (pVar 3) pNil))) [3]))) (tN 2))
  (sRetN (eN (pnLc (pEnum (pCons (pVar 2) pNil)) (gT 2 (gsCons (gN 4) (gsCons (gN 5) gsNil))) (pTru (pCB oAll (pCons (pFz (pnLc (pZip false (pCons (pVar 0) (pCons (pVar 5) pNil))) (gT 2 (gsCons (gN 6) (gsCons (gN 7) gsNil))) pYes (pOp oIn (pVar 6) (pTup (pCons (pC (.str [45])) (pCons (pVar 7) pNil)))) [6, 7])) pNil))) (pVar 4) [4, 5]))))
def f_held : List D → Option (List D) := fn0N 2 8 bd_held
/- _law_lanes(_law_span): 0 _law_span, 1 _law_found, 2 _law_place, 3 _law_some, 4 _law_lane, 5 _law_sign -/
def bd_lanes : PS' := (sSeq (sAsg (eL (pFz (pnLst (pCons (pC (.str [])) pNil)))) (tN 1))
  (sSeq (sFor (eLI (pRng (pCons (pVar 0) pNil))) (tN 2) (sSeq (sAsgN (eN (pnLst pNil)) 3)
  (sSeq (sFor (eLI (pSeq (pVar 1))) (tN 4) (sDrop (eMut mExtend 3 (eCons (eL (pFz (pnLc (pSeq (pC (.str [45, 48, 49]))) (gN 5) pYes (pOp oAdd (pVar 4) (pVar 5)) [5]))) eNil))))
  (sAsg (eFrz 3 (eL (pVar 3))) (tN 1)))))
  (sRetN (eN (pnLc (pSeq (pVar 1)) (gN 4) pYes (pTup (pCons (pVar 4) (pCons (pFz (pnCall f_held (pCons (pVar 4) (pCons (pVar 0) pNil)))) pNil))) [4])))))
def f_lanes : List D → Option (List D) := fn0N 1 6 bd_lanes
/- _law_set(_law_box_here, _law_span): 0 _law_box_here, 1 _law_span, 2 _law_every, 3 _law_way, 4 _law_one, 5 _law_some, 6 _law_number -/
def bd_set : PS' := (sSeq (sPar 2 3 (wCons (eL (pFz (pnRg1 (pOp oShl (pC (.int 1)) (pVar 1))))) (wCons (eCallIo f_take 0 (vIo (vCons (eL (pC (.int 8))) vNil))) wNil)))
  (sSeq (sAsg (eCallIo f_take 0 (vIo (vCons (eL (pOp oShl (pC (.int 1)) (pVar 1))) vNil))) (tN 4))
  (sSeq (sAsg (eL (pFz (pnLst (pCons (pFz (pnLst pNil)) (pCons (pVar 2) (pCons (pFz (pnLst (pCons (pVar 4) pNil))) (pCons (pOp oAdd (pSl oSl (pVar 2) pNoPart (pPart (pVar 4))) (pSl oSl (pVar 2) (pPart (pOp oAdd (pVar 4) (pC (.int 1)))) pNoPart)) pNil))))))) (tN 5))
  (sSeq (sIf (eT (pTest (pOp oLt (pVar 3) (pC (.int 4))))) (sRet (eL (pOp oIx (pVar 5) (pVar 3)))) sNext)
  (sSeq (sIf (eT (pTest (pOp oEq (pVar 3) (pC (.int 4))))) (sRet (eL (pFz (pnLc (pSeq (pVar 2)) (gN 6) (pTest (pOp oEq (pOp oMod (pBM oCount (pCall f_bits (pCons (pVar 1) (pCons (pVar 6) pNil))) (pCons (pC (.str [49])) pNil)) (pC (.int 2))) (pOp oMod (pVar 4) (pC (.int 2))))) (pVar 6) [6])))) sNext)
  (sRet (eFz (enLc (eLI (pSeq (pVar 2))) (tN 6) (eTest (eOp oGt (eCallIo f_take 0 (vIo (vCons (eL (pOp oAdd (pC (.int 2)) (pOp oMod (pVar 3) (pC (.int 2))))) vNil))) (eL (pC (.int 0))))) (eL (pVar 6)) [6]))))))))
def f_set : List (Option D) → Ob → Option (D × Ob) := fn1 2 7 bd_set
/- _law_widest(_law_span, _law_digits): 0 _law_span, 1 _law_digits, 2 _law_wanted, 3 _law_some, 4 _law_found, 5 _law_lane, 6 _law_held_here, 7 _law_mask, 8 _law_number, 9 _law_row -/
def bd_l_widest : PS' := (sSeq (sAsg (eL (pCB oSum (pCons (pFz (pnLc (pSeq (pVar 1)) (gN 8) pYes (pOp oShl (pC (.int 1)) (pVar 8)) [8])) pNil))) (tN 2))
  (sSeq (sAsg (eL (pFz (pnLc (pSeq (pFz (pnCall f_lanes (pCons (pVar 0) pNil)))) (gT 2 (gsCons (gN 5) (gsCons (gN 6) gsNil))) pYes (pTup (pCons (pVar 5) (pCons (pVar 6) (pCons (pCB oSum (pCons (pFz (pnLc (pSeq (pVar 6)) (gN 8) pYes (pOp oShl (pC (.int 1)) (pVar 8)) [8])) pNil)) pNil)))) [5, 6]))) (tN 3))
  (sSeq (sAsg (eL (pFz (pnLc (pSeq (pVar 3)) (gN 9) (pTest (pOp oEq (pOp oOr (pOp oIx (pVar 9) (pC (.int 2))) (pVar 2)) (pVar 2))) (pVar 9) [9]))) (tN 3))
  (sSeq (sAsgN (eN (pnLst pNil)) 4)
  (sSeq (sFor (eLI (pSeq (pVar 3))) (gT 3 (gsCons (tN 5) (gsCons (tN 6) (gsCons (tN 7) gsNil)))) (sIf (eT (pTest (pOp oEq (pFz (pnLc (pSeq (pVar 3)) (gN 9) (pAnd (pTest (pOp oNe (pOp oIx (pVar 9) (pC (.int 2))) (pVar 7))) (pTest (pOp oEq (pOp oOr (pOp oIx (pVar 9) (pC (.int 2))) (pVar 7)) (pOp oIx (pVar 9) (pC (.int 2)))))) (pVar 9) [9])) (pFz (pnLst pNil))))) (sDrop (eMut mAppend 4 (eCons (eL (pTup (pCons (pVar 5) (pCons (pVar 6) pNil)))) eNil))) sNext))
  (sRetN (enVar 4)))))))
def f_l_widest : List D → Option (List D) := fn0N 2 10 bd_l_widest
/- _law_right(_law_box_here): 0 _law_box_here, 1 _law_turn, 2 _law_span, 3 _law_digits, 4 _law_kept, 5 _law_due, 6 _law_found, 7 _law_lane, 8 _law_held_here -/
def bd_right : PS' := (sSeq (sFor (eLI (pRng (pCons (pC (.int 4)) pNil))) (tN 1) (sSeq (sAsg (eOp oAdd (eL (pC (.int 1))) (eCallIo f_take 0 (vIo (vCons (eL (pC (.int 4))) vNil)))) (tN 2))
  (sSeq (sAsg (eCallIo f_set 0 (vIo (vCons (eL (pVar 2)) vNil))) (tN 3))
  (sSeq (sPar 4 5 (wCons (eL (pCB oRepr (pCons (pVar 3) pNil))) (wCons (eL (pCB oRepr (pCons (pFz (pnLc (pSeq (pFz (pnCall f_l_widest (pCons (pVar 2) (pCons (pVar 3) pNil))))) (gT 2 (gsCons (gN 7) (gsCons (gN 8) gsNil))) pYes (pVar 7) [7, 8])) pNil))) wNil)))
  (sSeq (sAsgN (eN (pnCall f_widest (pCons (pVar 2) (pCons (pVar 3) pNil)))) 6)
  (sSeq (sIf (eT (pOr (pTest (pOp oNe (pCB oRepr (pCons (pVar 6) pNil)) (pVar 5))) (pTest (pOp oNe (pCB oRepr (pCons (pVar 3) pNil)) (pVar 4))))) (sRet (eL (pC (.bl false)))) sNext)
  (sSeq (sDrop (eMut mAppend 6 (eCons (eL (pC (.str [109, 111, 114, 101]))) eNil)))
  (sIf (eT (pOr (pTest (pOp oNe (pCB oRepr (pCons (pFz (pnCallK f_widest 0 2 [1, 0] pNil (pCons (pCB oTuple (pCons (pVar 3) pNil)) (pCons (pVar 2) pNil)))) pNil)) (pVar 5))) (pTest (pOp oNe (pCB oRepr (pCons (pFz (pnCall f_widest (pCons (pVar 2) (pCons (pVar 3) pNil)))) pNil)) (pVar 5))))) (sRet (eL (pC (.bl false)))) sNext))))))))
  (sRet (eL (pC (.bl true)))))
def f_right : List (Option D) → Ob → Option (D × Ob) := fn1 1 9 bd_right
/- law(_law_script): 0 _law_script, 1 _law_cells_here, 2 _law_k -/
def bd_law : PS' := (sSeq (sAsg (eL (pFz (pnCall f_cells (pCons (pVar 0) (pCons (pC (.int 4)) pNil))))) (tN 1))
  (sRet (eCB oAll (eCons (eFz (enLc (eLI (pRng (pCons (pCB oLen (pCons (pVar 1) pNil)) pNil))) (tN 2) eYes (eCallT f_right (eN (pnCall f_box (pCons (pVar 1) (pCons (pVar 2) pNil)))) eNil) [2])) eNil))))
def f_law : List D → Option D := fn0 1 3 bd_law
local macro_rules | `(tactic| walk_at "p") => `(tactic| (first
  | refine SP1.imp ?_
  | ((refine RP1.imp ?x ?h ?_); (case h => exact rfl))
  | ((refine RP0.imp ?h ?_); (case h => exact rfl))
  | ((with_reducible refine k_len ?h ?_); (case h => exact Nat.le_of_ble_eq_true rfl))
  | ((with_reducible refine e_len ?h ?_); (case h => exact Nat.le_of_ble_eq_true rfl))
  | ((with_reducible refine o_modI ?h ?_); (case h => omega))
  | ((with_reducible refine o_fdivI ?h1 ?h2 ?_); (case h1 => omega); (case h2 => omega))
  | ((with_reducible refine o_shl1 ?h1 ?h2 ?_); (case h1 => omega); (case h2 => omega))
  | ((with_reducible refine o_divmod ?h1 ?h2 ?_); (case h1 => omega); (case h2 => omega))
  | ((with_reducible refine k_rng1 ?h1 ?h2 ?_); (case h1 => omega); (case h2 => omega))
  | ((with_reducible refine e_rng1 ?h1 ?h2 ?_); (case h1 => omega); (case h2 => omega))
  | ((with_reducible refine s_tN ?h ?_); (case h => first | exact rfl | exact notIo_nio rfl (by assumption) | exact notIo_of rfl))
  | ((with_reducible refine s_avD ?h ?_); (case h => first | exact rfl | exact notIo_nio rfl (by assumption) | exact notIo_of rfl))
  | ((with_reducible refine s_avN ?h ?_); (case h => first | exact rfl | exact notIo_nio rfl (by assumption) | exact notIo_of rfl))
  | ((with_reducible refine s_asgN ?_))))
local macro_rules | `(tactic| walk_at "o") => `(tactic| first | omega | (simp only [List.length_map, List.length_append, List.length_range, List.length_cons, List.length_nil, List.length_set, List.length_take, List.length_drop, List.length_reverse, List.length_replicate, Int.toNat_natCast] <;> omega))
local macro_rules | `(tactic| walk_at "s") => `(tactic| first
  | walk_at "p"
  | ((with_reducible refine s_nio ?h ?_); (case h => first | exact rfl | exact notIo_nio rfl (by assumption) | exact notIo_of rfl))
  | refine SS1.imp ?_
  | ((refine RS1.imp ?x ?h ?_); (case h => exact rfl))
  | (with_reducible refine k_noF ?_)
  | (with_reducible refine k_ntF ?_)
  | ((with_reducible refine e_stT (ns := ?n) (t := ?t) ?h ?_); (case h => exact rfl))
  | ((with_reducible refine e_stN (ns := ?n) (t := ?t) ?h ?_); (case h => exact rfl))
  | ((with_reducible refine s_stT (ns := ?n) (t := ?t) ?h ?_); (case h => exact rfl))
  | ((with_reducible refine k_rng31 ?h ?_); (case h => walk_at "o"))
  | ((with_reducible refine e_upd ?h ?_); (case h => exact rfl))
  | ((with_reducible refine k_rngD1 ?h ?_); (case h => walk_at "o"))
  | ((with_reducible refine k_revR1 ?h ?_); (case h => walk_at "o"))
  | ((with_reducible refine o_get2 (k' := ?k) ?h ?_); (case h => exact rfl))
  | ((with_reducible refine o_din (k' := ?k) ?h ?_); (case h => exact rfl))
  | ((with_reducible refine k_kw ?h1 ?h2 ?_); (case h1 => exact rfl); (case h2 => exact rfl))
  | ((with_reducible refine k_rg11 ?h ?_); (case h => walk_at "o"))
  | ((with_reducible refine s_all1 ?h ?_); (case h => first | exact rfl | exact notIo_nio rfl (by assumption) | exact notIo_of rfl))
  | ((with_reducible refine s_all2 ?h ?h2 ?_); (case h => first | exact rfl | exact notIo_nio rfl (by assumption) | exact notIo_of rfl); (case h2 => first | exact rfl | exact notIo_nio rfl (by assumption) | exact notIo_of rfl))
  | ((with_reducible refine k_rng1 ?h1 ?h2 ?_); (case h1 => walk_at "o"); (case h2 => walk_at "o"))
  | ((with_reducible refine e_rng1 ?h1 ?h2 ?_); (case h1 => walk_at "o"); (case h2 => walk_at "o"))
  | ((with_reducible refine k_len ?h ?_); (case h => walk_at "o"))
  | ((with_reducible refine k_dT ?h ?_); (case h => walk_at "o"))
  | ((with_reducible refine k_dF ?h ?_); (case h => walk_at "o"))
  | ((with_reducible refine k_nT ?h ?_); (case h => walk_at "o"))
  | ((with_reducible refine k_nF ?h ?_); (case h => walk_at "o"))
  | ((with_reducible refine o_mulI ?h ?_); (case h => first | exact .inl ⟨by walk_at "o", by walk_at "o"⟩ | exact .inr ⟨by walk_at "o", by walk_at "o"⟩))
  | ((with_reducible refine o_imulI ?h ?_); (case h => first | exact .inl ⟨by walk_at "o", by walk_at "o"⟩ | exact .inr ⟨by walk_at "o", by walk_at "o"⟩))
  | ((with_reducible refine o_shr ?h ?_); (case h => walk_at "o"))
  | ((with_reducible refine o_lenS ?h ?_); (case h => walk_at "o"))
  | ((with_reducible refine o_slS ?h ?_); (case h => walk_at "o"))
  | ((with_reducible refine o_addS ?h ?_); (case h => walk_at "o"))
  | ((with_reducible refine o_iaddS ?h ?_); (case h => walk_at "o"))
  | ((with_reducible refine k_rng21 ?h ?_); (case h => walk_at "o"))
  | ((with_reducible refine o_inT ?h1 ?h2 ?_); (case h1 => exact rfl); (case h2 => exact rfl))
  | ((with_reducible refine o_niT ?h1 ?h2 ?_); (case h1 => exact rfl); (case h2 => exact rfl)))
local macro_rules | `(tactic| walk_at "w") => `(tactic| repeat walk_at "s")
local macro_rules | `(tactic| walk_at "n") => `(tactic| first | exact nio_v | exact nio_m | exact nio_n | assumption)
local macro_rules | `(tactic| walk_at "r") => `(tactic| repeat (first | walk_at "s" | ((with_reducible refine k_iteF ?h ?_); (case h => exact rfl)) | ((with_reducible refine k_iteT ?h ?_); (case h => exact rfl))))
/-! L0: the box of draws; tests whose answer is known. -/
def Bo (c : Nat) (ob : Ob) : Prop := ∃ x y z : Int, ob = .l [.int x, .int y, .int z] ∧ 0 ≤ x ∧ 0 ≤ y ∧ y < 2 ^ 62 ∧ 0 ≤ z ∧ z ≤ (c : Int)
theorem Bo.mono {c c' : Nat} {o : Ob} (h : Bo c o) (e : c ≤ c') : Bo c' o := by
  obtain ⟨x, y, z, e1, a, b, d, f, g⟩ := h
  exact ⟨x, y, z, e1, a, b, d, f, by omega⟩

/-! PA: lanes as lists of signs, in plain Lean. -/
/-- the places at which two lanes differ -/
def unl (l m : List Nat) : List Nat := (List.range l.length).filter fun k => decide (l[k]? ≠ m[k]?)
def oneOf (l m : List Nat) : Option (List Nat) := match unl l m with
  | [p] => if l[p]? = some 45 ∨ m[p]? = some 45 then none else some (l.take p ++ 45 :: l.drop (p + 1))
  | _ => none
/-- whether a lane takes bits -/
def tk (b : Nat → Nat) (l : List Nat) : Bool := (List.range l.length).all fun k => decide (l[k]? = some 45) || decide (l[k]? = some (48 + b k))
theorem unl_comm {l m : List Nat} (h : l.length = m.length) : unl m l = unl l m := by
  unfold unl
  rw [h]
  apply List.filter_congr
  intro k _
  rw [decide_eq_decide]
  exact ⟨fun q e => q e.symm, fun q e => q e.symm⟩
theorem unl_self (l : List Nat) : unl l l = [] := by
  unfold unl
  simp
theorem unl_one {l m : List Nat} {p : Nat} (e : unl l m = [p]) : p < l.length ∧ l[p]? ≠ m[p]? ∧ ∀ k, k < l.length → k ≠ p → l[k]? = m[k]? := by
  have hp : p ∈ unl l m := by rw [e]; exact List.mem_singleton.mpr rfl
  unfold unl at hp
  rw [List.mem_filter, List.mem_range] at hp
  refine ⟨hp.1, of_decide_eq_true hp.2, fun k hk hkp => ?_⟩
  apply Classical.byContradiction
  intro hne
  have : k ∈ unl l m := by
    unfold unl
    rw [List.mem_filter, List.mem_range]
    exact ⟨hk, decide_eq_true hne⟩
  rw [e] at this
  exact hkp (List.mem_singleton.mp this)
theorem get_put {l : List Nat} {p c k : Nat} (hp : p < l.length) : (l.take p ++ c :: l.drop (p + 1))[k]? = if k = p then some c else l[k]? := by
  rw [show l.take p ++ c :: l.drop (p + 1) = l.set p c from (List.set_eq_take_append_cons_drop ..).trans (if_pos hp) |>.symm]
  rw [List.getElem?_set]
  by_cases e : p = k
  · subst e; simp [hp]
  · rw [if_neg e, if_neg (fun h => e h.symm)]
theorem len_put {l : List Nat} {p c : Nat} (hp : p < l.length) : (l.take p ++ c :: l.drop (p + 1)).length = l.length := by
  rw [List.length_append, List.length_cons, List.length_take, List.length_drop]
  omega
theorem oneOf_some {l m f : List Nat} (e : oneOf l m = some f) : ∃ p, unl l m = [p] ∧ l[p]? ≠ some 45 ∧ m[p]? ≠ some 45 ∧ f = l.take p ++ 45 :: l.drop (p + 1) := by
  unfold oneOf at e
  split at e
  · rename_i p h
    split at e
    · cases e
    · rename_i hn
      rw [not_or] at hn
      exact ⟨p, h, hn.1, hn.2, (Option.some.inj e).symm⟩
  · cases e
theorem oneOf_len {l m f : List Nat} (e : oneOf l m = some f) : f.length = l.length := by
  obtain ⟨p, h, _, _, rfl⟩ := oneOf_some e
  exact len_put (unl_one h).1
theorem oneOf_comm {l m : List Nat} (h : l.length = m.length) : oneOf m l = oneOf l m := by
  have hu := unl_comm h
  unfold oneOf
  rw [hu]
  cases hx : unl l m with
  | nil => rfl
  | cons p r =>
    cases r with
    | cons _ _ => rfl
    | nil =>
      show (if m[p]? = some 45 ∨ l[p]? = some 45 then none else some (m.take p ++ 45 :: m.drop (p + 1))) = if l[p]? = some 45 ∨ m[p]? = some 45 then none else some (l.take p ++ 45 :: l.drop (p + 1))
      obtain ⟨hp, _, hk⟩ := unl_one hx
      by_cases hc : l[p]? = some 45 ∨ m[p]? = some 45
      · rw [if_pos hc, if_pos hc.symm]
      · rw [if_neg hc, if_neg (fun z => hc z.symm)]
        congr 1
        apply List.ext_getElem?
        intro k
        rw [get_put (by omega), get_put hp]
        by_cases e : k = p
        · rw [if_pos e, if_pos e]
        · rw [if_neg e, if_neg e]
          by_cases hkl : k < l.length
          · exact (hk k hkl e).symm
          · rw [List.getElem?_eq_none (by omega), List.getElem?_eq_none (by omega)]
theorem oneOf_self (l : List Nat) : oneOf l l = none := by
  unfold oneOf
  rw [unl_self]
theorem tk_iff {b : Nat → Nat} {l : List Nat} : tk b l = true ↔ ∀ k, k < l.length → l[k]? = some 45 ∨ l[k]? = some (48 + b k) := by
  unfold tk
  rw [List.all_eq_true]
  constructor
  · intro h k hk
    have := h k (List.mem_range.mpr hk)
    rw [Bool.or_eq_true, decide_eq_true_eq, decide_eq_true_eq] at this
    exact this
  · intro h k hk
    rw [Bool.or_eq_true, decide_eq_true_eq, decide_eq_true_eq]
    exact h k (List.mem_range.mp hk)
theorem tk_one {l m f : List Nat} {b : Nat → Nat} (h : l.length = m.length) (hl : ∀ c ∈ l, c = 48 ∨ c = 49 ∨ c = 45) (hm : ∀ c ∈ m, c = 48 ∨ c = 49 ∨ c = 45) (hb : ∀ k, b k = 0 ∨ b k = 1) (e : oneOf l m = some f) :
    tk b f = (tk b l || tk b m) := by
  obtain ⟨p, hu, n1, n2, rfl⟩ := oneOf_some e
  obtain ⟨hp, hne, hk⟩ := unl_one hu
  have hpm : p < m.length := by omega
  have e1 : l[p]? = some l[p] := List.getElem?_eq_getElem hp
  have e2 : m[p]? = some m[p] := List.getElem?_eq_getElem hpm
  have c1 := hl _ (List.getElem_mem hp)
  have c2 := hm _ (List.getElem_mem hpm)
  rw [e1] at n1 hne
  rw [e2] at n2 hne
  have d1 : l[p] ≠ 45 := fun z => n1 (by rw [z])
  have d2 : m[p] ≠ 45 := fun z => n2 (by rw [z])
  have d3 : l[p] ≠ m[p] := fun z => hne (by rw [z])
  rw [Bool.eq_iff_iff, Bool.or_eq_true, tk_iff, tk_iff, tk_iff]
  rw [len_put hp]
  constructor
  · intro hf
    have rest : ∀ k, k < l.length → k ≠ p → l[k]? = some 45 ∨ l[k]? = some (48 + b k) := fun k hkl hkp => by
      have := hf k hkl
      rw [get_put hp, if_neg hkp] at this
      exact this
    have hbp := hb p
    by_cases hx : l[p] = 48 + b p
    · left
      intro k hkl
      by_cases hkp : k = p
      · subst hkp; right; rw [e1, hx]
      · exact rest k hkl hkp
    · right
      intro k hkl
      by_cases hkp : k = p
      · subst hkp; right; rw [e2]; congr 1; omega
      · rw [← hk k (by omega) hkp]; exact rest k (by omega) hkp
  · intro hf k hkl
    rw [get_put hp]
    by_cases hkp : k = p
    · rw [if_pos hkp]; exact .inl rfl
    · rw [if_neg hkp]
      rcases hf with hf | hf
      · exact hf k hkl
      · rw [hk k hkl hkp]; exact hf k (by omega)

/-! PB: what two lanes have in common, in plain Lean. -/
def okp (a b : Nat) : Bool := decide (a = 45) || decide (b = 45) || decide (a = b)
def mix (a b : Nat) : Nat := if a = 45 then b else a
def cmn (l m : List Nat) : Option (List Nat) := if (l.zip m).all (fun p => okp p.1 p.2) then some (List.zipWith mix l m) else none
def wth (l m : List Nat) : Bool := (l.zip m).all fun p => decide (45 = p.2) || decide (p.1 = p.2)
/-- bits that a number writes in a width -/
def bitN (w n k : Nat) : Nat := n / 2 ^ (w - 1 - k) % 2
theorem zip_get {l m : List Nat} {k : Nat} (h : l.length = m.length) (hk : k < l.length) : (l.zip m)[k]? = some (l[k], m[k]'(by omega)) := by
  rw [List.getElem?_eq_getElem (by rw [List.length_zip]; omega), List.getElem_zip]
theorem all_zip {l m : List Nat} {f : Nat → Nat → Bool} (h : l.length = m.length) : (l.zip m).all (fun p => f p.1 p.2) = true ↔ ∀ k (hk : k < l.length), f l[k] (m[k]'(by omega)) = true := by
  rw [List.all_eq_true]
  constructor
  · intro ha k hk
    exact ha (l[k], m[k]'(by omega)) (List.mem_of_getElem? (zip_get h hk))
  · intro ha p hp
    obtain ⟨k, hk⟩ := List.getElem?_of_mem hp
    have hkl : k < l.length := by
      have := (List.getElem?_eq_some_iff.mp hk).1
      rw [List.length_zip] at this
      omega
    rw [zip_get h hkl] at hk
    cases hk
    exact ha k hkl
theorem okp_comm (a b : Nat) : okp a b = okp b a := by
  unfold okp
  rw [Bool.or_comm (decide (a = 45))]
  congr 1
  rw [decide_eq_decide]
  exact eq_comm
theorem cmn_comm {l m : List Nat} (h : l.length = m.length) : cmn m l = cmn l m := by
  unfold cmn
  have e : (m.zip l).all (fun p => okp p.1 p.2) = (l.zip m).all (fun p => okp p.1 p.2) := by
    rw [Bool.eq_iff_iff, all_zip h.symm, all_zip h]
    constructor
    · intro ha k hk
      rw [okp_comm]; exact ha k (by omega)
    · intro ha k hk
      rw [okp_comm]; exact ha k (by omega)
  rw [e]
  cases hc : (l.zip m).all (fun p => okp p.1 p.2) with
  | false => rfl
  | true =>
    rw [if_pos rfl, if_pos rfl]
    congr 1
    rw [all_zip h] at hc
    apply List.ext_getElem
    · rw [List.length_zipWith, List.length_zipWith]; omega
    · intro k h1 h2
      rw [List.getElem_zipWith, List.getElem_zipWith]
      rw [List.length_zipWith] at h1
      have hk := hc k (by omega)
      unfold okp at hk
      unfold mix
      simp only [Bool.or_eq_true, decide_eq_true_eq] at hk
      split <;> split <;> omega
theorem cmn_len {l m f : List Nat} (h : l.length = m.length) (e : cmn l m = some f) : f.length = l.length := by
  unfold cmn at e
  split at e
  · cases e; rw [List.length_zipWith]; omega
  · cases e
theorem cmn_ln {l m f : List Nat} (hl : ∀ c ∈ l, c = 48 ∨ c = 49 ∨ c = 45) (hm : ∀ c ∈ m, c = 48 ∨ c = 49 ∨ c = 45) (e : cmn l m = some f) : ∀ c ∈ f, c = 48 ∨ c = 49 ∨ c = 45 := by
  unfold cmn at e
  split at e
  · cases e
    intro c hc
    obtain ⟨k, hk, rfl⟩ := List.getElem_of_mem hc
    rw [List.getElem_zipWith]
    unfold mix
    split
    · exact hm _ (List.getElem_mem _)
    · exact hl _ (List.getElem_mem _)
  · cases e
theorem tk_get {b : Nat → Nat} {l : List Nat} : tk b l = true ↔ ∀ k (hk : k < l.length), l[k] = 45 ∨ l[k] = 48 + b k := by
  rw [tk_iff]
  constructor
  · intro h k hk
    have := h k hk
    rw [List.getElem?_eq_getElem hk] at this
    exact this.imp Option.some.inj Option.some.inj
  · intro h k hk
    rw [List.getElem?_eq_getElem hk]
    exact (h k hk).imp (fun z => by rw [z]) (fun z => by rw [z])
theorem tk_cmn {l m f : List Nat} {b : Nat → Nat} (h : l.length = m.length) (e : cmn l m = some f) : tk b f = (tk b l && tk b m) := by
  have hfl := cmn_len h e
  unfold cmn at e
  split at e
  · rename_i hc
    cases e
    rw [all_zip h] at hc
    rw [Bool.eq_iff_iff, Bool.and_eq_true, tk_get, tk_get, tk_get]
    constructor
    · intro hf
      refine ⟨fun k hk => ?_, fun k hk => ?_⟩
      · have h1 := hf k (by omega)
        rw [List.getElem_zipWith] at h1
        unfold mix at h1
        split at h1 <;> omega
      · have h1 := hf k (by omega)
        have h2 := hc k (by omega)
        rw [List.getElem_zipWith] at h1
        unfold mix at h1
        unfold okp at h2
        simp only [Bool.or_eq_true, decide_eq_true_eq] at h2
        split at h1 <;> omega
    · intro ⟨h1, h2⟩ k hk
      rw [List.getElem_zipWith]
      have a := h1 k (by omega)
      have b := h2 k (by omega)
      unfold mix
      split <;> omega
  · cases e
theorem cmn_none {l m : List Nat} {b : Nat → Nat} (h : l.length = m.length) (e : cmn l m = none) : (tk b l && tk b m) = false := by
  cases hb : (tk b l && tk b m) with
  | false => rfl
  | true =>
    rw [Bool.and_eq_true, tk_get, tk_get] at hb
    have : (l.zip m).all (fun p => okp p.1 p.2) = true := by
      rw [all_zip h]
      intro k hk
      have a := hb.1 k hk
      have b := hb.2 k (by omega)
      unfold okp
      simp only [Bool.or_eq_true, decide_eq_true_eq]
      omega
    unfold cmn at e
    rw [if_pos this] at e
    cases e
theorem wth_tk {l m : List Nat} {b : Nat → Nat} (h : l.length = m.length) (e : wth l m = true) (ht : tk b l = true) : tk b m = true := by
  unfold wth at e
  rw [all_zip (f := fun a b => decide (45 = b) || decide (a = b)) h] at e
  rw [tk_get] at ht ⊢
  intro k hk
  have h1 := e k (by omega)
  have h2 := ht k (by omega)
  simp only [Bool.or_eq_true, decide_eq_true_eq] at h1
  omega
/-- every choice of bits is a number's -/
theorem num_of : ∀ (w : Nat) (f : Nat → Nat), (∀ k, f k = 0 ∨ f k = 1) → ∃ n, n < 2 ^ w ∧ ∀ k, k < w → bitN w n k = f k
  | 0, f, _ => ⟨0, by decide, fun k hk => by omega⟩
  | w + 1, f, hf => by
    obtain ⟨n, hn, hb⟩ := num_of w f hf
    have h2 : 2 ^ (w + 1) = 2 * 2 ^ w := by rw [Nat.pow_succ, Nat.mul_comm]
    refine ⟨2 * n + f w, by have := hf w; omega, fun k hk => ?_⟩
    by_cases hkw : k = w
    · subst hkw
      unfold bitN
      rw [show k + 1 - 1 - k = 0 by omega, Nat.pow_zero, Nat.div_one]
      have := hf k
      omega
    · have hk' : k < w := by omega
      rw [← hb k hk']
      unfold bitN
      rw [show w + 1 - 1 - k = (w - 1 - k) + 1 by omega, Nat.pow_succ, Nat.mul_comm _ 2, ← Nat.div_div_eq_div_mul]
      congr 2
      have := hf w
      omega
theorem wth_false {l m : List Nat} (h : l.length = m.length) (hl : ∀ c ∈ l, c = 48 ∨ c = 49 ∨ c = 45) (hm : ∀ c ∈ m, c = 48 ∨ c = 49 ∨ c = 45) (e : wth l m = false) : ∃ n, n < 2 ^ l.length ∧ tk (bitN l.length n) l = true ∧ tk (bitN l.length n) m = false := by
  have : ∃ k, ∃ hk : k < l.length, m[k]'(by omega) ≠ 45 ∧ l[k] ≠ m[k]'(by omega) := by
    apply Classical.byContradiction
    intro hn
    have : wth l m = true := by
      unfold wth
      rw [all_zip (f := fun a b => decide (45 = b) || decide (a = b)) h]
      intro k hk
      simp only [Bool.or_eq_true, decide_eq_true_eq]
      apply Classical.byContradiction
      intro hx
      rw [not_or] at hx
      exact hn ⟨k, hk, fun z => hx.1 z.symm, hx.2⟩
    rw [this] at e
    cases e
  obtain ⟨k, hk, h1, h2⟩ := this
  have hmk := hm _ (List.getElem_mem (show k < m.length by omega))
  let f : Nat → Nat := fun j => if j = k ∧ l[k] = 45 then 49 - m[k]'(by omega) else if l[j]? = some 49 then 1 else 0
  have hf : ∀ j, f j = 0 ∨ f j = 1 := by
    intro j
    show (if j = k ∧ l[k] = 45 then 49 - m[k]'(by omega) else if l[j]? = some 49 then 1 else 0) = 0 ∨ (if j = k ∧ l[k] = 45 then 49 - m[k]'(by omega) else if l[j]? = some 49 then 1 else 0) = 1
    split
    · omega
    · split <;> omega
  obtain ⟨n, hn, hb⟩ := num_of l.length f hf
  refine ⟨n, hn, ?_, ?_⟩
  · rw [tk_get]
    intro j hj
    rw [hb j hj]
    have hlj := hl _ (List.getElem_mem hj)
    show l[j] = 45 ∨ l[j] = 48 + (if j = k ∧ l[k] = 45 then 49 - m[k]'(by omega) else if l[j]? = some 49 then 1 else 0)
    by_cases h45 : l[j] = 45
    · exact .inl h45
    · right
      have hne : ¬ (j = k ∧ l[k] = 45) := fun z => by
        obtain ⟨rfl, z⟩ := z
        exact h45 z
      rw [if_neg hne, List.getElem?_eq_getElem hj]
      by_cases h49 : l[j] = 49
      · rw [if_pos (by rw [h49]), h49]
      · rw [if_neg (fun z => h49 (Option.some.inj z))]; omega
  · cases hx : tk (bitN l.length n) m with
    | false => rfl
    | true =>
      rw [tk_get] at hx
      have := hx k (by omega)
      rw [hb k hk] at this
      have hlk := hl _ (List.getElem_mem hk)
      have this2 : m[k]'(by omega) = 48 + (if k = k ∧ l[k] = 45 then 49 - m[k]'(by omega) else if l[k]? = some 49 then 1 else 0) := this.resolve_left h1
      by_cases h45 : l[k] = 45
      · rw [if_pos ⟨rfl, h45⟩] at this2
        omega
      · rw [if_neg (fun z => h45 z.2), List.getElem?_eq_getElem hk] at this2
        by_cases h49 : l[k] = 49
        · rw [if_pos (by rw [h49])] at this2; omega
        · rw [if_neg (fun z => h49 (Option.some.inj z))] at this2; omega
/-- the numbers that a lane takes -/
def nms (l : List Nat) : List Nat := (List.range (2 ^ l.length)).filter fun n => tk (bitN l.length n) l
theorem nms_some {l : List Nat} (hl : ∀ c ∈ l, c = 48 ∨ c = 49 ∨ c = 45) : nms l ≠ [] := by
  obtain ⟨n, hn, hb⟩ := num_of l.length (fun j => if l[j]? = some 49 then 1 else 0) (fun j => by
    show (if l[j]? = some 49 then 1 else 0) = 0 ∨ (if l[j]? = some 49 then 1 else 0) = 1
    split <;> omega)
  intro e
  have : n ∈ nms l := by
    unfold nms
    rw [List.mem_filter, List.mem_range]
    refine ⟨hn, ?_⟩
    rw [tk_get]
    intro j hj
    rw [hb j hj]
    have hlj := hl _ (List.getElem_mem hj)
    show l[j] = 45 ∨ l[j] = 48 + (if l[j]? = some 49 then 1 else 0)
    rw [List.getElem?_eq_getElem hj]
    by_cases h49 : l[j] = 49
    · rw [if_pos (by rw [h49]), h49]; exact .inr rfl
    · rw [if_neg (fun z => h49 (Option.some.inj z))]; omega
  rw [e] at this
  cases this
/-- those of the one that are the other's -/
def both (l m : List Nat) : List Nat := (nms l).filter fun n => decide (n ∈ nms m)
theorem both_eq {l m : List Nat} (h : l.length = m.length) : both l m = (List.range (2 ^ l.length)).filter fun n => tk (bitN l.length n) l && tk (bitN l.length n) m := by
  unfold both nms
  rw [List.filter_filter]
  apply List.filter_congr
  intro n hn
  rw [← h]
  have hn' := List.mem_range.mp hn
  rw [Bool.and_comm]
  congr 1
  rw [Bool.eq_iff_iff, decide_eq_true_eq, List.mem_filter, List.mem_range]
  exact ⟨fun z => z.2, fun z => ⟨hn', z⟩⟩
theorem both_cmn {l m f : List Nat} (h : l.length = m.length) (e : cmn l m = some f) : nms f = both l m := by
  rw [both_eq h]
  unfold nms
  rw [cmn_len h e]
  apply List.filter_congr
  intro n _
  exact tk_cmn h e
theorem both_none {l m : List Nat} (h : l.length = m.length) (e : cmn l m = none) : both l m = [] := by
  rw [both_eq h, List.filter_eq_nil_iff]
  intro n _
  rw [cmn_none h e]
  exact Bool.false_ne_true
theorem both_wth {l m : List Nat} (h : l.length = m.length) (hl : ∀ c ∈ l, c = 48 ∨ c = 49 ∨ c = 45) (hm : ∀ c ∈ m, c = 48 ∨ c = 49 ∨ c = 45) : decide (both l m = nms l) = wth l m := by
  cases hw : wth l m with
  | true =>
    apply decide_eq_true
    unfold both
    rw [List.filter_eq_self]
    intro n hn
    unfold nms at hn ⊢
    rw [List.mem_filter, List.mem_range] at hn
    rw [decide_eq_true_eq, List.mem_filter, List.mem_range, ← h]
    exact ⟨hn.1, wth_tk h hw hn.2⟩
  | false =>
    apply decide_eq_false
    intro e
    obtain ⟨n, hn, h1, h2⟩ := wth_false h hl hm hw
    have : n ∈ nms l := by
      unfold nms
      rw [List.mem_filter, List.mem_range]
      exact ⟨hn, h1⟩
    rw [← e] at this
    unfold both nms at this
    rw [List.mem_filter, decide_eq_true_eq, List.mem_filter, ← h] at this
    have t2 := (List.mem_filter.mp this.2).2
    rw [h2] at t2
    exact absurd t2 Bool.false_ne_true
theorem both_comm {l m : List Nat} (h : l.length = m.length) : both m l = both l m := by
  rw [both_eq h, both_eq h.symm, h]
  apply List.filter_congr
  intro n _
  rw [Bool.and_comm]

/-! PS: sheets, in plain Lean. -/
theorem tb_one (n : Nat) : Nat.testBit 1 n = decide (n = 0) := by
  have := Nat.testBit_two_pow (n := 0) (m := n)
  rw [Nat.pow_zero] at this
  rw [this, decide_eq_decide]
  exact eq_comm
def sht : List Nat → Nat
  | [] => 1
  | c :: r => if c = 49 then sht r <<< 2 ^ r.length else if c = 45 then sht r ||| (sht r <<< 2 ^ r.length) else sht r
theorem tk_cons (b : Nat → Nat) (c : Nat) (r : List Nat) : tk b (c :: r) = ((decide (c = 45) || decide (c = 48 + b 0)) && tk (fun k => b (k + 1)) r) := by
  rw [Bool.eq_iff_iff, Bool.and_eq_true, tk_get, tk_get]
  simp only [Bool.or_eq_true, decide_eq_true_eq]
  constructor
  · intro h
    refine ⟨h 0 (by simp), fun k hk => ?_⟩
    have := h (k + 1) (by simp; omega)
    rwa [List.getElem_cons_succ] at this
  · rintro ⟨h1, h2⟩ k hk
    cases k with
    | zero => exact h1
    | succ k =>
      rw [List.getElem_cons_succ]
      exact h2 k (by simp at hk; omega)
theorem bitN_succ (W n k : Nat) : bitN (W + 1) n (k + 1) = bitN W n k := by
  unfold bitN
  have : W + 1 - 1 - (k + 1) = W - 1 - k := by omega
  rw [this]
theorem bitN_zero (W n : Nat) : bitN (W + 1) n 0 = n / 2 ^ W % 2 := by
  unfold bitN
  rw [show W + 1 - 1 - 0 = W by omega]
/-- a lane looks at its own bits alone -/
theorem tk_shift {r : List Nat} (n : Nat) : tk (bitN r.length (n + 2 ^ r.length)) r = tk (bitN r.length n) r := by
  rw [Bool.eq_iff_iff, tk_get, tk_get]
  have e : ∀ k, k < r.length → bitN r.length (n + 2 ^ r.length) k = bitN r.length n k := fun k hk => by
    unfold bitN
    have e1 : 2 ^ r.length = 2 ^ (r.length - 1 - k) * (2 * 2 ^ k) := by
      rw [← Nat.pow_succ', ← Nat.pow_add]
      congr 1
      omega
    rw [e1, Nat.add_mul_div_left _ _ (Nat.pow_pos (by decide)), Nat.add_mul_mod_self_left]
  constructor
  · intro h k hk
    have := h k hk
    rwa [e k hk] at this
  · intro h k hk
    rw [e k hk]
    exact h k hk
/-- of a lane with one more sign, by halves -/
theorem tk_half {c : Nat} {r : List Nat} {n : Nat} (h : n < 2 ^ r.length) : tk (bitN (r.length + 1) n) (c :: r) = ((decide (c = 45) || decide (c = 48)) && tk (bitN r.length n) r) := by
  rw [tk_cons, bitN_zero, Nat.div_eq_of_lt h]
  have e : (fun k => bitN (r.length + 1) n (k + 1)) = bitN r.length n := by funext k; exact bitN_succ _ _ _
  rw [e]
theorem tk_half2 {c : Nat} {r : List Nat} {n : Nat} (h : n < 2 ^ r.length) : tk (bitN (r.length + 1) (n + 2 ^ r.length)) (c :: r) = ((decide (c = 45) || decide (c = 49)) && tk (bitN r.length n) r) := by
  rw [tk_cons, bitN_zero]
  have e : (fun k => bitN (r.length + 1) (n + 2 ^ r.length) (k + 1)) = bitN r.length (n + 2 ^ r.length) := by funext k; exact bitN_succ _ _ _
  have e1 : (n + 2 ^ r.length) / 2 ^ r.length = 1 := by
    rw [Nat.add_div_right _ (Nat.pow_pos (by decide)), Nat.div_eq_of_lt h]
  rw [e, tk_shift, e1]
theorem sht_bit : ∀ (l : List Nat), (∀ c ∈ l, c = 48 ∨ c = 49 ∨ c = 45) → ∀ n, (sht l).testBit n = (decide (n < 2 ^ l.length) && tk (bitN l.length n) l)
  | [], _, n => by
    show Nat.testBit 1 n = _
    rw [tb_one]
    have : tk (bitN 0 n) [] = true := rfl
    show decide (n = 0) = (decide (n < 2 ^ 0) && tk (bitN 0 n) [])
    rw [this, Bool.and_true, decide_eq_decide]
    omega
  | c :: r, hl, n => by
    have hr : ∀ c ∈ r, c = 48 ∨ c = 49 ∨ c = 45 := fun d hd => hl d (List.mem_cons_of_mem _ hd)
    have ih := sht_bit r hr
    have hc := hl c (List.mem_cons_self ..)
    have hp : 0 < 2 ^ r.length := Nat.pow_pos (by decide)
    have h2 : 2 ^ (r.length + 1) = 2 ^ r.length + 2 ^ r.length := by rw [Nat.pow_succ]; omega
    show (if c = 49 then sht r <<< 2 ^ r.length else if c = 45 then sht r ||| (sht r <<< 2 ^ r.length) else sht r).testBit n = (decide (n < 2 ^ (r.length + 1)) && tk (bitN (r.length + 1) n) (c :: r))
    rcases Nat.lt_or_ge n (2 ^ r.length) with hn | hn
    · -- the lower half
      rw [tk_half hn, decide_eq_true (show n < 2 ^ (r.length + 1) by omega), Bool.true_and]
      have hs : (sht r <<< 2 ^ r.length).testBit n = false := by
        rw [Nat.testBit_shiftLeft, decide_eq_false (show ¬ n ≥ 2 ^ r.length by omega), Bool.false_and]
      have hi := ih n
      rw [decide_eq_true hn, Bool.true_and] at hi
      rcases hc with rfl | rfl | rfl
      · rw [if_neg (by decide), if_neg (by decide), hi]; simp
      · rw [if_pos rfl, hs]; simp
      · rw [if_neg (by decide), if_pos rfl, Nat.testBit_or, hs, hi]; simp
    · obtain ⟨k, rfl⟩ : ∃ k, n = k + 2 ^ r.length := ⟨n - 2 ^ r.length, by omega⟩
      have hs : (sht r <<< 2 ^ r.length).testBit (k + 2 ^ r.length) = (sht r).testBit k := by
        rw [Nat.testBit_shiftLeft, decide_eq_true (show k + 2 ^ r.length ≥ 2 ^ r.length by omega), Bool.true_and, Nat.add_sub_cancel]
      have hi := ih (k + 2 ^ r.length)
      rw [decide_eq_false (show ¬ k + 2 ^ r.length < 2 ^ r.length by omega), Bool.false_and] at hi
      have hj := ih k
      rcases Nat.lt_or_ge k (2 ^ r.length) with hk | hk
      · rw [tk_half2 hk, decide_eq_true (show k + 2 ^ r.length < 2 ^ (r.length + 1) by omega), Bool.true_and]
        rw [decide_eq_true hk, Bool.true_and] at hj
        rcases hc with rfl | rfl | rfl
        · rw [if_neg (by decide), if_neg (by decide), hi]; simp
        · rw [if_pos rfl, hs, hj]; simp
        · rw [if_neg (by decide), if_pos rfl, Nat.testBit_or, hs, hi, hj]; simp
      · rw [decide_eq_false (show ¬ k + 2 ^ r.length < 2 ^ (r.length + 1) by omega), Bool.false_and]
        rw [decide_eq_false (show ¬ k < 2 ^ r.length by omega), Bool.false_and] at hj
        rcases hc with rfl | rfl | rfl
        · rw [if_neg (by decide), if_neg (by decide), hi]
        · rw [if_pos rfl, hs, hj]
        · rw [if_neg (by decide), if_pos rfl, Nat.testBit_or, hs, hi, hj]; rfl
theorem sht_lt {l : List Nat} (hl : ∀ c ∈ l, c = 48 ∨ c = 49 ∨ c = 45) : sht l < 2 ^ 2 ^ l.length := by
  apply Nat.lt_pow_two_of_testBit
  intro i hi
  rw [sht_bit l hl, decide_eq_false (by omega), Bool.false_and]
/-! ### the numbers of a sheet -/
def bitsOf (s : Nat) : List Nat := (List.range s).filter s.testBit
theorem range_cut {t : Nat → Bool} {i : Nat} : ∀ N, i ≤ N → (∀ j, i ≤ j → t j = false) → (List.range N).filter t = (List.range i).filter t
  | 0, h, _ => by rw [show i = 0 by omega]
  | N + 1, h, hf => by
    by_cases e : i = N + 1
    · rw [e]
    · rw [List.range_succ, List.filter_append, List.filter_cons, hf N (by omega), range_cut N (by omega) hf]
      simp
theorem bits_cut {s N i : Nat} (h : s < 2 ^ N) (hi : s >>> i = 0) : (List.range N).filter s.testBit = (List.range i).filter s.testBit := by
  have hs : ∀ j, i ≤ j → s.testBit j = false := fun j hj => by
    have : s.testBit j = (s >>> i).testBit (j - i) := by rw [Nat.testBit_shiftRight]; congr 1; omega
    rw [this, hi, Nat.zero_testBit]
  have hN : ∀ j, N ≤ j → s.testBit j = false := fun j hj => Nat.testBit_lt_two_pow (Nat.lt_of_lt_of_le h (Nat.pow_le_pow_right (by decide) hj))
  rcases Nat.le_total i N with hle | hle
  · exact range_cut N hle hs
  · exact (range_cut i hle hN).symm
theorem bitsOf_eq {s N : Nat} (h : s < 2 ^ N) : bitsOf s = (List.range N).filter s.testBit := by
  unfold bitsOf
  have hz : s >>> s = 0 := by rw [Nat.shiftRight_eq_div_pow]; exact Nat.div_eq_of_lt Nat.lt_two_pow_self
  rw [bits_cut h hz]
theorem bitsOf_sht {l : List Nat} (hl : ∀ c ∈ l, c = 48 ∨ c = 49 ∨ c = 45) : bitsOf (sht l) = nms l := by
  rw [bitsOf_eq (sht_lt hl)]
  unfold nms
  apply List.filter_congr
  intro n hn
  rw [sht_bit l hl, decide_eq_true (List.mem_range.mp hn), Bool.true_and]
/-! ### the sheet of numbers -/
def sof (xs : List Nat) : Nat := xs.foldl (fun a n => a ||| (1 <<< n)) 0
theorem fold_bit (n : Nat) : ∀ (xs : List Nat) (a : Nat), (xs.foldl (fun a n => a ||| (1 <<< n)) a).testBit n = (a.testBit n || decide (n ∈ xs))
  | [], a => by simp
  | x :: xs, a => by
    rw [List.foldl_cons, fold_bit n xs, Nat.testBit_or, Nat.testBit_shiftLeft, tb_one, Bool.or_assoc]
    congr 1
    rw [Bool.eq_iff_iff, Bool.or_eq_true, Bool.and_eq_true, decide_eq_true_eq, decide_eq_true_eq, decide_eq_true_eq, decide_eq_true_eq, List.mem_cons]
    constructor
    · rintro (⟨h1, h2⟩ | h)
      · exact .inl (by omega)
      · exact .inr h
    · rintro (h | h)
      · exact .inl ⟨by omega, by omega⟩
      · exact .inr h
theorem sof_bit (xs : List Nat) (n : Nat) : (sof xs).testBit n = decide (n ∈ xs) := by
  unfold sof
  rw [fold_bit, Nat.zero_testBit, Bool.false_or]
theorem mem_nms {l : List Nat} {n : Nat} : n ∈ nms l ↔ n < 2 ^ l.length ∧ tk (bitN l.length n) l = true := by
  unfold nms
  rw [List.mem_filter, List.mem_range]
theorem sof_sht {l xs : List Nat} (hl : ∀ c ∈ l, c = 48 ∨ c = 49 ∨ c = 45) (h : ∀ n, n ∈ xs ↔ n ∈ nms l) : sof xs = sht l := by
  apply Nat.eq_of_testBit_eq
  intro n
  rw [sof_bit, sht_bit l hl, Bool.eq_iff_iff, Bool.and_eq_true, decide_eq_true_eq, decide_eq_true_eq, h, mem_nms]
theorem sof_lt {xs : List Nat} {N : Nat} (h : ∀ n ∈ xs, n < N) : sof xs < 2 ^ N := by
  apply Nat.lt_pow_two_of_testBit
  intro i hi
  rw [sof_bit]
  exact decide_eq_false fun z => by have := h i z; omega
/-! ### the least bit -/
theorem low_bit : ∀ (k s : Nat), s.testBit k = true → (∀ j, j < k → s.testBit j = false) → s - (s &&& (s - 1)) = 2 ^ k
  | 0, s, h, _ => by
    rw [Nat.testBit_zero, decide_eq_true_eq] at h
    have e : s &&& (s - 1) = s - 1 := by
      have h1 : (s &&& (s - 1)) / 2 = s / 2 := by
        rw [Nat.and_div_two]
        have : (s - 1) / 2 = s / 2 := by omega
        rw [this, Nat.and_self]
      have h2 : (s &&& (s - 1)) % 2 = 0 := by
        rcases Nat.mod_two_eq_zero_or_one (s &&& (s - 1)) with z | z
        · exact z
        · have := (Nat.and_mod_two_eq_one).mp z
          omega
      omega
    rw [e]
    omega
  | k + 1, s, h, hl => by
    have h0 := hl 0 (by omega)
    rw [Nat.testBit_zero, decide_eq_false_iff_not] at h0
    have hk : (s / 2).testBit k = true := by rw [← Nat.testBit_succ]; exact h
    have ih := low_bit k (s / 2) hk fun j hj => by rw [← Nat.testBit_succ]; exact hl (j + 1) (by omega)
    have hs : 0 < s / 2 := by
      rcases Nat.eq_zero_or_pos (s / 2) with z | z
      · rw [z, Nat.zero_testBit] at hk; cases hk
      · exact z
    have e1 : (s &&& (s - 1)) / 2 = s / 2 &&& (s / 2 - 1) := by
      rw [Nat.and_div_two]
      have : (s - 1) / 2 = s / 2 - 1 := by omega
      rw [this]
    have e2 : (s &&& (s - 1)) % 2 = 0 := by
      rcases Nat.mod_two_eq_zero_or_one (s &&& (s - 1)) with z | z
      · exact z
      · have := (Nat.and_mod_two_eq_one).mp z
        omega
    have e3 : s / 2 &&& (s / 2 - 1) ≤ s / 2 := Nat.and_le_left
    rw [Nat.pow_succ]
    omega
/-! ### how many -/
theorem nms_cons {c : Nat} {r : List Nat} : (nms (c :: r)).length = (if c = 45 ∨ c = 48 then (nms r).length else 0) + (if c = 45 ∨ c = 49 then (nms r).length else 0) := by
  unfold nms
  have h2 : 2 ^ (c :: r).length = 2 ^ r.length + 2 ^ r.length := by rw [List.length_cons, Nat.pow_succ]; omega
  rw [h2, List.range_add, List.filter_append, List.length_append]
  congr 1
  · have e : (List.range (2 ^ r.length)).filter (fun n => tk (bitN (c :: r).length n) (c :: r)) = (List.range (2 ^ r.length)).filter (fun n => (decide (c = 45) || decide (c = 48)) && tk (bitN r.length n) r) := by
      apply List.filter_congr
      intro n hn
      exact tk_half (List.mem_range.mp hn)
    rw [e]
    split
    · rename_i h
      have : (decide (c = 45) || decide (c = 48)) = true := by simpa using h
      simp only [this, Bool.true_and]
    · rename_i h
      have : (decide (c = 45) || decide (c = 48)) = false := by rw [← Bool.not_eq_true]; simpa using h
      simp only [this, Bool.false_and]
      simp
  · rw [List.filter_map, List.length_map]
    have e : (List.range (2 ^ r.length)).filter ((fun n => tk (bitN (c :: r).length n) (c :: r)) ∘ (2 ^ r.length + ·)) = (List.range (2 ^ r.length)).filter (fun n => (decide (c = 45) || decide (c = 49)) && tk (bitN r.length n) r) := by
      apply List.filter_congr
      intro n hn
      show tk (bitN (r.length + 1) (2 ^ r.length + n)) (c :: r) = _
      rw [Nat.add_comm (2 ^ r.length) n]
      exact tk_half2 (List.mem_range.mp hn)
    rw [e]
    split
    · rename_i h
      have : (decide (c = 45) || decide (c = 49)) = true := by simpa using h
      simp only [this, Bool.true_and]
    · rename_i h
      have : (decide (c = 45) || decide (c = 49)) = false := by rw [← Bool.not_eq_true]; simpa using h
      simp only [this, Bool.false_and]
      simp
theorem nms_pow : ∀ (l : List Nat), (∀ c ∈ l, c = 48 ∨ c = 49 ∨ c = 45) → (nms l).length = 2 ^ l.count 45
  | [], _ => rfl
  | c :: r, hl => by
    have ih := nms_pow r fun d hd => hl d (List.mem_cons_of_mem _ hd)
    rw [nms_cons, ih, List.count_cons]
    rcases hl c (List.mem_cons_self ..) with rfl | rfl | rfl
    · simp
    · simp
    · simp [Nat.pow_succ]; omega
theorem sub_and (s : Nat) : ∀ t, s - (s &&& t) = s ^^^ (s &&& t) := by
  induction s using Nat.strongRecOn with
  | _ s ih =>
    intro t
    by_cases h : s = 0
    · subst h; simp
    · have ih' := ih (s / 2) (by omega) (t / 2)
      have e1 : (s &&& t) / 2 = s / 2 &&& t / 2 := Nat.and_div_two
      have e2 : (s ^^^ (s &&& t)) / 2 = s / 2 ^^^ (s / 2 &&& t / 2) := by rw [Nat.xor_div_two, e1]
      have l1 : s &&& t ≤ s := Nat.and_le_left
      have l2 : s / 2 &&& t / 2 ≤ s / 2 := Nat.and_le_left
      have e3 := @Nat.xor_mod_two_eq_one s (s &&& t)
      have e4 := @Nat.and_mod_two_eq_one s t
      rw [← e1] at ih' l2 e2
      generalize (s &&& t) = u at *
      generalize (s ^^^ u) = v at *
      rw [← e2] at ih'
      have a1 : u % 2 = 1 → s % 2 = 1 := fun h => (e4.mp h).1
      have a2 : v % 2 = 1 ↔ ¬ (s % 2 = 1 ↔ u % 2 = 1) := e3
      rcases Nat.mod_two_eq_zero_or_one s with hs | hs <;> rcases Nat.mod_two_eq_zero_or_one u with hu | hu <;> rcases Nat.mod_two_eq_zero_or_one v with hv | hv <;> simp [hs, hu, hv] at a1 a2 <;> omega
theorem sub_and_bit (s t n : Nat) : (s - (s &&& t)).testBit n = (s.testBit n && !t.testBit n) := by
  rw [sub_and, Nat.testBit_xor, Nat.testBit_and]
  cases s.testBit n <;> cases t.testBit n <;> rfl
theorem find_congr {α : Type} {p q : α → Bool} : ∀ {l : List α}, (∀ a ∈ l, p a = q a) → l.find? p = l.find? q
  | [], _ => rfl
  | a :: l, h => by
    rw [List.find?_cons, List.find?_cons, h a (List.mem_cons_self ..), find_congr fun b m => h b (List.mem_cons_of_mem _ m)]

/-! LG: signs, bits, ranges. -/
def Ln (l : List Nat) : Prop := ∀ c ∈ l, c = 48 ∨ c = 49 ∨ c = 45
theorem Ln.nil : Ln [] := fun _ h => nomatch h
theorem Ln.snoc {l : List Nat} {c : Nat} (h : Ln l) (hc : c = 48 ∨ c = 49 ∨ c = 45) : Ln (l ++ [c]) := fun d hd => by
  rcases List.mem_append.mp hd with h' | h'
  · exact h d h'
  · rw [List.mem_singleton.mp h']; exact hc
theorem Ln.set {l : List Nat} {c k : Nat} (h : Ln l) (hc : c = 48 ∨ c = 49 ∨ c = 45) : Ln (l.set k c) := fun d hd => by
  rcases List.mem_or_eq_of_mem_set hd with h' | h'
  · exact h d h'
  · rw [h']; exact hc
abbrev sgs (l : List Nat) : List D := l.map fun c => D.str [c]
theorem sgs_set {l : List Nat} {c k : Nat} : (sgs l).set k (.str [c]) = sgs (l.set k c) := by
  unfold sgs; rw [List.map_set]
theorem sgs_snoc {l : List Nat} {c : Nat} : sgs l ++ [.str [c]] = sgs (l ++ [c]) := by
  unfold sgs; rw [List.map_append]; rfl
theorem rng0 (j : Int) : rngD 0 j = (List.range j.toNat).map fun (i : Nat) => D.int (i : Int) := by
  unfold rngD
  rw [Int.sub_zero]
  apply List.map_congr_left
  intro i _
  rw [Int.zero_add]
theorem rng0_len (j : Int) : (rngD 0 j).length = j.toNat := by rw [rng0, List.length_map, List.length_range]
theorem in2 {r : Int} (h0 : 0 ≤ r) (h : r < 2) : ∃ c, (c = 48 ∨ c = 49) ∧ atI [D.str [48], D.str [49]] r = some (D.str [c]) := by
  have : r = 0 ∨ r = 1 := by omega
  rcases this with rfl | rfl
  · exact ⟨48, .inl rfl, rfl⟩
  · exact ⟨49, .inr rfl, rfl⟩
theorem in3 {r : Int} (h0 : 0 ≤ r) (h : r < 3) : ∃ c, (c = 48 ∨ c = 49 ∨ c = 45) ∧ atI [D.str [48], D.str [49], D.str [45]] r = some (D.str [c]) := by
  have : r = 0 ∨ r = 1 ∨ r = 2 := by omega
  rcases this with rfl | rfl | rfl
  · exact ⟨48, .inl rfl, rfl⟩
  · exact ⟨49, .inr (.inl rfl), rfl⟩
  · exact ⟨45, .inr (.inr rfl), rfl⟩
theorem in4 {r : Int} (h0 : 0 ≤ r) (h : r < 4) : ∃ c, (c = 48 ∨ c = 49 ∨ c = 45) ∧ atI [D.str [48], D.str [49], D.str [45], D.str [45]] r = some (D.str [c]) := by
  have : r = 0 ∨ r = 1 ∨ r = 2 ∨ r = 3 := by omega
  rcases this with rfl | rfl | rfl | rfl
  · exact ⟨48, .inl rfl, rfl⟩
  · exact ⟨49, .inr (.inl rfl), rfl⟩
  · exact ⟨45, .inr (.inr rfl), rfl⟩
  · exact ⟨45, .inr (.inr rfl), rfl⟩
theorem str0' : unS ((toString (0 : Int) : String) : Str) = [48] := by decide +kernel
theorem str1' : unS ((toString (1 : Int) : String) : Str) = [49] := by decide +kernel
theorem o_strB {P : D → Prop} {i : Int} {k : Nat} (hk : i = (k : Int)) (h : k < 2) (q : P (.str [48 + k])) : OkP (oStr [.int i]) P := by
  subst hk
  have : k = 0 ∨ k = 1 := by omega
  rcases this with rfl | rfl
  · exact ⟨.str [48], by
      show (if (0 : Int).natAbs < 2 ^ 1000 then some (D.str (unS ((toString (0 : Int) : String) : Str))) else none) = _
      rw [if_pos (by decide), str0'], q⟩
  · exact ⟨.str [49], by
      show (if (1 : Int).natAbs < 2 ^ 1000 then some (D.str (unS ((toString (1 : Int) : String) : Str))) else none) = _
      rw [if_pos (by decide), str1'], q⟩
def bitsL (W n : Nat) : List Nat := (List.range W).map fun k => 48 + bitN W n k
theorem bitN_lt (W n k : Nat) : bitN W n k < 2 := Nat.mod_lt _ (by decide)
theorem bitsL_len (W n : Nat) : (bitsL W n).length = W := by unfold bitsL; rw [List.length_map, List.length_range]
theorem bit_int (W n k : Nat) (hk : k < W) : (n : Int) / 2 ^ ((W : Int) - 1 - (k : Int)).toNat % 2 = ((bitN W n k : Nat) : Int) := by
  unfold bitN
  have e : ((W : Int) - 1 - (k : Int)).toNat = W - 1 - k := by omega
  rw [e]
  push_cast
  rfl
theorem pow_lim {k : Nat} (h : k ≤ 90) : (0 : Int) < 2 ^ k ∧ (2 : Int) ^ k < 1267650600228229401496703205376 := by
  have h1 : (2 : Nat) ^ k ≤ 2 ^ 90 := Nat.pow_le_pow_right (by decide) h
  have h2 : 0 < (2 : Nat) ^ k := Nat.pow_pos (by decide)
  have e : ((2 ^ k : Nat) : Int) = (2 : Int) ^ k := by push_cast; rfl
  constructor
  · rw [← e]; omega
  · rw [← e]; omega
theorem int48' : PySem.intText? (S [48]) = some 0 := by decide +kernel
theorem int49' : PySem.intText? (S [49]) = some 1 := by decide +kernel
theorem o_intSg {P : D → Prop} {c : Nat} (h : c = 48 ∨ c = 49) (q : P (.int ((c - 48 : Nat) : Int))) : OkP (oInt [.str [c]]) P := by
  rcases h with rfl | rfl
  · exact ⟨_, by
      show (if ([48] : List Nat).length ≤ 640 then (PySem.intText? (S [48])).bind (fun i => some (D.int i)) else none) = _
      rw [if_pos (by decide), int48']; rfl, q⟩
  · exact ⟨_, by
      show (if ([49] : List Nat).length ≤ 640 then (PySem.intText? (S [49])).bind (fun i => some (D.int i)) else none) = _
      rw [if_pos (by decide), int49']; rfl, q⟩
theorem enum_sgs (l : List Nat) : enumD 0 (sgs l) = (List.range l.length).map fun (k : Nat) => D.tup [.int (k : Int), .str [l.getD k 0]] := by
  apply List.ext_getElem?
  intro i
  rw [enumD_get, List.getElem?_map, List.getElem?_map]
  by_cases h : i < l.length
  · rw [List.getElem?_eq_getElem h, List.getElem?_range h]
    simp [List.getD_eq_getElem?_getD, h]
  · rw [List.getElem?_eq_none (by omega), List.getElem?_eq_none (by rw [List.length_range]; omega)]
    rfl
theorem zip_sgs (l b : List Nat) : zipD (sgs l) (sgs b) = (l.zip b).map fun p => D.tup [.str [p.1], .str [p.2]] := by
  unfold zipD sgs
  rw [List.zipWith_map, List.zip, List.map_zipWith]
theorem eq1 (c d : Nat) : (([c] : List Nat) == [d]) = decide (c = d) := by
  rw [Bool.eq_iff_iff]; simp
theorem count_S (l : List Nat) (c : Nat) : Txt.count (S l) (S [c]) = ((l.count c : Nat) : Int) := by
  have e : Txt.count (S l) (S [c]) = cnt c l := count_cnt (S l) c
  rw [e]
  clear e
  induction l with
  | nil => simp [cnt_nil]
  | cons a l ih =>
    rw [cnt_cons, ih, List.count_cons]
    by_cases h : a = c
    · subst h; simp; omega
    · have h2 : ¬ c = a := fun z => h z.symm
      simp [h, h2]
theorem o_count {P : D → Prop} {l : List Nat} {c : Nat} (q : P (.int ((l.count c : Nat) : Int))) : OkP (oCount (.str l) [.str [c]]) P := ⟨_, by
  show some (D.int (Txt.count (S l) (S [c]))) = _
  rw [count_S], q⟩
abbrev numsD (l : List Nat) : List D := l.map fun (k : Nat) => D.int (k : Int)
def Bts (l : List Nat) : Prop := ∀ c ∈ l, c = 48 ∨ c = 49
theorem Bts.ln {l : List Nat} (h : Bts l) : Ln l := fun c hc => (h c hc).imp id .inl
theorem Bts.snoc {l : List Nat} {c : Nat} (h : Bts l) (hc : c = 48 ∨ c = 49) : Bts (l ++ [c]) := fun d hd => by
  rcases List.mem_append.mp hd with h' | h'
  · exact h d h'
  · rw [List.mem_singleton.mp h']; exact hc
def tkL (l b : List Nat) : Bool := (l.zip b).all fun p => decide (p.1 = 45) || decide (p.1 = p.2)
theorem tkL_bits {W n : Nat} {l : List Nat} (hl : l.length = W) : tkL l (bitsL W n) = tk (bitN W n) l := by
  unfold tkL tk
  rw [Bool.eq_iff_iff, List.all_eq_true, List.all_eq_true]
  have hz : ∀ k (hk : k < l.length), (l.zip (bitsL W n))[k]? = some (l[k], 48 + bitN W n k) := fun k hk => by
    rw [List.zip, List.getElem?_zipWith, List.getElem?_eq_getElem hk]
    unfold bitsL
    rw [List.getElem?_map, List.getElem?_range (by omega)]
    rfl
  constructor
  · intro h k hk
    have hk' := List.mem_range.mp hk
    have := h _ (List.mem_of_getElem? (hz k hk'))
    rw [List.getElem?_eq_getElem hk']
    simpa using this
  · intro h p hp
    obtain ⟨k, hk⟩ := List.getElem?_of_mem hp
    have hk' : k < l.length := by
      have := (List.getElem?_eq_some_iff.mp hk).1
      rw [List.length_zip] at this
      omega
    rw [hz k hk'] at hk
    cases hk
    have := h k (List.mem_range.mpr hk')
    rw [List.getElem?_eq_getElem hk'] at this
    simpa using this
theorem cutL_part {α : Type} (l : List α) (a w : Nat) (h : a + w ≤ l.length) : cutL l (some (a : Int)) (some ((a : Int) + (w : Int))) = (l.drop a).take w := by
  have e1 : ∀ d, HT.sIx l.length d (some (a : Int)) = a := fun d => by rw [HT.sIx_nat]; omega
  have e2 : ∀ d, HT.sIx l.length d (some ((a : Int) + (w : Int))) = a + w := fun d => by rw [show (a : Int) + (w : Int) = ((a + w : Nat) : Int) by push_cast; rfl, HT.sIx_nat]; omega
  unfold cutL
  rw [e1, e2, Nat.add_sub_cancel_left]
theorem cutL_to {α : Type} (l : List α) (k : Nat) : cutL l none (some (k : Int)) = l.take k := by
  unfold cutL
  rw [HT.sIx_nat, HT.sIx_none, List.drop_zero, Nat.sub_zero]
  by_cases h : k ≤ l.length
  · rw [Nat.min_eq_left h]
  · rw [Nat.min_eq_right (by omega), List.take_length, List.take_of_length_le (by omega)]
/-! bits of numbers -/
section
variable {P : D → Prop}
theorem o_shlN {s j N : Nat} (h : s < 2 ^ N) (hN : N ≤ 100000) (hj : j ≤ 1000000) (q : P (.int ((s <<< j : Nat) : Int))) : OkP (oShl (.int (s : Int)) (.int (j : Int))) P := by
  refine o_shl ⟨by omega, lt_big (k := N) (by rw [Int.toNat_natCast]; exact h) hN, by omega, by omega⟩ ?_
  have e : ((s <<< j : Nat) : Int) = (s : Int) * 2 ^ ((j : Int)).toNat := by rw [Nat.shiftLeft_eq]; push_cast; rw [Int.toNat_natCast]
  rw [← e]
  exact q
theorem o_orN {s t : Nat} (q : P (.int ((s ||| t : Nat) : Int))) : OkP (oOr (.int (s : Int)) (.int (t : Int))) P := o_or (by rw [bor_nat]; exact q)
theorem o_and1 {s : Nat} (q : P (.int ((s % 2 : Nat) : Int))) : OkP (oAnd (.int (s : Int)) (.int 1)) P := o_and (by
  have := band_nat s 1
  rw [Nat.and_one_is_mod] at this
  show P (.int (Builtin.bitAnd (s : Int) ((1 : Nat) : Int)))
  rw [this]; exact q)
theorem o_shr1 {s : Nat} (q : P (.int ((s >>> 1 : Nat) : Int))) : OkP (oShr (.int (s : Int)) (.int 1)) P := o_shr (by decide) (by
  have e : ((s >>> 1 : Nat) : Int) = (s : Int) / 2 ^ ((1 : Int)).toNat := by rw [Nat.shiftRight_eq_div_pow]; push_cast; rfl
  rw [← e]; exact q)
end
theorem s_forD {pg : PG'} {ps : PS'} {N : Env → Prop} {T : D → Env → Prop} {TN : Ob → Env → Prop} (I : Nat → Env → Prop) {l : List D} {e : Env} (h0 : I 0 e) (hs : ∀ (j : Nat) (a : D) (e : Env), l[j]? = some a → I j e → OkP (pg a e) fun e1 => SW (ps e1) (I (j + 1)) T TN) (hd : ∀ e, I l.length e → N e) : SW (pfor pg ps l e) N T TN := by
  have := s_forI (pg := pg) (ps := ps) (N := N) (T := T) (TN := TN) (fun d : D => d) I (l := l) h0 hs hd
  rw [show l.map (fun d : D => d) = l from List.map_id l] at this
  exact this
theorem cutL_from {α : Type} (l : List α) (k : Nat) : cutL l (some (k : Int)) none = l.drop k := by
  unfold cutL
  rw [HT.sIx_nat, HT.sIx_none]
  by_cases h : k ≤ l.length
  · rw [Nat.min_eq_left h, List.take_of_length_le (by rw [List.length_drop]; omega)]
  · rw [Nat.min_eq_right (by omega), List.drop_length, List.drop_of_length_le (by omega), List.take_nil]
theorem cutL_mid {α : Type} (l : List α) (a b : Nat) : cutL l (some (a : Int)) (some (b : Int)) = (l.take b).drop a := by
  unfold cutL
  rw [HT.sIx_nat, HT.sIx_nat, List.drop_take]
  by_cases h : a ≤ l.length
  · rw [Nat.min_eq_left h]
    by_cases h2 : b ≤ l.length
    · rw [Nat.min_eq_left h2]
    · rw [Nat.min_eq_right (by omega), List.take_of_length_le (by rw [List.length_drop]; omega), List.take_of_length_le (by rw [List.length_drop]; omega)]
  · rw [Nat.min_eq_right (show l.length ≤ a by omega), List.drop_length, List.drop_of_length_le (show l.length ≤ a by omega), List.take_nil, List.take_nil]
theorem nums_snocI {ms : List Nat} {r : Int} (h : 0 ≤ r) : numsD ms ++ [D.int r] = numsD (ms ++ [r.toNat]) := by
  unfold numsD
  rw [List.map_append]
  show _ = _ ++ [D.int ((r.toNat : Nat) : Int)]
  rw [Int.toNat_of_nonneg h]
theorem nums_snocN (ms : List Nat) (r : Nat) : numsD (ms ++ [r]) = numsD ms ++ [D.int (r : Int)] := by
  unfold numsD
  rw [List.map_append]
  rfl

/-! LP: what a lane takes, by the program. -/
/-! LC: how many, sheets. -/
theorem t_sheet {l : List Nat} {P : D → Prop} (hln : Ln l) (h : l.length ≤ 14) (q : P (.int ((sht l : Nat) : Int))) : OkP (f_sheet [.str l]) P := by
  refine f0_of rfl ?_
  unfold bd_sheet
  repeat walk_at "p"
  refine k_revS1 (by omega) ?_
  refine s_forI (fun c => D.str [c]) (fun j e => ∃ z : Option D, e = [some (.v (.str l)), some (.v (.int ((sht (l.drop (l.length - j)) : Nat) : Int))), some (.v (.int ((2 ^ j : Nat) : Int))), z.map C.v]) ⟨none, by rw [Nat.sub_zero, List.drop_length]; rfl⟩ ?_ ?_
  · rintro j c e hj ⟨z, rfl⟩
    have hjl : j < l.length := by
      have := (List.getElem?_eq_some_iff.mp hj).1
      rw [List.length_reverse] at this
      exact this
    rw [List.getElem?_reverse hjl] at hj
    have hg : l.drop (l.length - (j + 1)) = c :: l.drop (l.length - j) := by
      have hlt : l.length - 1 - j < l.length := by omega
      have e1 : l.length - (j + 1) = l.length - 1 - j := by omega
      rw [e1, List.drop_eq_getElem_cons hlt]
      have e2 : l[l.length - 1 - j] = c := by
        rw [List.getElem?_eq_getElem hlt] at hj
        exact Option.some.inj hj
      rw [e2]
      congr 2
      omega
    have hrl : (l.drop (l.length - j)).length = j := by rw [List.length_drop]; omega
    have hrn : ∀ c ∈ l.drop (l.length - j), c = 48 ∨ c = 49 ∨ c = 45 := fun c hc => hln c (List.mem_of_mem_drop hc)
    have hlt := sht_lt hrn
    rw [hrl] at hlt
    have hp : 2 ^ j ≤ 2 ^ 14 := Nat.pow_le_pow_right (by decide) (by omega)
    have hcc := hln c (List.mem_of_getElem? hj)
    have e2 : ((2 ^ (j + 1) : Nat) : Int) = ((2 ^ j : Nat) : Int) * 2 := by rw [Nat.pow_succ]; push_cast; rfl
    generalize hs : sht (l.drop (l.length - j)) = s at hlt
    repeat walk_at "p"
    refine k_ite (fun e1 => ?_) (fun e1 => ?_)
    · have c49 : c = 49 := by simpa using e1
      repeat walk_at "p"
      refine o_shlN hlt (by omega) (by omega) ⟨rfl, ?_⟩
      repeat walk_at "p"
      refine o_imulI (.inr ⟨by decide, by decide⟩) ⟨rfl, some (.str [c]), ?_⟩
      rw [hg, sht, if_pos c49, hrl, hs, e2]
      rfl
    · have c49 : ¬ c = 49 := by simpa using e1
      repeat walk_at "p"
      refine k_ite (fun e1 => ?_) (fun e1 => ?_)
      · have c45 : c = 45 := by simpa using e1
        repeat walk_at "p"
        refine o_shlN hlt (by omega) (by omega) ?_
        refine o_orN ⟨rfl, ?_⟩
        repeat walk_at "p"
        refine o_imulI (.inr ⟨by decide, by decide⟩) ⟨rfl, some (.str [c]), ?_⟩
        rw [hg, sht, if_neg c49, if_pos c45, hrl, hs, e2]
        rfl
      · have c45 : ¬ c = 45 := by simpa using e1
        repeat walk_at "p"
        refine o_imulI (.inr ⟨by decide, by decide⟩) ⟨rfl, some (.str [c]), ?_⟩
        rw [hg, sht, if_neg c49, if_neg c45, hs, e2]
        rfl
  · rintro e ⟨z, rfl⟩
    rw [List.length_reverse, Nat.sub_self, List.drop_zero]
    repeat walk_at "p"
    exact q
theorem tb_mod (s i : Nat) : s.testBit i = decide ((s >>> i) % 2 = 1) := by
  rw [Nat.testBit, Nat.one_and_eq_mod_two]
  rw [Bool.eq_iff_iff, bne_iff_ne, decide_eq_true_eq]
  omega
theorem t_sheetof {d : D} {xs : List Nat} {N : Nat} {P : D → Prop} (hd : itm d = some (numsD xs)) (h : ∀ x ∈ xs, x < N) (hN : N ≤ 20000) (q : P (.int ((sof xs : Nat) : Int))) : OkP (f_sheet_of [d]) P := by
  refine f0_of rfl ?_
  unfold bd_sheet_of
  repeat walk_at "p"
  refine ⟨_, hd, ?_⟩
  refine s_forI (fun (k : Nat) => D.int (k : Int)) (fun j e => ∃ z : Option D, e = [some (.v d), some (.v (.int ((sof (xs.take j) : Nat) : Int))), z.map C.v]) ⟨none, rfl⟩ ?_ ?_
  · rintro j x e hj ⟨z, rfl⟩
    have hx := h x (List.mem_of_getElem? hj)
    repeat walk_at "p"
    have e0 : (2 : Int) ^ ((x : Int)).toNat = ((1 <<< x : Nat) : Int) := by rw [Nat.shiftLeft_eq, Nat.one_mul]; push_cast; rw [Int.toNat_natCast]
    rw [e0]
    refine o_orN ⟨rfl, some (.int (x : Int)), ?_⟩
    have e : sof (xs.take (j + 1)) = sof (xs.take j) ||| 1 <<< x := by
      unfold sof
      rw [List.take_succ, hj, List.foldl_append]
      rfl
    rw [e]
    rfl
  · rintro e ⟨z, rfl⟩
    rw [List.take_length]
    repeat walk_at "p"
    exact q

/-! LT2: a number's bits (k10, k26 and their like). -/
/-- a number's bits -/
theorem t_bits {W n : Nat} {P : D → Prop} (hW : W ≤ 1000) (q : P (.str (bitsL W n))) : OkP (f_bits [.int (W : Nat), .int (n : Nat)]) P := by
  refine f0_of rfl ?_
  unfold bd_bits
  repeat walk_at "p"
  refine k_len (by rw [rng0_len]; omega) ?_
  rw [rng0]
  have hWn : ((W : Int)).toNat = W := by omega
  rw [hWn]
  refine k_lcP_map (fun (i : Nat) => D.int (i : Int)) (fun k => D.str [48 + bitN W n k]) ?_ ?_
  · intro k hk
    have hk' := List.mem_range.mp hk
    repeat walk_at "p"
    refine ⟨rfl, ?_⟩
    repeat walk_at "p"
    refine o_shr (by omega) ?_
    have e : (n : Int) / 2 ^ ((W : Int) - 1 - (k : Int)).toNat = ((n / 2 ^ (W - 1 - k) : Nat) : Int) := by
      rw [show ((W : Int) - 1 - (k : Int)).toNat = W - 1 - k by omega]
      push_cast
      rfl
    rw [e]
    repeat walk_at "p"
    refine o_and1 ?_
    repeat walk_at "p"
    exact o_strB rfl (bitN_lt W n k) rfl
  · repeat walk_at "p"
    refine o_joinSg (l := bitsL W n) ?_ (by rw [bitsL_len]; omega) q
    unfold bitsL
    rw [List.map_map]
    rfl

/-! T4: what numbers are drawn from (k10 and its like); stretches drawn. -/
theorem t_take {c : Nat} {m : Int} {ob : Ob} {P : D × Ob → Prop} (hb : Bo c ob) (hc : c < 2 ^ 40) (h0 : 0 < m) (h1 : m < 2 ^ 30) (q : ∀ r ob', 0 ≤ r → r < m → Bo (c + 1) ob' → P (.int r, ob')) : OkP (f_take [none, some (.int m)] ob) P := by
  obtain ⟨x, y, z, rfl, hx, hy, hy', hz, hzc⟩ := hb
  refine f1_of rfl rfl ?_
  unfold bd_take
  walk_at "w"
  refine k_ite (fun e => ?_) (fun e => ?_)
  · walk_at "w"
    refine s_sub1 rfl rfl ?_
    walk_at "w"
    exact ⟨_, rfl, q _ _ (Int.emod_nonneg _ (by omega)) (Int.emod_lt_of_pos _ h0) ⟨x / m, y, z, rfl, Int.ediv_nonneg hx (by omega), hy, hy', hz, by omega⟩⟩
  · walk_at "w"
    refine s_sub1 rfl rfl ?_
    walk_at "w"
    exact ⟨_, rfl, q _ _ (Int.emod_nonneg _ (by omega)) (Int.emod_lt_of_pos _ h0) ⟨x, y, z + 1, rfl, hx, hy, hy', by omega, by omega⟩⟩
theorem t_cells {ns : List Int} {m : Nat} {P : List D → Prop} (h0 : 1 ≤ m) (h1 : m ≤ 60) (hn : ns.length ≤ 63) (q : ∀ cs : List Int, 1 ≤ cs.length → cs.length ≤ m → P (cs.map D.int)) : OkP (f_cells [.scr ns, .int (m : Nat)]) P := by
  refine f0N_of rfl ?_
  unfold bd_cells
  refine s_mid (fun e => ∃ cs : List Int, 1 ≤ cs.length ∧ cs.length ≤ m ∧ (m < ns.length → cs.length = m) ∧ e = [some (.v (.scr ns)), some (.v (.int (m : Nat))), some (.m (.l (cs.map D.int))), none, none]) ?_ ?_
  · walk_at "w"
    rw [cutL_to]
    cases ns with
    | nil =>
      rw [List.take_nil]
      refine k_iteT rfl ?_
      walk_at "w"
      exact ⟨[0], by decide, by simpa using h0, fun h => absurd h (by simp), rfl⟩
    | cons a ns =>
      refine k_iteF (by rw [List.isEmpty_map]; cases m with | zero => omega | succ m => rfl) ?_
      walk_at "w"
      refine ⟨(a :: ns).take m, ?_, ?_, fun h => ?_, rfl⟩
      · rw [List.length_take, List.length_cons]; omega
      · rw [List.length_take]; omega
      · rw [List.length_take]; omega
  · rintro e ⟨cs, hc0, hc1, hc2, rfl⟩
    walk_at "w"
    rw [show (63 : Int) = ((63 : Nat) : Int) from rfl, cutL_mid]
    refine k_enum1 rfl ?_
    refine s_forD (fun _ e => ∃ cs' : List Int, cs'.length = cs.length ∧ ∃ x0 x1 : Option C, nio x0 ∧ nio x1 ∧ e = [some (.v (.scr ns)), some (.v (.int (m : Nat))), some (.m (.l (cs'.map D.int))), x0, x1]) ⟨cs, rfl, ⟨_, _, by walk_at "n", by walk_at "n", rfl⟩⟩ ?_ ?_
    · rintro j a e hj ⟨cs', hl, ⟨x0, x1, sx0, sx1, rfl⟩⟩
      rw [enumD_get, List.getElem?_map] at hj
      cases hv : ((ns.take 63).drop m)[j]? with
      | none => rw [hv] at hj; cases hj
      | some v =>
        rw [hv] at hj
        cases hj
        have hj1 : j < ((ns.take 63).drop m).length := (List.getElem?_eq_some_iff.mp hv).1
        rw [List.length_drop, List.length_take] at hj1
        have hm : cs'.length = m := by rw [hl]; exact hc2 (by omega)
        have h2 : 0 ≤ ((j : Int) % (m : Int)) ∧ ((j : Int) % (m : Int)).toNat < cs'.length := by
          have a1 := Int.emod_nonneg (j : Int) (show (m : Int) ≠ 0 by omega)
          have a2 := Int.emod_lt_of_pos (j : Int) (show (0 : Int) < m by omega)
          omega
        walk_at "w"
        rw [Nat.zero_add]
        refine o_ixL (d := .int (cs'[((j : Int) % (m : Int)).toNat]'h2.2)) ?_ ?_
        · rw [at_lt h2.1 (by rw [List.length_map]; exact h2.2), List.getElem_map]
        walk_at "w"
        refine s_sub1 rfl (ix_lt h2.1 (by rw [List.length_map]; omega)) ?_
        refine ⟨cs'.set ((j : Int) % (m : Int)).toNat (cs'[((j : Int) % (m : Int)).toNat]'h2.2 + v * ((j : Int) + 2)), by rw [List.length_set]; exact hl, ?_⟩
        rw [List.map_set]
        exact ⟨_, _, by walk_at "n", by walk_at "n", rfl⟩
    · rintro e ⟨cs', hl, ⟨x0, x1, sx0, sx1, rfl⟩⟩
      walk_at "w"
      exact q cs' (by omega) (by omega)
theorem t_box {cs : List Int} {k : Nat} {P : List D → Prop} (hk : k < cs.length) (hk' : k < 64) (q : ∀ l, Bo 0 (.l l) → P l) : OkP (f_box [.lst (cs.map D.int), .int (k : Int)]) P := by
  refine f0N_of rfl ?_
  unfold bd_box
  walk_at "w"
  refine o_ixL (d := .int (cs[k]'hk)) (at_nat (by rw [List.getElem?_map, List.getElem?_eq_getElem hk]; rfl)) ?_
  generalize cs[k]'hk = w
  walk_at "w"
  refine o_powI ⟨by decide, by decide, by decide⟩ ?_
  walk_at "w"
  refine q _ ⟨_, _, _, rfl, Int.mul_nonneg (by split <;> omega) (by split <;> omega), ?_, ?_, by decide, by decide⟩
  · have := Int.emod_nonneg w (show (2305843009213693951 : Int) ≠ 0 by decide); omega
  · have := Int.emod_lt_of_pos w (show (0 : Int) < 2305843009213693951 by decide); omega
/-! A15: all lanes, wider lanes, the widest, by the program (k15 and its like). -/
theorem lcP2_map {β : Type} {pg pg1 : PG'} {pt pt1 : Env → Option Bool} {pi1 : Env → Option (List D)} {pe : PP} {vs1 : List Nat} {env : Env} (enc : β → D) (f : β → List D) : ∀ l : List β, (∀ a ∈ l, OkP (pg (enc a) env) fun e => OkP (pt e) fun b => b = true ∧ OkP (pi1 e) fun items => items.length ≤ 100 ∧ OkP (lcP pg1 pt1 pe items (wipeF e vs1)) fun r => r = f a) → lcP2 pg pt pi1 pg1 pt1 pe vs1 (l.map enc) env = some (l.flatMap f)
  | [], _ => rfl
  | a :: l, h => by
    have ih := lcP2_map enc f l fun x hx => h x (List.mem_cons_of_mem _ hx)
    obtain ⟨e, h1, b, h2, rfl, items, h3, h4, r, h5, rfl⟩ := h a (List.mem_cons_self ..)
    rw [List.map_cons, lcP2, h1]
    show ((pt e).bind _) = _
    rw [h2]
    show ((pi1 e).bind _) = _
    rw [h3]
    show (if items.length ≤ 100 then _ else _) = _
    rw [if_pos h4, h5]
    show ((lcP2 _ _ _ _ _ _ _ _ _).bind _) = _
    rw [ih, List.flatMap_cons]
    rfl
theorem k_lc2 {β : Type} {pi pi1 : Env → Option (List D)} {pg pg1 : PG'} {pt pt1 : Env → Option Bool} {pe : PP} {vs vs1 : List Nat} {env : Env} {PA : List D → Prop} (enc : β → D) (f : β → List D) (l : List β) (hi : pi env = some (l.map enc)) (hl : l.length ≤ 1000)
    (h : ∀ a ∈ l, OkP (pg (enc a) (wipeF env vs)) fun e => OkP (pt e) fun b => b = true ∧ OkP (pi1 e) fun items => items.length ≤ 100 ∧ OkP (lcP pg1 pt1 pe items (wipeF e vs1)) fun r => r = f a) (q : PA (l.flatMap f)) : OkP (pnLc2 pi pg pt pi1 pg1 pt1 pe vs vs1 env) PA := by
  refine ⟨_, ?_, q⟩
  unfold pnLc2
  rw [hi]
  show (if _ then _ else _) = _
  rw [if_pos (by rw [List.length_map]; exact hl)]
  exact lcP2_map enc f l h
def allL : Nat → List (List Nat)
  | 0 => [[]]
  | w + 1 => (allL w).flatMap fun l => [l ++ [45], l ++ [48], l ++ [49]]
theorem allL_len : ∀ w, (allL w).length = 3 ^ w
  | 0 => rfl
  | w + 1 => by
    rw [allL, List.length_flatMap]
    have : ∀ l : List (List Nat), (l.map fun l : List Nat => [l ++ [45], l ++ [48], l ++ [49]].length).sum = 3 * l.length := fun l => by
      induction l with
      | nil => rfl
      | cons a l ih => rw [List.map_cons, List.sum_cons, ih]; simp only [List.length_cons, List.length_nil]; omega
    rw [this, allL_len w, Nat.pow_succ]
    omega
theorem allL_mem : ∀ {w : Nat} {l : List Nat}, l ∈ allL w → l.length = w ∧ ∀ c ∈ l, c = 48 ∨ c = 49 ∨ c = 45
  | 0, l, h => by
    rw [List.mem_singleton.mp h]
    exact ⟨rfl, fun _ h => nomatch h⟩
  | w + 1, l, h => by
    rw [allL, List.mem_flatMap] at h
    obtain ⟨m, hm, h⟩ := h
    have ih := allL_mem hm
    have fin : ∀ c, (c = 48 ∨ c = 49 ∨ c = 45) → (m ++ [c]).length = w + 1 ∧ ∀ x ∈ m ++ [c], x = 48 ∨ x = 49 ∨ x = 45 := fun c hc => ⟨by rw [List.length_append, ih.1]; rfl, fun x hx => by
      rcases List.mem_append.mp hx with hx | hx
      · exact ih.2 x hx
      · rw [List.mem_singleton.mp hx]; exact hc⟩
    rcases List.mem_cons.mp h with rfl | h
    · exact fin 45 (.inr (.inr rfl))
    rcases List.mem_cons.mp h with rfl | h
    · exact fin 48 (.inl rfl)
    · rw [List.mem_singleton.mp h]; exact fin 49 (.inr (.inl rfl))
theorem allL_le {j w : Nat} (h : j ≤ w) (hw : w ≤ 4) : (allL j).length ≤ 81 := by
  rw [allL_len]
  exact Nat.pow_le_pow_right (n := 3) (by decide) (show j ≤ 4 by omega)
theorem t_all_lanes {w : Nat} {P : D → Prop} (hw : w ≤ 4) (q : P (.lst ((allL w).map D.str))) : OkP (f_all_lanes [.int (w : Nat)]) P := by
  refine f0_of rfl ?_
  unfold bd_all_lanes
  walk_at "w"
  rw [rng0, Int.toNat_natCast]
  refine s_forI _ (fun j e => ∃ x0 : Option C, nio x0 ∧ e = [some (.v (.int (w : Nat))), some (.v (.lst ((allL j).map D.str))), x0, none, none]) ⟨_, by walk_at "n", rfl⟩ ?_ ?_
  · rintro j a e hj ⟨x0, sx0, rfl⟩
    obtain ⟨hj', rfl⟩ := rng_at hj
    walk_at "w"
    refine k_lc2 D.str (fun l => [D.str (l ++ [45]), .str (l ++ [48]), .str (l ++ [49])]) (allL j) rfl (by have := allL_le (Nat.le_of_lt hj') hw; omega) ?_ ?_
    · intro l hl
      have hm := (allL_mem hl).1
      walk_at "w"
      refine o_sortTx ?_
      walk_at "w"
      refine ⟨by decide, ?_⟩
      show OkP (lcP _ _ _ (List.map (fun c : Nat => D.str [c]) [45, 48, 49]) _) _
      refine k_lcP_map (fun c : Nat => D.str [c]) (fun c => D.str (l ++ [c])) (fun c _ => ?_) rfl
      walk_at "w"
      rfl
    · walk_at "w"
      rw [show (allL j).flatMap (fun l => [D.str (l ++ [45]), .str (l ++ [48]), .str (l ++ [49])]) = (allL (j + 1)).map D.str by rw [allL, List.map_flatMap]; rfl]
      exact ⟨_, by walk_at "n", rfl⟩
  · rintro e ⟨x0, sx0, rfl⟩
    rw [List.length_range]
    walk_at "w"
    exact q
/-- with one sign left open -/
def wid (l : List Nat) : List (List Nat) := ((List.range l.length).filter fun k => decide (l.getD k 0 ≠ 45)).map fun k => l.take k ++ [45] ++ l.drop (k + 1)
theorem t_wider {l : List Nat} {P : List D → Prop} (hl : l.length ≤ 100) (q : P ((wid l).map D.str)) : OkP (f_wider [.str l]) P := by
  refine f0N_of rfl ?_
  unfold bd_wider
  walk_at "w"
  refine k_enum1 rfl ?_
  rw [enum_sgs]
  refine k_len (by rw [List.length_map, List.length_range]; omega) ?_
  refine k_lcP_filter _ (fun k => D.str (l.take k ++ [45] ++ l.drop (k + 1))) (fun k => decide (l.getD k 0 ≠ 45)) (fun k hk => ?_) ?_
  · have hk' := List.mem_range.mp hk
    walk_at "w"
    refine ⟨?_, fun _ => ?_⟩
    · rw [← decide_not, decide_eq_decide]
      exact ⟨fun h e => h (by rw [e]), fun h e => h (List.cons.inj e).1⟩
    · have hc1 : cutL l none (some (k : Int)) = l.take k := cutL_to l k
      have hc2 : cutL l (some ((k : Int) + 1)) none = l.drop (k + 1) := by rw [show ((k : Int) + 1) = ((k + 1 : Nat) : Int) by push_cast; rfl, cutL_from]
      walk_at "w"
      try refine o_slS (by omega) ?_
      walk_at "w"
      rw [hc1]
      refine o_addS (by rw [List.length_take]; show min k l.length + 1 ≤ _; omega) ?_
      walk_at "w"
      try refine o_slS (by omega) ?_
      walk_at "w"
      rw [hc2]
      refine o_addS (by rw [List.length_append, List.length_take, List.length_drop]; show min k l.length + 1 + _ ≤ _; omega) ?_
      rfl
  · rw [wid, List.map_map] at q
    exact q
/-- lanes whose sheet lies within -/
def som (w W : Nat) : List (List Nat) := (allL w).filter fun l => decide (sht l ||| W = W)
def widestL (w W : Nat) : List (List Nat) := (som w W).filter fun l => !(wid l).any fun m => decide (m ∈ som w W)
theorem allL_nodup : ∀ w, w ≤ 4 → (allL w).Nodup := by decide +kernel
theorem put_new {l : List (DK × D)} {k : DK} {d : D} (h : ∀ p ∈ l, p.1 ≠ k) : putD l k d = l ++ [(k, d)] := by
  unfold putD
  rw [if_neg]
  rw [Bool.not_eq_true, List.any_eq_false]
  intro p hp
  rw [decide_eq_true_eq]
  exact h p hp
/-- a dict of texts, all new -/
theorem dcP_keys {pg : PG'} {pt : Env → Option Bool} {pk pv : PP} {env : Env} {v : D} (p : List Nat → Bool) : ∀ (l : List (List Nat)) (acc : List (DK × D)), (∀ a ∈ l, OkP (pg (.str a) env) fun e => OkP (pt e) fun b => b = p a ∧ (p a = true → OkP (pk e) fun k => k = .str a ∧ OkP (pv e) fun z => z = v)) → l.Nodup → (∀ a ∈ l, ∀ q ∈ acc, q.1 ≠ .inr a) →
    dcP pg pt pk pv (l.map D.str) acc env = some (acc ++ (l.filter p).map fun a => (.inr a, v))
  | [], acc, _, _, _ => by rw [List.map_nil, dcP, List.filter_nil, List.map_nil, List.append_nil]
  | a :: l, acc, h, nd, hn => by
    have nd' := List.nodup_cons.mp nd
    obtain ⟨e, h1, b, h2, rfl, h3⟩ := h a (List.mem_cons_self ..)
    have hl : ∀ x ∈ l, _ := fun x hx => h x (List.mem_cons_of_mem _ hx)
    rw [List.map_cons, dcP, h1]
    show ((pt e).bind _) = _
    rw [h2]
    show (if p a = true then _ else _) = _
    cases hp : p a with
    | false =>
      rw [if_neg (by decide), dcP_keys p l acc hl nd'.2 fun x hx => hn x (List.mem_cons_of_mem _ hx), List.filter_cons_of_neg (by rw [hp]; decide)]
    | true =>
      rw [if_pos rfl]
      obtain ⟨k, h4, rfl, z, h5, rfl⟩ := h3 hp
      rw [h4]
      show ((pv e).bind _) = _
      rw [h5]
      show dcP pg pt pk pv (l.map D.str) (putD acc (.inr a) z) env = _
      rw [put_new (hn a (List.mem_cons_self ..)), dcP_keys p l _ hl nd'.2 (fun x hx q hq => ?_), List.filter_cons_of_pos hp, List.map_cons, List.append_assoc]
      · rfl
      · rcases List.mem_append.mp hq with hq | hq
        · exact hn x (List.mem_cons_of_mem _ hx) q hq
        · rw [List.mem_singleton.mp hq]
          intro e
          have : a = x := Sum.inr.inj e
          subst this
          exact nd'.1 hx
theorem look_keys (v : D) (x : List Nat) : ∀ l : List (List Nat), (lookD (l.map fun a => (Sum.inr a : DK)) (l.map fun _ => v) (.inr x)).isSome = decide (x ∈ l)
  | [] => rfl
  | a :: l => by
    have ih := look_keys v x l
    unfold lookD at ih ⊢
    rw [List.map_cons, List.map_cons, List.zip_cons_cons, List.find?_cons]
    by_cases e : (Sum.inr a : DK) = .inr x
    · rw [decide_eq_true e]
      have : a = x := Sum.inr.inj e
      subst this
      rw [decide_eq_true (List.mem_cons_self ..)]
      rfl
    · rw [decide_eq_false e]
      have hne : ¬ x = a := fun h => e (by rw [h])
      show (Option.map _ _).isSome = _
      rw [ih, decide_eq_decide, List.mem_cons]
      exact ⟨.inr, fun h => h.elim (fun h => absurd h hne) id⟩
theorem k_dkeys {i : Nat} {env : Env} {ks : List DK} {vs : List D} {PA : List D → Prop} (h : pget env i = some (.dic ks vs)) (q : PA (ks.map kD)) : OkP (pDKeys i env) PA := ⟨_, by unfold pDKeys; rw [h]; rfl, q⟩
theorem k_dcO {pi : Env → Option (List D)} {pg : PG'} {pt : Env → Option Bool} {pk pv : PP} {vs : List Nat} {env : Env} {P : D → Prop} (h : OkP (pi env) fun l => l.length ≤ 100000 ∧ OkP (dcP pg pt pk pv l [] (wipeF env vs)) fun l => P (.dic (l.map (·.1)) (l.map (·.2)))) : OkP (pDc pi pg pt pk pv vs env) P := by
  obtain ⟨l, h1, h2, h3⟩ := h
  exact k_dc h1 h2 h3
theorem t_widest {w : Nat} {d : D} {xs : List Nat} {P : List D → Prop} (hw : w ≤ 4) (hd : itm d = some (numsD xs)) (hx : ∀ x ∈ xs, x < 100) (q : P ((widestL w (sof xs)).map D.str)) : OkP (f_widest [.int (w : Nat), d]) P := by
  have hlen := allL_le (Nat.le_refl w) hw
  refine f0N_of rfl ?_
  unfold bd_widest
  refine s_mid (fun e => e = [some (.v (.int (w : Nat))), some (.v d), some (.v (.int (sof xs : Nat))), none, none, none]) ?_ ?_
  · walk_at "w"
    refine t_sheetof hd hx (by decide) ?_
    walk_at "w"
    rfl
  rintro e rfl
  refine s_mid (fun e => e = [some (.v (.int (w : Nat))), some (.v d), some (.v (.int (sof xs : Nat))), some (.v (.dic ((som w (sof xs)).map fun a => (Sum.inr a : DK)) ((som w (sof xs)).map fun _ => D.bl true))), none, none]) ?_ ?_
  · walk_at "w"
    refine k_dcO ?_
    walk_at "w"
    refine t_all_lanes hw ?_
    walk_at "w"
    refine ⟨by rw [List.length_map]; omega, ?_⟩
    refine ⟨_, dcP_keys (v := .bl true) (fun a => decide (sht a ||| sof xs = sof xs)) (allL w) [] (fun a ha => ?_) (allL_nodup w hw) (fun _ _ _ h => nomatch h), ?_⟩
    · have hm := allL_mem ha
      walk_at "w"
      refine t_sheet hm.2 (by omega) ?_
      walk_at "w"
      refine o_orN ?_
      walk_at "w"
      refine ⟨decide_eq_decide.mpr ⟨fun h => by omega, fun h => by rw [h]⟩, fun _ => ?_⟩
      walk_at "w"
      exact ⟨rfl, _, rfl, rfl⟩
    · walk_at "w"
      rw [List.nil_append, List.map_map, List.map_map]
      rfl
  rintro e rfl
  walk_at "w"
  refine k_dkeys rfl ?_
  rw [List.map_map]
  refine k_len (by rw [List.length_map]; exact Nat.le_trans (List.length_filter_le ..) (by omega)) ?_
  show OkP (lcP _ _ _ ((som w (sof xs)).map D.str) _) _
  refine k_lcP_filter D.str D.str (fun l => !(wid l).any fun m => decide (m ∈ som w (sof xs))) (fun l hl => ?_) q
  have hm := (allL_mem (List.mem_filter.mp hl).1).1
  walk_at "w"
  refine t_wider (by omega) ?_
  walk_at "w"
  have hwl : (wid l).length ≤ 4 := by
    rw [wid, List.length_map]
    have := List.length_filter_le (fun k => decide (l.getD k 0 ≠ 45)) (List.range l.length)
    rw [List.length_range] at this
    omega
  refine k_len (by rw [List.length_map]; omega) ?_
  refine k_lcP_map D.str (fun m => D.bl (decide (m ∈ som w (sof xs)))) (fun m _ => ?_) ?_
  · walk_at "w"
    rw [look_keys]
  walk_at "w"
  refine o_any (bs := (wid l).map fun m => decide (m ∈ som w (sof xs))) (by rw [List.map_map]; rfl) ?_
  walk_at "w"
  refine ⟨by rw [List.any_map]; rfl, fun _ => ?_⟩
  walk_at "w"
  rfl

/-! P15: the widest lanes, in plain Lean (k15, k16). -/
def maskL (l : List Nat) : Nat := ((nms l).map fun n => 2 ^ n).sum
/-- a lane that takes more -/
def over (m l : List Nat) : Bool := decide (sht m ≠ sht l) && decide (sht m ||| sht l = sht m)
def chk15 (w : Nat) : Bool := ((allL w).all fun l => decide (maskL l = sht l)) && ((allL w).all fun l => (wid l).all fun m => decide (m ∈ allL w) && over m l) &&
  (allL w).all fun l => (allL w).all fun m => !over m l || (wid l).any fun k => decide (sht k ||| sht m = sht m)
theorem chk15_ok : ∀ w ∈ [0, 1, 2, 3, 4], chk15 w = true := by decide +kernel
theorem chk15_le {w : Nat} (hw : w ≤ 4) : chk15 w = true := chk15_ok w (by
  have : w = 0 ∨ w = 1 ∨ w = 2 ∨ w = 3 ∨ w = 4 := by omega
  rcases this with rfl | rfl | rfl | rfl | rfl <;> decide)
def someM (w W : Nat) : List (List Nat) := (allL w).filter fun l => decide (maskL l ||| W = W)
def lawW (w W : Nat) : List (List Nat) := (someM w W).filter fun l => decide (((someM w W).filter fun m => decide (maskL m ≠ maskL l) && decide (maskL m ||| maskL l = maskL m)) = [])
theorem lawW_eq {w : Nat} (hw : w ≤ 4) (W : Nat) : lawW w W = widestL w W := by
  have hc := chk15_le hw
  unfold chk15 at hc
  rw [Bool.and_eq_true, Bool.and_eq_true] at hc
  obtain ⟨⟨c1, c2⟩, c3⟩ := hc
  rw [List.all_eq_true] at c1 c2 c3
  have hm : ∀ l ∈ allL w, maskL l = sht l := fun l hl => of_decide_eq_true (c1 l hl)
  have hs : someM w W = som w W := List.filter_congr fun l hl => by rw [hm l hl]
  unfold lawW widestL
  rw [hs]
  refine List.filter_congr fun l hl => ?_
  have hl' := (List.mem_filter.mp hl).1
  have hf : ((som w W).filter fun m => decide (maskL m ≠ maskL l) && decide (maskL m ||| maskL l = maskL m)) = (som w W).filter fun m => over m l := List.filter_congr fun m hm' => by
    rw [hm m (List.mem_filter.mp hm').1, hm l hl']
    rfl
  rw [hf, Bool.eq_iff_iff, decide_eq_true_eq, Bool.not_eq_true', List.any_eq_false, List.filter_eq_nil_iff]
  constructor
  · intro h m hmw hms
    have h1 := c2 l hl'
    rw [List.all_eq_true] at h1
    have h2 := h1 m hmw
    rw [Bool.and_eq_true] at h2
    exact h m (of_decide_eq_true hms) h2.2
  · intro h m hms ho
    have h1 := c3 l hl'
    rw [List.all_eq_true] at h1
    have h2 := h1 m (List.mem_filter.mp hms).1
    rw [ho, Bool.not_true, Bool.false_or, List.any_eq_true] at h2
    obtain ⟨k, hk, he⟩ := h2
    have he' := of_decide_eq_true he
    have h3 := c2 l hl'
    rw [List.all_eq_true] at h3
    have h4 := h3 k hk
    rw [Bool.and_eq_true] at h4
    have hmW : sht m ||| W = W := of_decide_eq_true (List.mem_filter.mp hms).2
    refine h k hk (decide_eq_true (List.mem_filter.mpr ⟨of_decide_eq_true h4.1, decide_eq_true ?_⟩))
    rw [← hmW, ← Nat.or_assoc, he']
/-- the sum of the bits of numbers in order -/
theorem sum_sof : ∀ {n : Nat} {xs : List Nat}, xs.Sublist (List.range n) → (xs.map fun k => 2 ^ k).sum = sof xs
  | 0, xs, h => by
    have : xs = [] := by simpa using h
    subst this
    rfl
  | n + 1, xs, h => by
    rw [List.range_succ] at h
    obtain ⟨a, b, rfl, h1, h2⟩ := List.sublist_append_iff.mp h
    have ih := sum_sof h1
    have hlt : sof a < 2 ^ n := sof_lt fun x hx => List.mem_range.mp (h1.mem hx)
    have hb : b = [] ∨ b = [n] := by
      cases b with
      | nil => exact .inl rfl
      | cons x t =>
        have hl := h2.length_le
        have ht : t = [] := by
          cases t with
          | nil => rfl
          | cons y t => simp at hl
        subst ht
        have := h2.mem (List.mem_cons_self ..)
        rw [List.mem_singleton.mp this]
        exact .inr rfl
    rcases hb with rfl | rfl
    · rw [List.append_nil]; exact ih
    · rw [List.map_append, List.sum_append, ih]
      unfold sof
      rw [List.foldl_append]
      show sof a + (2 ^ n + 0) = sof a ||| 1 <<< n
      have h3 := Nat.two_pow_add_eq_or_of_lt hlt 1
      rw [Nat.mul_one] at h3
      rw [Nat.shiftLeft_eq, Nat.one_mul, Nat.add_zero, Nat.or_comm, ← h3, Nat.add_comm]

/-! B15: the widest lanes by the law (k15). -/
theorem epow15 (W : Nat) : (2 : Int) ^ (W : Int).toNat = ((2 ^ W : Nat) : Int) := by rw [Int.toNat_natCast]; push_cast; rfl
theorem t_held {w : Nat} {l : List Nat} {P : List D → Prop} (hl : l.length = w) (hw : w ≤ 4) (q : P (numsD (nms l))) : OkP (f_held [.str l, .int (w : Nat)]) P := by
  have hp : 2 ^ w ≤ 16 := (Nat.pow_le_pow_right (by decide) hw : 2 ^ w ≤ 2 ^ 4)
  have hp0 : 0 < 2 ^ w := Nat.pow_pos (by decide)
  refine f0N_of rfl ?_
  unfold bd_held
  refine s_mid (fun e => e = [some (.v (.str l)), some (.v (.int (w : Nat))), some (.v (.lst ((List.range (2 ^ w)).map fun n => D.str (bitsL w n)))), none, none, none, none, none]) ?_ ?_
  · walk_at "w"
    rw [epow15]
    refine k_rng1 (by omega) (by omega) ?_
    rw [rng0, Int.toNat_natCast]
    refine k_len (by rw [List.length_map, List.length_range]; omega) ?_
    refine k_lcP_map _ (fun n => D.str (bitsL w n)) (fun n _ => ?_) ?_
    · walk_at "w"
      refine t_bits (by omega) ?_
      rfl
    · walk_at "w"
      rfl
  rintro e rfl
  walk_at "w"
  refine k_enum1 rfl ?_
  rw [enum_any, List.length_map, List.length_range]
  refine k_len (by rw [List.length_map, List.length_range]; omega) ?_
  refine k_lcP_filter _ (fun k : Nat => D.int (k : Int)) (fun k => tk (bitN w k) l) (fun k hk => ?_) ?_
  · have hk' := List.mem_range.mp hk
    have hg : ((List.range (2 ^ w)).map fun n => D.str (bitsL w n)).getD k .non = .str (bitsL w k) := by
      rw [List.getD_eq_getElem?_getD, List.getElem?_map, List.getElem?_range hk']
      rfl
    rw [hg]
    walk_at "w"
    refine k_zip1 rfl rfl (fun e => nomatch e) ?_
    rw [zip_sgs]
    refine k_len (by rw [List.length_map, List.length_zip]; omega) ?_
    refine k_lcP_map _ (fun p => D.bl (decide (p.1 = 45) || decide (p.1 = p.2))) ?_ ?_
    · rintro ⟨c, d⟩ _
      walk_at "w"
      show D.bl (([45] : List Nat) == [c] || (([d] : List Nat) == [c] || false)) = _
      rw [eq1, eq1, Bool.or_false]
      congr 2
      · rw [decide_eq_decide]; exact eq_comm
      · rw [decide_eq_decide]; exact eq_comm
    · walk_at "w"
      refine o_all (bs := (l.zip (bitsL w k)).map fun p => decide (p.1 = 45) || decide (p.1 = p.2)) (by rw [List.map_map]; rfl) ?_
      walk_at "w"
      rw [List.all_map]
      refine ⟨?_, fun _ => ?_⟩
      · rw [← tkL_bits hl]
        rfl
      · walk_at "w"
        rfl
  · unfold nms at q
    rw [hl] at q
    exact q
abbrev rowL (l : List Nat) : D := .tup [.str l, .lst (numsD (nms l))]
theorem t_lanes {w : Nat} {P : List D → Prop} (hw : w ≤ 4) (q : P ((allL w).map rowL)) : OkP (f_lanes [.int (w : Nat)]) P := by
  refine f0N_of rfl ?_
  unfold bd_lanes
  refine s_mid (fun e => e = [some (.v (.int (w : Nat))), some (.v (.lst ((allL 0).map D.str))), none, none, none, none]) ?_ ?_
  · walk_at "w"
    rfl
  rintro e rfl
  walk_at "w"
  rw [rng0, Int.toNat_natCast]
  refine s_forI _ (fun j e => ∃ x0 x1 x2 x3 : Option C, nio x0 ∧ nio x1 ∧ nio x2 ∧ nio x3 ∧ e = [some (.v (.int (w : Nat))), some (.v (.lst ((allL j).map D.str))), x0, x1, x2, x3]) ⟨_, _, _, _, by walk_at "n", by walk_at "n", by walk_at "n", by walk_at "n", rfl⟩ ?_ ?_
  · rintro j a e hj ⟨x0, x1, x2, x3, sx0, sx1, sx2, sx3, rfl⟩
    obtain ⟨hj', rfl⟩ := rng_at hj
    have hl3 := allL_le (Nat.le_of_lt hj') hw
    walk_at "w"
    refine s_forI (l := allL j) D.str (fun i e => ∃ x0 x1 : Option C, nio x0 ∧ nio x1 ∧ e = [some (.v (.int (w : Nat))), some (.v (.lst ((allL j).map D.str))), some (.v (.int (j : Nat))), some (.m (.l ((((allL j).take i).flatMap fun l => [l ++ [45], l ++ [48], l ++ [49]]).map D.str))), x0, x1]) ⟨_, _, by walk_at "n", by walk_at "n", rfl⟩ ?_ ?_
    · rintro i l e hi ⟨x0, x1, sx0, sx1, rfl⟩
      have hm := (allL_mem (List.mem_of_getElem? hi)).1
      have hil := (List.getElem?_eq_some_iff.mp hi).1
      walk_at "w"
      refine k_lcP_map (fun c : Nat => D.str [c]) (fun c => D.str (l ++ [c])) (fun c _ => ?_) ?_
      · walk_at "w"
        rfl
      walk_at "w"
      have hfl : ∀ m : List (List Nat), (m.flatMap fun l => [l ++ [45], l ++ [48], l ++ [49]]).length = 3 * m.length := fun m => by
        induction m with
        | nil => rfl
        | cons a m ih => rw [List.flatMap_cons, List.length_append, ih]; simp only [List.length_cons, List.length_nil]; omega
      refine m_extend (by rw [List.length_map, hfl, List.length_take]; show 3 * min i (allL j).length + 3 ≤ _; omega) ?_
      rw [show (((allL j).take (i + 1)).flatMap fun l => [l ++ [45], l ++ [48], l ++ [49]]).map D.str = (((allL j).take i).flatMap fun l => [l ++ [45], l ++ [48], l ++ [49]]).map D.str ++ [45, 48, 49].map fun c => D.str (l ++ [c]) by
        rw [List.take_add_one, hi, List.flatMap_append, List.map_append]; rfl]
      exact ⟨_, _, by walk_at "n", by walk_at "n", rfl⟩
    · rintro e ⟨x0, x1, sx0, sx1, rfl⟩
      rw [List.take_length]
      walk_at "w"
      exact ⟨_, _, _, _, by walk_at "n", by walk_at "n", by walk_at "n", by walk_at "n", rfl⟩
  · rintro e ⟨x0, x1, x2, x3, sx0, sx1, sx2, sx3, rfl⟩
    rw [List.length_range]
    walk_at "w"
    refine k_len (by rw [List.length_map]; have := allL_le (Nat.le_refl w) hw; omega) ?_
    refine k_lcP_map D.str rowL (fun l hl => ?_) q
    walk_at "w"
    refine t_held (allL_mem hl).1 hw ?_
    walk_at "w"
    rfl
/-- some of the numbers, in order -/
theorem sub_lt {xs : List Nat} {n : Nat} (h : xs.Sublist (List.range n)) : ∀ x ∈ xs, x < n := fun x hx => List.mem_range.mp (h.mem hx)
theorem nums_app15 (a b : List Nat) : numsD (a ++ b) = numsD a ++ numsD b := List.map_append ..
theorem t_set {c w : Nat} {ob : Ob} {P : D × Ob → Prop} (hb : Bo c ob) (hc : c < 2 ^ 30) (hw : w ≤ 4) (q : ∀ xs ob', xs.Sublist (List.range (2 ^ w)) → Bo (c + 20) ob' → P (.lst (numsD xs), ob')) : OkP (f_set [none, some (.int (w : Nat))] ob) P := by
  have hp : 2 ^ w ≤ 16 := (Nat.pow_le_pow_right (by decide) hw : 2 ^ w ≤ 2 ^ 4)
  have hp0 : 0 < 2 ^ w := Nat.pow_pos (by decide)
  refine f1_of rfl rfl ?_
  unfold bd_set
  refine s_mid (fun e => ∃ (r : Int) (ob' : Ob), 0 ≤ r ∧ r < 8 ∧ Bo (c + 1) ob' ∧ e = [some (.io ob'), some (.v (.int (w : Nat))), some (.v (.lst (numsD (List.range (2 ^ w))))), some (.v (.int r)), none, none, none]) ?_ ?_
  · walk_at "w"
    rw [epow15]
    walk_at "w"
    refine t_take hb (by omega) (by decide) (by decide) fun r ob2 r0 r1 hb2 => ?_
    walk_at "w"
    rw [show rngD 0 ((2 ^ w : Nat) : Int) = numsD (List.range (2 ^ w)) by rw [rng0, Int.toNat_natCast]]
    exact ⟨r, ob2, r0, r1, hb2, rfl⟩
  rintro e ⟨r, ob2, r0, r1, hb2, rfl⟩
  refine s_mid (fun e => ∃ (k : Nat) (ob' : Ob), k < 2 ^ w ∧ Bo (c + 2) ob' ∧ e = [some (.io ob'), some (.v (.int (w : Nat))), some (.v (.lst (numsD (List.range (2 ^ w))))), some (.v (.int r)), some (.v (.int (k : Nat))), none, none]) ?_ ?_
  · walk_at "w"
    rw [epow15]
    refine t_take hb2 (by omega) (by omega) (by omega) fun k ob3 k0 k1 hb3 => ?_
    obtain ⟨k, rfl⟩ := Int.eq_ofNat_of_zero_le k0
    walk_at "w"
    exact ⟨k, ob3, by omega, hb3, rfl⟩
  rintro e ⟨k, ob3, hk, hb3, rfl⟩
  have hR : (List.range (2 ^ w)).length = 2 ^ w := List.length_range
  have hc1 : cutL (numsD (List.range (2 ^ w))) none (some (k : Int)) = numsD ((List.range (2 ^ w)).take k) := by rw [cutL_to]; show (List.map _ _).take k = List.map _ _; rw [List.map_take]
  have hc2 : cutL (numsD (List.range (2 ^ w))) (some ((k : Int) + 1)) none = numsD ((List.range (2 ^ w)).drop (k + 1)) := by
    rw [show ((k : Int) + 1) = ((k + 1 : Nat) : Int) by push_cast; rfl, cutL_from]
    show (List.map _ _).drop (k + 1) = List.map _ _
    rw [List.map_drop]
  refine s_mid (fun e => e = [some (.io ob3), some (.v (.int (w : Nat))), some (.v (.lst (numsD (List.range (2 ^ w))))), some (.v (.int r)), some (.v (.int (k : Nat))), some (.v (.lst [.lst (numsD []), .lst (numsD (List.range (2 ^ w))), .lst (numsD [k]), .lst (numsD ((List.range (2 ^ w)).eraseIdx k))])), none]) ?_ ?_
  · walk_at "w"
    rw [hc1, hc2]
    refine o_addL (by rw [List.length_map, List.length_map, List.length_take, List.length_drop, hR]; omega) ?_
    walk_at "w"
    rw [List.eraseIdx_eq_take_drop_succ, nums_app15]
    rfl
  rintro e rfl
  walk_at "w"
  refine k_ite (fun e1 => ?_) (fun e1 => ?_)
  · have hr4 := of_decide_eq_true e1
    have : r = 0 ∨ r = 1 ∨ r = 2 ∨ r = 3 := by omega
    rcases this with rfl | rfl | rfl | rfl
    · walk_at "w"
      exact ⟨_, rfl, q [] ob3 (List.nil_sublist _) (hb3.mono (by omega))⟩
    · walk_at "w"
      exact ⟨_, rfl, q _ ob3 (List.Sublist.refl _) (hb3.mono (by omega))⟩
    · walk_at "w"
      exact ⟨_, rfl, q [k] ob3 (List.singleton_sublist.mpr (List.mem_range.mpr hk)) (hb3.mono (by omega))⟩
    · walk_at "w"
      exact ⟨_, rfl, q _ ob3 (List.eraseIdx_sublist ..) (hb3.mono (by omega))⟩
  walk_at "w"
  refine k_ite (fun e2 => ?_) (fun e2 => ?_)
  · walk_at "w"
    refine k_lcP_filter (fun n : Nat => D.int (n : Int)) (fun n : Nat => D.int (n : Int)) (fun n => decide ((bitsL w n).count 49 % 2 = k % 2)) (fun n _ => ?_) ?_
    · walk_at "w"
      refine t_bits (by omega) ?_
      walk_at "w"
      refine o_count ?_
      walk_at "w"
      refine ⟨decide_eq_decide.mpr ⟨fun h => by omega, fun h => by omega⟩, fun _ => ?_⟩
      walk_at "w"
      rfl
    · walk_at "w"
      exact ⟨_, rfl, q _ ob3 (List.filter_sublist ..) (hb3.mono (by omega))⟩
  walk_at "w"
  refine e_lc ?_
  walk_at "w"
  refine e_len (by rw [List.length_map, hR]; omega) ⟨rfl, ?_⟩
  refine e_lcI (fun n : Nat => D.int (n : Int)) (fun i acc e => ∃ (xs : List Nat) (ob' : Ob), acc = numsD xs ∧ xs.Sublist ((List.range (2 ^ w)).take i) ∧ Bo (c + 2 + i) ob' ∧ e = [some (.io ob'), some (.v (.int (w : Nat))), some (.v (.lst (numsD (List.range (2 ^ w))))), some (.v (.int r)), some (.v (.int (k : Nat))), some (.v (.lst [.lst (numsD []), .lst (numsD (List.range (2 ^ w))), .lst (numsD [k]), .lst (numsD ((List.range (2 ^ w)).eraseIdx k))])), none]) ⟨[], ob3, rfl, List.nil_sublist _, hb3, rfl⟩ ?_ ?_
  · rintro i n acc e hi ⟨xs, ob4, rfl, hs, hb4, rfl⟩
    have hil := (List.getElem?_eq_some_iff.mp hi).1
    have ht : (List.range (2 ^ w)).take (i + 1) = (List.range (2 ^ w)).take i ++ [n] := by rw [List.take_add_one, hi]; rfl
    walk_at "w"
    refine t_take hb4 (by omega) (by omega) (by omega) fun s ob5 s0 s1 hb5 => ?_
    walk_at "w"
    refine k_ite (fun e3 => ?_) (fun e3 => ?_)
    · walk_at "w"
      refine ⟨xs ++ [n], ob5, (nums_app15 xs [n]).symm, by rw [ht]; exact hs.append (List.Sublist.refl _), hb5.mono (by omega), rfl⟩
    · walk_at "w"
      refine ⟨xs, ob5, rfl, by rw [ht]; exact hs.trans (List.sublist_append_left ..), hb5.mono (by omega), rfl⟩
  · rintro r' e ⟨xs, ob4, rfl, hs, hb4, rfl⟩
    rw [hR] at hb4 hs
    walk_at "w"
    exact ⟨_, rfl, q xs ob4 (hs.trans (List.take_sublist ..)) (hb4.mono (by omega))⟩
theorem nms_bits {w : Nat} {l : List Nat} (hl : l.length = w) : ∀ n ∈ nms l, n < 2 ^ w := fun n hn => by
  have := (mem_nms.mp hn).1
  rw [hl] at this
  exact this
/-- the sum of the bits, as the law takes it -/
theorem k_bits15 {env : Env} {xs : List Nat} {P : List D → Prop} {i : Nat} {pe : PP} (hx : ∀ x ∈ xs, x < 100) (h : ∀ n ∈ xs, OkP (gN i (.int (n : Nat)) env) fun e => OkP (pe e) fun y => y = .int ((2 ^ n : Nat) : Int)) (q : P (xs.map fun n => D.int ((2 ^ n : Nat) : Int))) : OkP (lcP (gN i) pYes pe (numsD xs) env) P :=
  k_lcP_map (fun n : Nat => D.int (n : Int)) (fun n => D.int ((2 ^ n : Nat) : Int)) (fun n hn => (h n hn).imp fun e he => ⟨true, rfl, rfl, he⟩) q
theorem sum_pows (xs : List Nat) : (xs.map fun n => ((2 ^ n : Nat) : Int)).sum = (((xs.map fun n => 2 ^ n).sum : Nat) : Int) := by
  induction xs with
  | nil => rfl
  | cons a xs ih => rw [List.map_cons, List.sum_cons, ih, List.map_cons, List.sum_cons]; push_cast; rfl
theorem filt_snoc15 {ls : List (List Nat)} {j : Nat} {l : List Nat} (p : List Nat → Bool) (h : ls[j]? = some l) : (ls.take (j + 1)).filter p = (ls.take j).filter p ++ if p l = true then [l] else [] := by
  rw [List.take_add_one, h, Option.toList_some, List.filter_append]
  congr 1
  cases hp : p l with
  | true => rw [if_pos rfl, List.filter_cons_of_pos hp, List.filter_nil]
  | false => rw [if_neg (by decide), List.filter_cons_of_neg (by rw [hp]; decide), List.filter_nil]
abbrev rowM (l : List Nat) : D := .tup [.str l, .lst (numsD (nms l)), .int (maskL l : Nat)]
theorem t_l_widest {w : Nat} {xs : List Nat} {P : List D → Prop} (hw : w ≤ 4) (hx : xs.Sublist (List.range (2 ^ w))) (q : P ((widestL w (sof xs)).map rowL)) : OkP (f_l_widest [.int (w : Nat), .lst (numsD xs)]) P := by
  have hp : 2 ^ w ≤ 16 := (Nat.pow_le_pow_right (by decide) hw : 2 ^ w ≤ 2 ^ 4)
  have hl3 := allL_le (Nat.le_refl w) hw
  have hxl : xs.length ≤ 16 := by have := hx.length_le; rw [List.length_range] at this; omega
  rw [← lawW_eq hw] at q
  refine f0N_of rfl ?_
  unfold bd_l_widest
  refine s_mid (fun e => e = [some (.v (.int (w : Nat))), some (.v (.lst (numsD xs))), some (.v (.int (sof xs : Nat))), none, none, none, none, none, none, none]) ?_ ?_
  · walk_at "w"
    refine k_bits15 (fun x h => by have := sub_lt hx x h; omega) (fun n hn => ?_) ?_
    · have := sub_lt hx n hn
      walk_at "w"
      rw [Int.toNat_natCast]
      push_cast
      rfl
    walk_at "w"
    refine o_sumL (ns := xs.map fun n => ((2 ^ n : Nat) : Int)) (by rw [List.map_map]; rfl) ?_
    rw [sum_pows, sum_sof hx]
    walk_at "w"
    rfl
  rintro e rfl
  refine s_mid (fun e => e = [some (.v (.int (w : Nat))), some (.v (.lst (numsD xs))), some (.v (.int (sof xs : Nat))), some (.v (.lst ((allL w).map rowM))), none, none, none, none, none, none]) ?_ ?_
  · walk_at "w"
    refine t_lanes hw ?_
    walk_at "w"
    refine k_lcP_map rowL rowM (fun l hl => ?_) ?_
    · have hm := (allL_mem hl).1
      have hnl : (nms l).length ≤ 16 := by
        unfold nms
        refine Nat.le_trans (List.length_filter_le ..) ?_
        rw [List.length_range, hm]
        exact hp
      walk_at "w"
      refine k_bits15 (fun x h => by have := nms_bits hm x h; omega) (fun n hn => ?_) ?_
      · have := nms_bits hm n hn
        walk_at "w"
        rw [Int.toNat_natCast]
        push_cast
        rfl
      walk_at "w"
      refine o_sumL (ns := (nms l).map fun n => ((2 ^ n : Nat) : Int)) (by rw [List.map_map]; rfl) ?_
      rw [sum_pows]
      walk_at "w"
      rfl
    walk_at "w"
    rfl
  rintro e rfl
  have hsl : (someM w (sof xs)).length ≤ 81 := Nat.le_trans (List.length_filter_le ..) hl3
  have hsm : ∀ l ∈ someM w (sof xs), ∀ c ∈ l, c = 48 ∨ c = 49 ∨ c = 45 := fun l hl => (allL_mem (List.mem_filter.mp hl).1).2
  refine s_mid (fun e => e = [some (.v (.int (w : Nat))), some (.v (.lst (numsD xs))), some (.v (.int (sof xs : Nat))), some (.v (.lst ((someM w (sof xs)).map rowM))), none, none, none, none, none, none]) ?_ ?_
  · walk_at "w"
    refine k_lcP_filter rowM rowM (fun l => decide (maskL l ||| sof xs = sof xs)) (fun l hl => ?_) ?_
    · walk_at "w"
      refine o_orN ?_
      walk_at "w"
      refine ⟨decide_eq_decide.mpr ⟨fun h => by omega, fun h => by rw [h]⟩, fun _ => ?_⟩
      walk_at "w"
      rfl
    walk_at "w"
    rfl
  rintro e rfl
  walk_at "w"
  refine s_forI (l := someM w (sof xs)) rowM (fun j e => ∃ x0 x1 x2 x3 x4 : Option C, nio x0 ∧ nio x1 ∧ nio x2 ∧ nio x3 ∧ nio x4 ∧ e = [some (.v (.int (w : Nat))), some (.v (.lst (numsD xs))), some (.v (.int (sof xs : Nat))), some (.v (.lst ((someM w (sof xs)).map rowM))), some (.m (.l ((((someM w (sof xs)).take j).filter fun l => decide (((someM w (sof xs)).filter fun m => decide (maskL m ≠ maskL l) && decide (maskL m ||| maskL l = maskL m)) = [])).map rowL))), x0, x1, x2, x3, x4]) ⟨_, _, _, _, _, by walk_at "n", by walk_at "n", by walk_at "n", by walk_at "n", by walk_at "n", rfl⟩ ?_ ?_
  · rintro j l e hj ⟨x0, x1, x2, x3, x4, sx0, sx1, sx2, sx3, sx4, rfl⟩
    have hjl := (List.getElem?_eq_some_iff.mp hj).1
    walk_at "w"
    refine k_lcP_filter rowM rowM (fun m => decide (maskL m ≠ maskL l) && decide (maskL m ||| maskL l = maskL m)) (fun m hm => ?_) ?_
    · walk_at "w"
      refine k_ite (fun e1 => ?_) (fun e1 => ?_)
      · have h1 : maskL m ≠ maskL l := fun h => by rw [h] at e1; simp at e1
        walk_at "w"
        refine o_orN ?_
        walk_at "w"
        rw [decide_eq_true h1, Bool.true_and]
        refine ⟨decide_eq_decide.mpr ⟨fun h => by omega, fun h => by rw [h]⟩, fun _ => ?_⟩
        walk_at "w"
        rfl
      · have h1 : ¬ (maskL m ≠ maskL l) := fun h => by
          have : ((maskL m : Nat) : Int) = ((maskL l : Nat) : Int) := by simpa using e1
          omega
        rw [decide_eq_false h1, Bool.false_and]
        exact ⟨rfl, fun h => nomatch h⟩
    have hsh : ∀ ls : List (List Nat), (∀ l ∈ ls, l ∈ someM w (sof xs)) → shp 40 (.lst (ls.map rowM)) = true := fun ls h => by
      rw [shp, List.all_map]
      refine List.all_eq_true.mpr fun x hx => ?_
      show shp 39 (rowM x) = true
      have h1 : shp 38 (.str x) = true := List.all_eq_true.mpr fun c hc => by
        have := hsm x (h x hx) c hc
        exact decide_eq_true (by omega)
      have h2 : shp 38 (.lst (numsD (nms x))) = true := by
        rw [shp, List.all_map]
        exact List.all_eq_true.mpr fun _ _ => rfl
      rw [shp, List.all_cons, List.all_cons, List.all_cons, List.all_nil, h1, h2]
      rfl
    walk_at "w"
    refine o_eqL (hsh _ fun x hx => (List.mem_filter.mp hx).1) rfl ?_
    have he : ∀ ls : List (List Nat), eqd (.lst (ls.map rowM)) (.lst []) = decide (ls = []) := fun ls => by cases ls <;> rfl
    rw [he]
    walk_at "w"
    have hfl : ∀ p : List Nat → Bool, (((someM w (sof xs)).take j).filter p).length ≤ 81 := fun p => by
      refine Nat.le_trans (List.length_filter_le ..) ?_
      rw [List.length_take]
      omega
    refine k_ite (fun e1 => ?_) (fun e1 => ?_)
    · walk_at "w"
      refine m_append (by rw [List.length_map]; exact Nat.lt_of_le_of_lt (hfl _) (by decide)) ?_
      rw [filt_snoc15 _ hj, if_pos e1, List.map_append]
      exact ⟨_, _, _, _, _, by walk_at "n", by walk_at "n", by walk_at "n", by walk_at "n", by walk_at "n", rfl⟩
    · walk_at "w"
      rw [filt_snoc15 _ hj, if_neg (by rw [e1]; decide), List.append_nil]
      exact ⟨_, _, _, _, _, by walk_at "n", by walk_at "n", by walk_at "n", by walk_at "n", by walk_at "n", rfl⟩
  · rintro e ⟨x0, x1, x2, x3, x4, sx0, sx1, sx2, sx3, sx4, rfl⟩
    rw [List.take_length]
    walk_at "w"
    exact q

/-! LS2: alike, kind by kind (k26 and its like). -/
def dpt : Nat → D → Bool
  | _, .non => true
  | _, .bl _ => true
  | _, .int _ => true
  | _, .str _ => true
  | n + 1, .lst l => l.all (dpt n) && decide (l.length ≤ 100000)
  | n + 1, .tup l => l.all (dpt n) && decide (l.length ≤ 100000)
  | _, _ => false
theorem zip_self (l : List D) : zipD l l = l.map fun d => D.tup [d, d] := by
  unfold zipD
  induction l with
  | nil => rfl
  | cons d l ih => rw [List.zipWith_cons_cons, ih]; rfl
/-! K15: widest lanes. -/
theorem t_right {c : Nat} {ob : Ob} {P : D × Ob → Prop} (hb : Bo c ob) (hc : c < 2 ^ 20) (q : ∀ ob', P (.bl true, ob')) : OkP (f_right [none] ob) P := by
  refine f1_of rfl rfl ?_
  unfold bd_right
  walk_at "w"
  rw [rng0]
  refine s_forI _ (fun j e => ∃ ob', Bo (c + 30 * j) ob' ∧ ∃ x0 x1 x2 x3 x4 x5 x6 x7 : Option C, nio x0 ∧ nio x1 ∧ nio x2 ∧ nio x3 ∧ nio x4 ∧ nio x5 ∧ nio x6 ∧ nio x7 ∧ e = [some (.io ob'), x0, x1, x2, x3, x4, x5, x6, x7]) ⟨ob, hb, ⟨_, _, _, _, _, _, _, _, by walk_at "n", by walk_at "n", by walk_at "n", by walk_at "n", by walk_at "n", by walk_at "n", by walk_at "n", by walk_at "n", rfl⟩⟩ ?_ ?_
  · rintro j a e hj ⟨ob2, hb2, ⟨x0, x1, x2, x3, x4, x5, x6, x7, sx0, sx1, sx2, sx3, sx4, sx5, sx6, sx7, rfl⟩⟩
    obtain ⟨hj', rfl⟩ := rng_at hj
    have hj4 : j < 4 := hj'
    walk_at "s"
    refine s_mid (fun e => ∃ (w : Nat) (ob' : Ob), w ≤ 4 ∧ Bo (c + 30 * j + 1) ob' ∧ ∃ x0 x1 x2 x3 x4 x5 : Option C, nio x0 ∧ nio x1 ∧ nio x2 ∧ nio x3 ∧ nio x4 ∧ nio x5 ∧ e = [some (.io ob'), some (.v (.int (j : Nat))), some (.v (.int (w : Nat))), x0, x1, x2, x3, x4, x5]) ?_ ?_
    · walk_at "w"
      refine t_take hb2 (by omega) (by decide) (by decide) fun r ob3 r0 r1 hb3 => ?_
      obtain ⟨w, hw⟩ : ∃ w : Nat, 1 + r = (w : Int) := ⟨(1 + r).toNat, by omega⟩
      walk_at "w"
      rw [hw]
      exact ⟨w, ob3, by omega, hb3, ⟨_, _, _, _, _, _, by walk_at "n", by walk_at "n", by walk_at "n", by walk_at "n", by walk_at "n", by walk_at "n", rfl⟩⟩
    rintro e ⟨w, ob3, hw, hb3, ⟨x0, x1, x2, x3, x4, x5, sx0, sx1, sx2, sx3, sx4, sx5, rfl⟩⟩
    refine s_mid (fun e => ∃ (xs : List Nat) (ob' : Ob), xs.Sublist (List.range (2 ^ w)) ∧ Bo (c + 30 * j + 21) ob' ∧ ∃ x0 x1 x2 x3 x4 : Option C, nio x0 ∧ nio x1 ∧ nio x2 ∧ nio x3 ∧ nio x4 ∧ e = [some (.io ob'), some (.v (.int (j : Nat))), some (.v (.int (w : Nat))), some (.v (.lst (numsD xs))), x0, x1, x2, x3, x4]) ?_ ?_
    · walk_at "w"
      refine t_set hb3 (by omega) hw fun xs ob4 hx hb4 => ?_
      walk_at "w"
      exact ⟨xs, ob4, hx, hb4, ⟨_, _, _, _, _, by walk_at "n", by walk_at "n", by walk_at "n", by walk_at "n", by walk_at "n", rfl⟩⟩
    rintro e ⟨xs, ob4, hx, hb4, ⟨x0, x1, x2, x3, x4, sx0, sx1, sx2, sx3, sx4, rfl⟩⟩
    have hp : 2 ^ w ≤ 16 := (Nat.pow_le_pow_right (by decide) hw : 2 ^ w ≤ 2 ^ 4)
    have hx100 : ∀ x ∈ xs, x < 100 := fun x h => by have := sub_lt hx x h; omega
    have hxl : xs.length ≤ 16 := by have := hx.length_le; rw [List.length_range] at this; omega
    have hmem : ∀ l ∈ widestL w (sof xs), l ∈ allL w := fun l hl => (List.mem_filter.mp (List.mem_filter.mp hl).1).1
    have hwl : (widestL w (sof xs)).length ≤ 81 := Nat.le_trans (List.length_filter_le ..) (Nat.le_trans (List.length_filter_le ..) (allL_le (Nat.le_refl w) hw))
    have rx : Rp 40 16000000 (.lst (numsD xs)) := Rp.lst (b := 1100) (m := 16) (fun d hd => by
      obtain ⟨x, hx2, rfl⟩ := List.mem_map.mp hd
      have := hx100 x hx2
      exact Rp.int (by omega) (by decide)) (by rw [List.length_map]; exact hxl) (by decide)
    have rl : Rp 40 16000000 (.lst ((widestL w (sof xs)).map D.str)) := Rp.lst (b := 100) (m := 81) (fun d hd => by
      obtain ⟨l, hl, rfl⟩ := List.mem_map.mp hd
      have hm := allL_mem (hmem l hl)
      exact Rp.str (m := 4) (fun c hc => by have := hm.2 c hc; omega) (by omega) (by decide)) (by rw [List.length_map]; exact hwl) (by decide)
    walk_at "w"
    refine o_rp rfl rx ?_
    walk_at "w"
    refine t_l_widest hw hx ?_
    walk_at "w"
    refine k_lcP_map rowL D.str (fun l _ => ?_) ?_
    · walk_at "w"
      rfl
    walk_at "w"
    refine o_rp rfl rl ?_
    walk_at "w"
    refine t_widest hw rfl hx100 ?_
    walk_at "w"
    refine o_rp rfl rl ?_
    walk_at "w"
    refine o_rp rfl rx ?_
    walk_at "w"
    refine m_append (by rw [List.length_map]; omega) ?_
    walk_at "w"
    refine t_widest (d := .tup (numsD xs)) hw rfl hx100 ?_
    walk_at "w"
    refine o_rp rfl rl ?_
    walk_at "w"
    refine t_widest hw rfl hx100 ?_
    walk_at "w"
    refine o_rp rfl rl ?_
    walk_at "w"
    exact ⟨ob4, hb4.mono (by omega), ⟨_, _, _, _, _, _, _, _, by walk_at "n", by walk_at "n", by walk_at "n", by walk_at "n", by walk_at "n", by walk_at "n", by walk_at "n", by walk_at "n", rfl⟩⟩
  · rintro e ⟨ob2, hb2, ⟨x0, x1, x2, x3, x4, x5, x6, x7, sx0, sx1, sx2, sx3, sx4, sx5, sx6, sx7, rfl⟩⟩
    walk_at "w"
    exact ⟨_, rfl, q _⟩
theorem law_true : ∀ ns : List Int, ns.length ≤ 63 → f_law [.scr ns] = some (.bl true) := by
  intro ns hns
  refine OkP.of (f0_of rfl ?_)
  unfold bd_law
  walk_at "w"
  refine t_cells (m := 4) (by decide) (by decide) hns fun cs hc0 hc1 => ?_
  walk_at "w"
  refine e_lc ?_
  walk_at "w"
  refine e_len (by rw [rng0_len]; walk_at "o") ⟨rfl, ?_⟩
  rw [rng0, List.length_map, Int.toNat_natCast]
  refine e_lcI _ (fun j acc e => acc = (List.replicate j true).map D.bl ∧ ∃ x0 : Option C, nio x0 ∧ e = [some (.v (.scr ns)), some (.v (.lst (cs.map D.int))), x0]) ⟨rfl, ⟨_, by walk_at "n", rfl⟩⟩ ?_ ?_
  · rintro j a acc e hj ⟨rfl, ⟨x0, sx0, rfl⟩⟩
    obtain ⟨hj', rfl⟩ := rng_at hj
    walk_at "w"
    refine t_box hj' (by omega) fun l hb => ?_
    walk_at "w"
    refine t_right hb (by omega) fun ob' => ⟨by first | rfl | exact notIo_nio rfl (by assumption), ?_, ⟨_, by walk_at "n", rfl⟩⟩
    rw [List.replicate_succ', List.map_append]
    rfl
  · rintro r e ⟨rfl, ⟨x0, sx0, rfl⟩⟩
    walk_at "w"
    refine o_all rfl ?_
    simp

def sp_sheet (K : PySem.W.Frag) : Sp := sp0 K f_sheet
def rd_sheet (K : PySem.W.Frag) : TS := (tSeq (tAsg (tTup (tCons (tC (.int 1)) (tCons (tC (.int 1)) tNil))) (gSq K 2 (gCons (gName 1) (gCons (gName 2) gNil))))
  (tSeq (tFor (RS.iRevS (tVar 0)) (gName 3) (tSeq (tIfS (tTest (tOp (rEqU K) (tVar 3) (tC (.str (SX.S [49]))))) (tAug 1 (tVar 2) ipShlU) (tIfS (tTest (tOp (rEqU K) (tVar 3) (tC (.str (SX.S [45]))))) (tAug 1 (tOp rShlU (tVar 1) (tVar 2)) ipOrU) tNext))
  (tAug 2 (tC (.int 2)) (ipMulU K))))
  (tRet (tVar 1))))
theorem rs_sheet {K : PySem.W.Frag} : RefS K (rd_sheet K) bd_sheet := (rs_seq (rs_asg (vs := [0, 1, 2, 3]) (ref_eL (rp_tup (rp_cons (rp_c fun _ => rfl) (rp_cons (rp_c fun _ => rfl) rp_nil)))) (rt_tup (rt_cons (rt_name (by decide)) (rt_cons (rt_name (by decide)) rt_nil))))
  (rs_seq (rs_for (vs := [0, 1, 2, 3]) (ref_eLI (rp_revS (rp_var 0))) (rt_name (by decide)) (rs_seq (rs_if (ref_eT (rp_test (rp_op ro_eq (rp_var 3) (rp_c fun _ => rfl)))) (rs_aug ri_shl (ref_eL (rp_var 2))) (rs_if (ref_eT (rp_test (rp_op ro_eq (rp_var 3) (rp_c fun _ => rfl)))) (rs_aug ri_or (ref_eL (rp_op ro_shl (rp_var 1) (rp_var 2)))) rs_next))
  (rs_aug ri_mul (ref_eL (rp_c fun _ => rfl)))))
  (rs_ret (ref_eL (rp_var 1)))))
theorem ln_sheet {K : PySem.W.Frag} {vs : List V} {H : Hp} {Q : VK} {E : XK} (h : sp_sheet K vs H Q E) : vs.length = 1 := ln0 (fun _ _ e => fn0_len e) h
theorem ok_rd_sheet {K : PySem.W.Frag} {vs : List V} {H : Hp} {Q : VK} {E : XK} (h : sp_sheet K vs H Q E) : rd_sheet K { nx := fun _ H' => Q .non H', rt := Q } (L2.start ["lane", "found", "size", "sign"] vs) H := ok0 (N := ["lane", "found", "size", "sign"]) rs_sheet h
def sp_sheet_of (K : PySem.W.Frag) : Sp := sp0 K f_sheet_of
def rd_sheet_of (K : PySem.W.Frag) : TS := (tSeq (tAsg (tC (.int 0)) (gName 1))
  (tSeq (tFor (iSeq K (tVar 0)) (gName 2) (tAug 1 (tOp rShlU (tC (.int 1)) (tVar 2)) ipOrU))
  (tRet (tVar 1))))
theorem rs_sheet_of {K : PySem.W.Frag} : RefS K (rd_sheet_of K) bd_sheet_of := (rs_seq (rs_asg (vs := [1]) (ref_eL (rp_c fun _ => rfl)) (rt_name (by decide)))
  (rs_seq (rs_for (vs := [0, 1, 2]) (ref_eLI (rp_seq (rp_var 0))) (rt_name (by decide)) (rs_aug ri_or (ref_eL (rp_op ro_shl (rp_c fun _ => rfl) (rp_var 2)))))
  (rs_ret (ref_eL (rp_var 1)))))
theorem ln_sheet_of {K : PySem.W.Frag} {vs : List V} {H : Hp} {Q : VK} {E : XK} (h : sp_sheet_of K vs H Q E) : vs.length = 1 := ln0 (fun _ _ e => fn0_len e) h
theorem ok_rd_sheet_of {K : PySem.W.Frag} {vs : List V} {H : Hp} {Q : VK} {E : XK} (h : sp_sheet_of K vs H Q E) : rd_sheet_of K { nx := fun _ H' => Q .non H', rt := Q } (L2.start ["numbers", "found", "number"] vs) H := ok0 (N := ["numbers", "found", "number"]) rs_sheet_of h
def sp_all_lanes (K : PySem.W.Frag) : Sp := sp0 K f_all_lanes
def rd_all_lanes (K : PySem.W.Frag) : TS := (tSeq (tAsg (tLst (tCons (tC (.str (SX.S []))) tNil)) (gName 1))
  (tSeq (tFor (iRng1 (tCons (tVar 0) tNil)) (gName 2) (tAsg (tLc2 (iSeq K (tVar 1)) (gName 3) tYes (iSeq K (tCB rSortTx (tCons (tC (.str (SX.S [48, 49, 45]))) tNil))) (gName 4) tYes (tOp (rAddU K) (tVar 3) (tVar 4)) [3, 4] [4]) (gName 1)))
  (tRet (tVar 1))))
theorem rs_all_lanes {K : PySem.W.Frag} : RefS K (rd_all_lanes K) bd_all_lanes := (rs_seq (rs_asg (vs := [1]) (ref_eL (ref_pFz (rp_lst (rp_cons (rp_c fun _ => rfl) rp_nil)))) (rt_name (by decide)))
  (rs_seq (rs_for (vs := [0, 1, 2, 3, 4]) (ref_eLI (rp_rng1 (rp_cons (rp_var 0) rp_nil))) (rt_name (by decide)) (rs_asg (vs := [1]) (ref_eL (ref_pFz (rp_lc2 (vs := [3, 4]) (vs1 := [4]) (rp_seq (rp_var 1)) (rg_name (by decide)) rp_yes (rp_seq (ref_pFz (rp_cbN ro_sortTx (rp_cons (rp_c fun _ => rfl) rp_nil)))) (rg_name (by decide)) rp_yes (rp_op ro_add (rp_var 3) (rp_var 4))))) (rt_name (by decide))))
  (rs_ret (ref_eL (rp_var 1)))))
theorem ln_all_lanes {K : PySem.W.Frag} {vs : List V} {H : Hp} {Q : VK} {E : XK} (h : sp_all_lanes K vs H Q E) : vs.length = 1 := ln0 (fun _ _ e => fn0_len e) h
theorem ok_rd_all_lanes {K : PySem.W.Frag} {vs : List V} {H : Hp} {Q : VK} {E : XK} (h : sp_all_lanes K vs H Q E) : rd_all_lanes K { nx := fun _ H' => Q .non H', rt := Q } (L2.start ["width", "found", "place", "lane", "sign"] vs) H := ok0 (N := ["width", "found", "place", "lane", "sign"]) rs_all_lanes h
def sp_wider (K : PySem.W.Frag) : Sp := sp0N K f_wider
def rd_wider (K : PySem.W.Frag) : TS := (tRet (tLc (iEnumS K (tCons (tVar 0) tNil)) (gSq K 2 (gCons (gName 1) (gCons (gName 2) gNil))) (tTest (tOp (rNeU K) (tVar 2) (tC (.str (SX.S [45]))))) (tOp (rAddU K) (tOp (rAddU K) (tSl (rSlU K) (tVar 0) tNoPart (tPart (tVar 1))) (tC (.str (SX.S [45])))) (tSl (rSlU K) (tVar 0) (tPart (tOp (rAddU K) (tVar 1) (tC (.int 1)))) tNoPart)) [1, 2]))
theorem rs_wider {K : PySem.W.Frag} : RefS K (rd_wider K) bd_wider := (rs_retN (ref_eN (rp_lc (vs := [1, 2]) (rp_enum (rp_cons (rp_var 0) rp_nil)) (rg_tup (rg_cons (rg_name (by decide)) (rg_cons (rg_name (by decide)) rg_nil))) (rp_test (rp_op ro_ne (rp_var 2) (rp_c fun _ => rfl))) (rp_op ro_add (rp_op ro_add (rp_sl ro_sl (rp_var 0) rp_nopart (rp_part (rp_var 1))) (rp_c fun _ => rfl)) (rp_sl ro_sl (rp_var 0) (rp_part (rp_op ro_add (rp_var 1) (rp_c fun _ => rfl))) rp_nopart)))))
theorem ln_wider {K : PySem.W.Frag} {vs : List V} {H : Hp} {Q : VK} {E : XK} (h : sp_wider K vs H Q E) : vs.length = 1 := ln0N (fun _ _ e => fn0N_len e) h
theorem ok_rd_wider {K : PySem.W.Frag} {vs : List V} {H : Hp} {Q : VK} {E : XK} (h : sp_wider K vs H Q E) : rd_wider K { nx := fun _ H' => Q .non H', rt := Q } (L2.start ["lane", "place", "sign"] vs) H := ok0N (N := ["lane", "place", "sign"]) rs_wider h
def sp_widest (K : PySem.W.Frag) : Sp := sp0N K f_widest
def rd_widest (K : PySem.W.Frag) : TS := (tSeq (tAsg (tCall (sp_sheet_of K) [] E0 (tCons (tVar 1) tNil)) (gName 2))
  (tSeq (tAsg (tDc (iSeq K (tCall (sp_all_lanes K) [] E0 (tCons (tVar 0) tNil))) (gName 4) (tTest (tOp (rEqU K) (tOp rOrU (tCall (sp_sheet K) [] E0 (tCons (tVar 4) tNil)) (tVar 2)) (tVar 2))) (tVar 4) (tC (.bl true)) [4]) (gName 3))
  (tRet (tLockO (tLc (iKeys (tVar 3)) (gName 4) (tNot (tTrth K (tCB (rAny K) (tCons (tLc (iSeq K (tCall (sp_wider K) [] E0 (tCons (tVar 4) tNil))) (gName 5) tYes (tDIn (tVar 5) (tVar 3)) [5]) tNil)))) (tVar 4) [4])))))
theorem rs_widest {K : PySem.W.Frag} : RefS K (rd_widest K) bd_widest := (rs_seq (rs_asg (vs := [2]) (ref_eL (rp_call (rp_cons (rp_var 1) rp_nil))) (rt_name (by decide)))
  (rs_seq (rs_asg (vs := [3]) (ref_eL (rp_dc (vs := [4]) (rp_seq (rp_call (rp_cons (rp_var 0) rp_nil))) (rg_name (by decide)) (rp_test (rp_op ro_eq (rp_op ro_or (rp_call (rp_cons (rp_var 4) rp_nil)) (rp_var 2)) (rp_var 2))) (rp_var 4) (rp_c fun _ => rfl))) (rt_name (by decide)))
  (rs_retN (ref_eN (rp_lcK (vs := [4]) (rg_name (by decide)) (rp_not (rp_tru (rp_cb ro_any (rp_cons (ref_pFz (rp_lc (vs := [5]) (rp_seq (ref_pFz (rp_callN (rp_cons (rp_var 4) rp_nil)))) (rg_name (by decide)) rp_yes (rp_din (rp_var 5) (rp_var 3)))) rp_nil)))) (rp_var 4))))))
theorem ln_widest {K : PySem.W.Frag} {vs : List V} {H : Hp} {Q : VK} {E : XK} (h : sp_widest K vs H Q E) : vs.length = 2 := ln0N (fun _ _ e => fn0N_len e) h
theorem ok_rd_widest {K : PySem.W.Frag} {vs : List V} {H : Hp} {Q : VK} {E : XK} (h : sp_widest K vs H Q E) : rd_widest K { nx := fun _ H' => Q .non H', rt := Q } (L2.start ["width", "numbers", "wanted", "some", "lane", "other"] vs) H := ok0N (N := ["width", "numbers", "wanted", "some", "lane", "other"]) rs_widest h
def sp_box (K : PySem.W.Frag) : Sp := sp0N K f_box
def rd_box (K : PySem.W.Frag) : TS := (tSeq (tAsg (tOp (rIx K) (tVar 0) (tVar 1)) (gName 2))
  (tRet (tLst (tCons (tOp (rMulU K) (tCB rAbs (tCons (tVar 2) tNil)) (tCB rIntU (tCons (tOp rGeU (tCB rAbs (tCons (tVar 2) tNil)) (tOp rPowU (tC (.int 10)) (tC (.int 18)))) tNil))) (tCons (tOp (rAddU K) (tOp (rAddU K) (tOp rModU (tVar 2) (tC (.int 2305843009213693951))) (tOp (rMulU K) (tC (.int 15485863)) (tVar 1))) (tC (.int 11))) (tCons (tC (.int 0)) tNil))))))
theorem rs_box {K : PySem.W.Frag} : RefS K (rd_box K) bd_box := (rs_seq (rs_asg (vs := [2]) (ref_eL (rp_op ro_ix (rp_var 0) (rp_var 1))) (rt_name (by decide)))
  (rs_retN (ref_eN (rp_lst (rp_cons (rp_op ro_mul (rp_cb ro_abs (rp_cons (rp_var 2) rp_nil)) (rp_cb ro_int (rp_cons (rp_op ro_ge (rp_cb ro_abs (rp_cons (rp_var 2) rp_nil)) (rp_op ro_pow (rp_c fun _ => rfl) (rp_c fun _ => rfl))) rp_nil))) (rp_cons (rp_op ro_add (rp_op ro_add (rp_op ro_mod (rp_var 2) (rp_c fun _ => rfl)) (rp_op ro_mul (rp_c fun _ => rfl) (rp_var 1))) (rp_c fun _ => rfl)) (rp_cons (rp_c fun _ => rfl) rp_nil)))))))
theorem ln_box {K : PySem.W.Frag} {vs : List V} {H : Hp} {Q : VK} {E : XK} (h : sp_box K vs H Q E) : vs.length = 2 := ln0N (fun _ _ e => fn0N_len e) h
theorem ok_rd_box {K : PySem.W.Frag} {vs : List V} {H : Hp} {Q : VK} {E : XK} (h : sp_box K vs H Q E) : rd_box K { nx := fun _ H' => Q .non H', rt := Q } (L2.start ["_law_cells_here", "_law_k", "_law_cell"] vs) H := ok0N (N := ["_law_cells_here", "_law_k", "_law_cell"]) rs_box h
def sp_take (K : PySem.W.Frag) : Sp := sp1 K f_take
def rd_take (K : PySem.W.Frag) : TS := (tSeq (tIfS (tTest (tOp rGtU (tOp (rIx K) (tVar 0) (tC (.int 0))) (tC (.int 0)))) (tSeq (tAsg (tOp rModU (tOp (rIx K) (tVar 0) (tC (.int 0))) (tVar 1)) (gName 2))
  (tSeq (tAsg (tOp rFdivU (tOp (rIx K) (tVar 0) (tC (.int 0))) (tVar 1)) (gSub (tVar 0) (tC (.int 0)) rSetL))
  (tRet (tVar 2)))) tNext)
  (tSeq (tAsg (tOp (rAddU K) (tOp (rIx K) (tVar 0) (tC (.int 2))) (tC (.int 1))) (gSub (tVar 0) (tC (.int 2)) rSetL))
  (tSeq (tAsg (tOp rModU (tOp (rAddU K) (tOp (rIx K) (tVar 0) (tC (.int 1))) (tOp (rMulU K) (tC (.int 1442695040888963407)) (tOp (rIx K) (tVar 0) (tC (.int 2))))) (tC (.int 2305843009213693951))) (gName 3))
  (tSeq (tAsg (tOp rModU (tOp (rAddU K) (tOp (rAddU K) (tOp (rMulU K) (tVar 3) (tVar 3)) (tOp (rMulU K) (tC (.int 39373)) (tOp (rIx K) (tVar 0) (tC (.int 2))))) (tC (.int 7))) (tC (.int 2305843009213693921))) (gName 3))
  (tSeq (tAsg (tOp rModU (tOp (rAddU K) (tOp (rMulU K) (tVar 3) (tOp (rAddU K) (tOp rFdivU (tVar 3) (tC (.int 65536))) (tC (.int 3)))) (tOp (rIx K) (tVar 0) (tC (.int 2)))) (tC (.int 2305843009213693907))) (gName 3))
  (tRet (tOp rModU (tOp rFdivU (tVar 3) (tC (.int 1048576))) (tVar 1))))))))
theorem rs_take {K : PySem.W.Frag} : RefS K (rd_take K) bd_take := (rs_seq (rs_if (ref_eT (rp_test (rp_op ro_gt (rp_op ro_ix (rp_var 0) (rp_c fun _ => rfl)) (rp_c fun _ => rfl)))) (rs_seq (rs_asg (vs := [2]) (ref_eP (rp_op ro_mod (rp_op ro_ix (rp_var 0) (rp_c fun _ => rfl)) (rp_var 1))) (rt_name (by decide)))
  (rs_seq (rs_asg (vs := [0, 1, 2, 3]) (ref_eP (rp_op ro_fdiv (rp_op ro_ix (rp_var 0) (rp_c fun _ => rfl)) (rp_var 1))) (rt_sub (ref_eL (rp_c fun _ => rfl))))
  (rs_ret (ref_eL (rp_var 2))))) rs_next)
  (rs_seq (rs_asg (vs := [0, 1, 2, 3]) (ref_eP (rp_op ro_add (rp_op ro_ix (rp_var 0) (rp_c fun _ => rfl)) (rp_c fun _ => rfl))) (rt_sub (ref_eL (rp_c fun _ => rfl))))
  (rs_seq (rs_asg (vs := [3]) (ref_eP (rp_op ro_mod (rp_op ro_add (rp_op ro_ix (rp_var 0) (rp_c fun _ => rfl)) (rp_op ro_mul (rp_c fun _ => rfl) (rp_op ro_ix (rp_var 0) (rp_c fun _ => rfl)))) (rp_c fun _ => rfl))) (rt_name (by decide)))
  (rs_seq (rs_asg (vs := [3]) (ref_eP (rp_op ro_mod (rp_op ro_add (rp_op ro_add (rp_op ro_mul (rp_var 3) (rp_var 3)) (rp_op ro_mul (rp_c fun _ => rfl) (rp_op ro_ix (rp_var 0) (rp_c fun _ => rfl)))) (rp_c fun _ => rfl)) (rp_c fun _ => rfl))) (rt_name (by decide)))
  (rs_seq (rs_asg (vs := [3]) (ref_eP (rp_op ro_mod (rp_op ro_add (rp_op ro_mul (rp_var 3) (rp_op ro_add (rp_op ro_fdiv (rp_var 3) (rp_c fun _ => rfl)) (rp_c fun _ => rfl))) (rp_op ro_ix (rp_var 0) (rp_c fun _ => rfl))) (rp_c fun _ => rfl))) (rt_name (by decide)))
  (rs_ret (ref_eL (rp_op ro_mod (rp_op ro_fdiv (rp_var 3) (rp_c fun _ => rfl)) (rp_var 1)))))))))
theorem ln_take {K : PySem.W.Frag} {vs : List V} {H : Hp} {Q : VK} {E : XK} (h : sp_take K vs H Q E) : vs.length = 2 := ln1 h
theorem ok_rd_take {K : PySem.W.Frag} {vs : List V} {H : Hp} {Q : VK} {E : XK} (h : sp_take K vs H Q E) : rd_take K { nx := fun _ H' => Q .non H', rt := Q } (L2.start ["_law_box_here", "_law_amount", "_law_found", "_law_mixed"] vs) H := ok1 (N := ["_law_box_here", "_law_amount", "_law_found", "_law_mixed"]) rs_take h
def sp_cells (K : PySem.W.Frag) : Sp := sp0N K f_cells
def rd_cells (K : PySem.W.Frag) : TS := (tSeq (tAsg (tOrT K (tCB (rListU K) (tCons (tSl (rSlU K) (tVar 0) tNoPart (tPart (tVar 1))) tNil)) (tLst (tCons (tC (.int 0)) tNil))) (gName 2))
  (tSeq (tFor (iEnumS K (tCons (tSl (rSlU K) (tVar 0) (tPart (tVar 1)) (tPart (tC (.int 63)))) tNil)) (gSq K 2 (gCons (gName 3) (gCons (gName 4) gNil))) (tAsg (tOp (rAddU K) (tOp (rIx K) (tVar 2) (tOp rModU (tVar 3) (tVar 1))) (tOp (rMulU K) (tVar 4) (tOp (rAddU K) (tVar 3) (tC (.int 2))))) (gSub (tVar 2) (tOp rModU (tVar 3) (tVar 1)) rSetL)))
  (tRet (tVar 2))))
theorem rs_cells {K : PySem.W.Frag} : RefS K (rd_cells K) bd_cells := (rs_seq (rs_asgN (ref_eN (rp_orN (rp_cbN ro_listN (rp_cons (rp_sl ro_sl (rp_var 0) rp_nopart (rp_part (rp_var 1))) rp_nil)) (rp_lst (rp_cons (rp_c fun _ => rfl) rp_nil)))))
  (rs_seq (rs_for (vs := [0, 1, 2, 3, 4]) (ref_eLI (rp_enum (rp_cons (rp_sl ro_sl (rp_var 0) (rp_part (rp_var 1)) (rp_part (rp_c fun _ => rfl))) rp_nil))) (rt_tup (rt_cons (rt_name (by decide)) (rt_cons (rt_name (by decide)) rt_nil))) (rs_asg (vs := [0, 1, 2, 3, 4]) (ref_eP (rp_op ro_add (rp_op ro_ix (rp_var 2) (rp_op ro_mod (rp_var 3) (rp_var 1))) (rp_op ro_mul (rp_var 4) (rp_op ro_add (rp_var 3) (rp_c fun _ => rfl))))) (rt_sub (ref_eL (rp_op ro_mod (rp_var 3) (rp_var 1))))))
  (rs_retN (re_give 2))))
theorem ln_cells {K : PySem.W.Frag} {vs : List V} {H : Hp} {Q : VK} {E : XK} (h : sp_cells K vs H Q E) : vs.length = 2 := ln0N (fun _ _ e => fn0N_len e) h
theorem ok_rd_cells {K : PySem.W.Frag} {vs : List V} {H : Hp} {Q : VK} {E : XK} (h : sp_cells K vs H Q E) : rd_cells K { nx := fun _ H' => Q .non H', rt := Q } (L2.start ["_law_script", "_law_most", "_law_cells_here", "_law_k", "_law_cell"] vs) H := ok0N (N := ["_law_script", "_law_most", "_law_cells_here", "_law_k", "_law_cell"]) rs_cells h
def sp_bits (K : PySem.W.Frag) : Sp := sp0 K f_bits
def rd_bits (K : PySem.W.Frag) : TS := (tRet (tBM K "str" (rJoin K) (tC (.str (SX.S []))) (tCons (tLc (iRng1 (tCons (tVar 0) tNil)) (gName 2) tYes (tCB (rStrU K) (tCons (tOp rAndU (tOp rShrU (tVar 1) (tOp rSubU (tOp rSubU (tVar 0) (tC (.int 1))) (tVar 2))) (tC (.int 1))) tNil)) [2]) tNil)))
theorem rs_bits {K : PySem.W.Frag} : RefS K (rd_bits K) bd_bits := (rs_ret (ref_eL (rp_bm ro_join (rp_c fun _ => rfl) (rp_cons (ref_pFz (rp_lc (vs := [2]) (rp_rng1 (rp_cons (rp_var 0) rp_nil)) (rg_name (by decide)) rp_yes (rp_cb ro_str (rp_cons (rp_op ro_and (rp_op ro_shr (rp_var 1) (rp_op ro_sub (rp_op ro_sub (rp_var 0) (rp_c fun _ => rfl)) (rp_var 2))) (rp_c fun _ => rfl)) rp_nil)))) rp_nil))))
theorem ln_bits {K : PySem.W.Frag} {vs : List V} {H : Hp} {Q : VK} {E : XK} (h : sp_bits K vs H Q E) : vs.length = 2 := ln0 (fun _ _ e => fn0_len e) h
theorem ok_rd_bits {K : PySem.W.Frag} {vs : List V} {H : Hp} {Q : VK} {E : XK} (h : sp_bits K vs H Q E) : rd_bits K { nx := fun _ H' => Q .non H', rt := Q } (L2.start ["_law_span", "_law_number", "_law_k"] vs) H := ok0 (N := ["_law_span", "_law_number", "_law_k"]) rs_bits h
def sp_held (K : PySem.W.Frag) : Sp := sp0N K f_held
def rd_held (K : PySem.W.Frag) : TS := (tSeq (tAsg (tLc (iRng1 (tCons (tOp rShlU (tC (.int 1)) (tVar 1)) tNil)) (gName 3) tYes (tCall (sp_bits K) [] E0 (tCons (tVar 1) (tCons (tVar 3) tNil))) [3]) (gName 2))
  (tRet (tLc (iEnumS K (tCons (tVar 2) tNil)) (gSq K 2 (gCons (gName 4) (gCons (gName 5) gNil))) (tTrth K (tCB (rAll K) (tCons (tLc (iZipN K (tCons (tVar 0) (tCons (tVar 5) tNil))) (gSq K 2 (gCons (gName 6) (gCons (gName 7) gNil))) tYes (tOp (rInU K) (tVar 6) (tTup (tCons (tC (.str (SX.S [45]))) (tCons (tVar 7) tNil)))) [6, 7]) tNil))) (tVar 4) [4, 5])))
theorem rs_held {K : PySem.W.Frag} : RefS K (rd_held K) bd_held := (rs_seq (rs_asg (vs := [2]) (ref_eL (ref_pFz (rp_lc (vs := [3]) (rp_rng1 (rp_cons (rp_op ro_shl (rp_c fun _ => rfl) (rp_var 1)) rp_nil)) (rg_name (by decide)) rp_yes (rp_call (rp_cons (rp_var 1) (rp_cons (rp_var 3) rp_nil)))))) (rt_name (by decide)))
  (rs_retN (ref_eN (rp_lc (vs := [4, 5]) (rp_enum (rp_cons (rp_var 2) rp_nil)) (rg_tup (rg_cons (rg_name (by decide)) (rg_cons (rg_name (by decide)) rg_nil))) (rp_tru (rp_cb ro_all (rp_cons (ref_pFz (rp_lc (vs := [6, 7]) (rp_zipN (rp_cons (rp_var 0) (rp_cons (rp_var 5) rp_nil))) (rg_tup (rg_cons (rg_name (by decide)) (rg_cons (rg_name (by decide)) rg_nil))) rp_yes (rp_op ro_in (rp_var 6) (rp_tup (rp_cons (rp_c fun _ => rfl) (rp_cons (rp_var 7) rp_nil)))))) rp_nil))) (rp_var 4)))))
theorem ln_held {K : PySem.W.Frag} {vs : List V} {H : Hp} {Q : VK} {E : XK} (h : sp_held K vs H Q E) : vs.length = 2 := ln0N (fun _ _ e => fn0N_len e) h
theorem ok_rd_held {K : PySem.W.Frag} {vs : List V} {H : Hp} {Q : VK} {E : XK} (h : sp_held K vs H Q E) : rd_held K { nx := fun _ H' => Q .non H', rt := Q } (L2.start ["_law_lane", "_law_span", "_law_bits_here", "_law_number", "_law_k", "_law_some", "_law_one", "_law_bit"] vs) H := ok0N (N := ["_law_lane", "_law_span", "_law_bits_here", "_law_number", "_law_k", "_law_some", "_law_one", "_law_bit"]) rs_held h
def sp_lanes (K : PySem.W.Frag) : Sp := sp0N K f_lanes
def rd_lanes (K : PySem.W.Frag) : TS := (tSeq (tAsg (tLst (tCons (tC (.str (SX.S []))) tNil)) (gName 1))
  (tSeq (tFor (iRng1 (tCons (tVar 0) tNil)) (gName 2) (tSeq (tAsg (tLst tNil) (gName 3))
  (tSeq (tFor (iSeq K (tVar 1)) (gName 4) (tDrop (tBM K "list" rExtend (tVar 3) (tCons (tLc (iSeq K (tC (.str (SX.S [45, 48, 49])))) (gName 5) tYes (tOp (rAddU K) (tVar 4) (tVar 5)) [5]) tNil))))
  (tAsg (tVar 3) (gName 1)))))
  (tRet (tLc (iSeq K (tVar 1)) (gName 4) tYes (tTup (tCons (tVar 4) (tCons (tCall (sp_held K) [] E0 (tCons (tVar 4) (tCons (tVar 0) tNil))) tNil))) [4]))))
theorem rs_lanes {K : PySem.W.Frag} : RefS K (rd_lanes K) bd_lanes := (rs_seq (rs_asg (vs := [1]) (ref_eL (ref_pFz (rp_lst (rp_cons (rp_c fun _ => rfl) rp_nil)))) (rt_name (by decide)))
  (rs_seq (rs_for (vs := [0, 1, 2, 3, 4, 5]) (ref_eLI (rp_rng1 (rp_cons (rp_var 0) rp_nil))) (rt_name (by decide)) (rs_seq (rs_asgN (ref_eN (rp_lst rp_nil)))
  (rs_seq (rs_for (vs := [0, 1, 2, 3, 4, 5]) (ref_eLI (rp_seq (rp_var 1))) (rt_name (by decide)) (rs_drop (re_mut rm_extend (re_cons (ref_eL (ref_pFz (rp_lc (vs := [5]) (rp_seq (rp_c fun _ => rfl)) (rg_name (by decide)) rp_yes (rp_op ro_add (rp_var 4) (rp_var 5))))) re_nil))))
  (rs_asg (vs := [1]) (re_frz (ref_eL (rp_var 3))) (rt_name (by decide))))))
  (rs_retN (ref_eN (rp_lc (vs := [4]) (rp_seq (rp_var 1)) (rg_name (by decide)) rp_yes (rp_tup (rp_cons (rp_var 4) (rp_cons (ref_pFz (rp_callN (rp_cons (rp_var 4) (rp_cons (rp_var 0) rp_nil)))) rp_nil))))))))
theorem ln_lanes {K : PySem.W.Frag} {vs : List V} {H : Hp} {Q : VK} {E : XK} (h : sp_lanes K vs H Q E) : vs.length = 1 := ln0N (fun _ _ e => fn0N_len e) h
theorem ok_rd_lanes {K : PySem.W.Frag} {vs : List V} {H : Hp} {Q : VK} {E : XK} (h : sp_lanes K vs H Q E) : rd_lanes K { nx := fun _ H' => Q .non H', rt := Q } (L2.start ["_law_span", "_law_found", "_law_place", "_law_some", "_law_lane", "_law_sign"] vs) H := ok0N (N := ["_law_span", "_law_found", "_law_place", "_law_some", "_law_lane", "_law_sign"]) rs_lanes h
def sp_set (K : PySem.W.Frag) : Sp := sp1 K f_set
def rd_set (K : PySem.W.Frag) : TS := (tSeq (tAsg (tTup (tCons (tLstRg (tRg1 (tOp rShlU (tC (.int 1)) (tVar 1)))) (tCons (tCall (sp_take K) [] E0 (tCons (tVar 0) (tCons (tC (.int 8)) tNil))) tNil))) (gSq K 2 (gCons (gName 2) (gCons (gName 3) gNil))))
  (tSeq (tAsg (tCall (sp_take K) [] E0 (tCons (tVar 0) (tCons (tOp rShlU (tC (.int 1)) (tVar 1)) tNil))) (gName 4))
  (tSeq (tAsg (tLst (tCons (tLst tNil) (tCons (tVar 2) (tCons (tLst (tCons (tVar 4) tNil)) (tCons (tOp (rAddU K) (tSl (rSlU K) (tVar 2) tNoPart (tPart (tVar 4))) (tSl (rSlU K) (tVar 2) (tPart (tOp (rAddU K) (tVar 4) (tC (.int 1)))) tNoPart)) tNil))))) (gName 5))
  (tSeq (tIfS (tTest (tOp (rLtU K) (tVar 3) (tC (.int 4)))) (tRet (tOp (rIx K) (tVar 5) (tVar 3))) tNext)
  (tSeq (tIfS (tTest (tOp (rEqU K) (tVar 3) (tC (.int 4)))) (tRet (tLc (iSeq K (tVar 2)) (gName 6) (tTest (tOp (rEqU K) (tOp rModU (tBM K "str" rCount (tCall (sp_bits K) [] E0 (tCons (tVar 1) (tCons (tVar 6) tNil))) (tCons (tC (.str (SX.S [49]))) tNil)) (tC (.int 2))) (tOp rModU (tVar 4) (tC (.int 2))))) (tVar 6) [6])) tNext)
  (tRet (tLc (iSeq K (tVar 2)) (gName 6) (tTest (tOp rGtU (tCall (sp_take K) [] E0 (tCons (tVar 0) (tCons (tOp (rAddU K) (tC (.int 2)) (tOp rModU (tVar 3) (tC (.int 2)))) tNil))) (tC (.int 0)))) (tVar 6) [6])))))))
theorem rs_set {K : PySem.W.Frag} : RefS K (rd_set K) bd_set := (rs_seq (rs_parT (re_wcons (ref_eL (ref_pFz (rp_rg1 (rp_op ro_shl (rp_c fun _ => rfl) (rp_var 1))))) (re_wcons (re_callIo (re_vio (re_vcons (ref_eL (rp_c fun _ => rfl)) re_vnil))) re_wnil)))
  (rs_seq (rs_asg (vs := [4]) (re_callIo (re_vio (re_vcons (ref_eL (rp_op ro_shl (rp_c fun _ => rfl) (rp_var 1))) re_vnil))) (rt_name (by decide)))
  (rs_seq (rs_asg (vs := [5]) (ref_eL (ref_pFz (rp_lst (rp_cons (ref_pFz (rp_lst rp_nil)) (rp_cons (rp_var 2) (rp_cons (ref_pFz (rp_lst (rp_cons (rp_var 4) rp_nil))) (rp_cons (rp_op ro_add (rp_sl ro_sl (rp_var 2) rp_nopart (rp_part (rp_var 4))) (rp_sl ro_sl (rp_var 2) (rp_part (rp_op ro_add (rp_var 4) (rp_c fun _ => rfl))) rp_nopart)) rp_nil))))))) (rt_name (by decide)))
  (rs_seq (rs_if (ref_eT (rp_test (rp_op ro_lt (rp_var 3) (rp_c fun _ => rfl)))) (rs_ret (ref_eL (rp_op ro_ix (rp_var 5) (rp_var 3)))) rs_next)
  (rs_seq (rs_if (ref_eT (rp_test (rp_op ro_eq (rp_var 3) (rp_c fun _ => rfl)))) (rs_ret (ref_eL (ref_pFz (rp_lc (vs := [6]) (rp_seq (rp_var 2)) (rg_name (by decide)) (rp_test (rp_op ro_eq (rp_op ro_mod (rp_bm ro_count (rp_call (rp_cons (rp_var 1) (rp_cons (rp_var 6) rp_nil))) (rp_cons (rp_c fun _ => rfl) rp_nil)) (rp_c fun _ => rfl)) (rp_op ro_mod (rp_var 4) (rp_c fun _ => rfl)))) (rp_var 6))))) rs_next)
  (rs_ret (ref_eFz (re_lc (vs := [6]) (ref_eLI (rp_seq (rp_var 2))) (rt_name (by decide)) (re_test (re_op ro_gt (re_callIo (re_vio (re_vcons (ref_eL (rp_op ro_add (rp_c fun _ => rfl) (rp_op ro_mod (rp_var 3) (rp_c fun _ => rfl)))) re_vnil))) (ref_eL (rp_c fun _ => rfl)))) (ref_eL (rp_var 6))))))))))
theorem ln_set {K : PySem.W.Frag} {vs : List V} {H : Hp} {Q : VK} {E : XK} (h : sp_set K vs H Q E) : vs.length = 2 := ln1 h
theorem ok_rd_set {K : PySem.W.Frag} {vs : List V} {H : Hp} {Q : VK} {E : XK} (h : sp_set K vs H Q E) : rd_set K { nx := fun _ H' => Q .non H', rt := Q } (L2.start ["_law_box_here", "_law_span", "_law_every", "_law_way", "_law_one", "_law_some", "_law_number"] vs) H := ok1 (N := ["_law_box_here", "_law_span", "_law_every", "_law_way", "_law_one", "_law_some", "_law_number"]) rs_set h
def sp_l_widest (K : PySem.W.Frag) : Sp := sp0N K f_l_widest
def rd_l_widest (K : PySem.W.Frag) : TS := (tSeq (tAsg (tCB (rSumU K) (tCons (tLc (iSeq K (tVar 1)) (gName 8) tYes (tOp rShlU (tC (.int 1)) (tVar 8)) [8]) tNil)) (gName 2))
  (tSeq (tAsg (tLc (iSeq K (tCall (sp_lanes K) [] E0 (tCons (tVar 0) tNil))) (gSq K 2 (gCons (gName 5) (gCons (gName 6) gNil))) tYes (tTup (tCons (tVar 5) (tCons (tVar 6) (tCons (tCB (rSumU K) (tCons (tLc (iSeq K (tVar 6)) (gName 8) tYes (tOp rShlU (tC (.int 1)) (tVar 8)) [8]) tNil)) tNil)))) [5, 6]) (gName 3))
  (tSeq (tAsg (tLc (iSeq K (tVar 3)) (gName 9) (tTest (tOp (rEqU K) (tOp rOrU (tOp (rIx K) (tVar 9) (tC (.int 2))) (tVar 2)) (tVar 2))) (tVar 9) [9]) (gName 3))
  (tSeq (tAsg (tLst tNil) (gName 4))
  (tSeq (tFor (iSeq K (tVar 3)) (gSq K 3 (gCons (gName 5) (gCons (gName 6) (gCons (gName 7) gNil)))) (tIfS (tTest (tOp (rEqU K) (tLc (iSeq K (tVar 3)) (gName 9) (tAnd (tTest (tOp (rNeU K) (tOp (rIx K) (tVar 9) (tC (.int 2))) (tVar 7))) (tTest (tOp (rEqU K) (tOp rOrU (tOp (rIx K) (tVar 9) (tC (.int 2))) (tVar 7)) (tOp (rIx K) (tVar 9) (tC (.int 2)))))) (tVar 9) [9]) (tLst tNil))) (tDrop (tBM K "list" rAppend (tVar 4) (tCons (tTup (tCons (tVar 5) (tCons (tVar 6) tNil))) tNil))) tNext))
  (tRet (tVar 4)))))))
theorem rs_l_widest {K : PySem.W.Frag} : RefS K (rd_l_widest K) bd_l_widest := (rs_seq (rs_asg (vs := [2]) (ref_eL (rp_cb ro_sum (rp_cons (ref_pFz (rp_lc (vs := [8]) (rp_seq (rp_var 1)) (rg_name (by decide)) rp_yes (rp_op ro_shl (rp_c fun _ => rfl) (rp_var 8)))) rp_nil))) (rt_name (by decide)))
  (rs_seq (rs_asg (vs := [3]) (ref_eL (ref_pFz (rp_lc (vs := [5, 6]) (rp_seq (ref_pFz (rp_callN (rp_cons (rp_var 0) rp_nil)))) (rg_tup (rg_cons (rg_name (by decide)) (rg_cons (rg_name (by decide)) rg_nil))) rp_yes (rp_tup (rp_cons (rp_var 5) (rp_cons (rp_var 6) (rp_cons (rp_cb ro_sum (rp_cons (ref_pFz (rp_lc (vs := [8]) (rp_seq (rp_var 6)) (rg_name (by decide)) rp_yes (rp_op ro_shl (rp_c fun _ => rfl) (rp_var 8)))) rp_nil)) rp_nil))))))) (rt_name (by decide)))
  (rs_seq (rs_asg (vs := [3]) (ref_eL (ref_pFz (rp_lc (vs := [9]) (rp_seq (rp_var 3)) (rg_name (by decide)) (rp_test (rp_op ro_eq (rp_op ro_or (rp_op ro_ix (rp_var 9) (rp_c fun _ => rfl)) (rp_var 2)) (rp_var 2))) (rp_var 9)))) (rt_name (by decide)))
  (rs_seq (rs_asgN (ref_eN (rp_lst rp_nil)))
  (rs_seq (rs_for (vs := [0, 1, 2, 3, 4, 5, 6, 7, 8, 9]) (ref_eLI (rp_seq (rp_var 3))) (rt_tup (rt_cons (rt_name (by decide)) (rt_cons (rt_name (by decide)) (rt_cons (rt_name (by decide)) rt_nil)))) (rs_if (ref_eT (rp_test (rp_op ro_eq (ref_pFz (rp_lc (vs := [9]) (rp_seq (rp_var 3)) (rg_name (by decide)) (rp_and (rp_test (rp_op ro_ne (rp_op ro_ix (rp_var 9) (rp_c fun _ => rfl)) (rp_var 7))) (rp_test (rp_op ro_eq (rp_op ro_or (rp_op ro_ix (rp_var 9) (rp_c fun _ => rfl)) (rp_var 7)) (rp_op ro_ix (rp_var 9) (rp_c fun _ => rfl))))) (rp_var 9))) (ref_pFz (rp_lst rp_nil))))) (rs_drop (re_mut rm_append (re_cons (ref_eL (rp_tup (rp_cons (rp_var 5) (rp_cons (rp_var 6) rp_nil)))) re_nil))) rs_next))
  (rs_retN (re_give 4)))))))
theorem ln_l_widest {K : PySem.W.Frag} {vs : List V} {H : Hp} {Q : VK} {E : XK} (h : sp_l_widest K vs H Q E) : vs.length = 2 := ln0N (fun _ _ e => fn0N_len e) h
theorem ok_rd_l_widest {K : PySem.W.Frag} {vs : List V} {H : Hp} {Q : VK} {E : XK} (h : sp_l_widest K vs H Q E) : rd_l_widest K { nx := fun _ H' => Q .non H', rt := Q } (L2.start ["_law_span", "_law_digits", "_law_wanted", "_law_some", "_law_found", "_law_lane", "_law_held_here", "_law_mask", "_law_number", "_law_row"] vs) H := ok0N (N := ["_law_span", "_law_digits", "_law_wanted", "_law_some", "_law_found", "_law_lane", "_law_held_here", "_law_mask", "_law_number", "_law_row"]) rs_l_widest h
def sp_right (K : PySem.W.Frag) : Sp := sp1 K f_right
def rd_right (K : PySem.W.Frag) : TS := (tSeq (tFor (iRng1 (tCons (tC (.int 4)) tNil)) (gName 1) (tSeq (tAsg (tOp (rAddU K) (tC (.int 1)) (tCall (sp_take K) [] E0 (tCons (tVar 0) (tCons (tC (.int 4)) tNil)))) (gName 2))
  (tSeq (tAsg (tCall (sp_set K) [] E0 (tCons (tVar 0) (tCons (tVar 2) tNil))) (gName 3))
  (tSeq (tPar 4 5 (tCons (tCB (rRepr K) (tCons (tVar 3) tNil)) (tCons (tCB (rRepr K) (tCons (tLc (iSeq K (tCall (sp_l_widest K) [] E0 (tCons (tVar 2) (tCons (tVar 3) tNil)))) (gSq K 2 (gCons (gName 7) (gCons (gName 8) gNil))) tYes (tVar 7) [7, 8]) tNil)) tNil)))
  (tSeq (tAsg (tCall (sp_widest K) [] E0 (tCons (tVar 2) (tCons (tVar 3) tNil))) (gName 6))
  (tSeq (tIfS (tOr (tTest (tOp (rNeU K) (tCB (rRepr K) (tCons (tVar 6) tNil)) (tVar 5))) (tTest (tOp (rNeU K) (tCB (rRepr K) (tCons (tVar 3) tNil)) (tVar 4)))) (tRet (tC (.bl false))) tNext)
  (tSeq (tDrop (tBM K "list" rAppend (tVar 6) (tCons (tC (.str (SX.S [109, 111, 114, 101]))) tNil)))
  (tIfS (tOr (tTest (tOp (rNeU K) (tCB (rRepr K) (tCons (tCallN 0 2 (sp_widest K) (byIxV [1, 0]) E0 tNil (tCons (tCB (rTupleU K) (tCons (tVar 3) tNil)) (tCons (tVar 2) tNil))) tNil)) (tVar 5))) (tTest (tOp (rNeU K) (tCB (rRepr K) (tCons (tCall (sp_widest K) [] E0 (tCons (tVar 2) (tCons (tVar 3) tNil))) tNil)) (tVar 5)))) (tRet (tC (.bl false))) tNext))))))))
  (tRet (tC (.bl true))))
theorem rs_right {K : PySem.W.Frag} : RefS K (rd_right K) bd_right := (rs_seq (rs_for (vs := [0, 1, 2, 3, 4, 5, 6, 7, 8]) (ref_eLI (rp_rng1 (rp_cons (rp_c fun _ => rfl) rp_nil))) (rt_name (by decide)) (rs_seq (rs_asg (vs := [2]) (re_op ro_add (ref_eL (rp_c fun _ => rfl)) (re_callIo (re_vio (re_vcons (ref_eL (rp_c fun _ => rfl)) re_vnil)))) (rt_name (by decide)))
  (rs_seq (rs_asg (vs := [3]) (re_callIo (re_vio (re_vcons (ref_eL (rp_var 2)) re_vnil))) (rt_name (by decide)))
  (rs_seq (rs_par (re_wcons (ref_eL (rp_cb ro_repr (rp_cons (rp_var 3) rp_nil))) (re_wcons (ref_eL (rp_cb ro_repr (rp_cons (ref_pFz (rp_lc (vs := [7, 8]) (rp_seq (ref_pFz (rp_callN (rp_cons (rp_var 2) (rp_cons (rp_var 3) rp_nil))))) (rg_tup (rg_cons (rg_name (by decide)) (rg_cons (rg_name (by decide)) rg_nil))) rp_yes (rp_var 7))) rp_nil))) re_wnil)))
  (rs_seq (rs_asgN (ref_eN (rp_callN (rp_cons (rp_var 2) (rp_cons (rp_var 3) rp_nil)))))
  (rs_seq (rs_if (ref_eT (rp_or (rp_test (rp_op ro_ne (rp_cb ro_repr (rp_cons (rp_var 6) rp_nil)) (rp_var 5))) (rp_test (rp_op ro_ne (rp_cb ro_repr (rp_cons (rp_var 3) rp_nil)) (rp_var 4))))) (rs_ret (ref_eL (rp_c fun _ => rfl))) rs_next)
  (rs_seq (rs_drop (re_mut rm_append (re_cons (ref_eL (rp_c fun _ => rfl)) re_nil)))
  (rs_if (ref_eT (rp_or (rp_test (rp_op ro_ne (rp_cb ro_repr (rp_cons (ref_pFz (rp_callKN rp_nil (rp_cons (rp_cb ro_tuple (rp_cons (rp_var 3) rp_nil)) (rp_cons (rp_var 2) rp_nil)))) rp_nil)) (rp_var 5))) (rp_test (rp_op ro_ne (rp_cb ro_repr (rp_cons (ref_pFz (rp_callN (rp_cons (rp_var 2) (rp_cons (rp_var 3) rp_nil)))) rp_nil)) (rp_var 5))))) (rs_ret (ref_eL (rp_c fun _ => rfl))) rs_next))))))))
  (rs_ret (ref_eL (rp_c fun _ => rfl))))
theorem ln_right {K : PySem.W.Frag} {vs : List V} {H : Hp} {Q : VK} {E : XK} (h : sp_right K vs H Q E) : vs.length = 1 := ln1 h
theorem ok_rd_right {K : PySem.W.Frag} {vs : List V} {H : Hp} {Q : VK} {E : XK} (h : sp_right K vs H Q E) : rd_right K { nx := fun _ H' => Q .non H', rt := Q } (L2.start ["_law_box_here", "_law_turn", "_law_span", "_law_digits", "_law_kept", "_law_due", "_law_found", "_law_lane", "_law_held_here"] vs) H := ok1 (N := ["_law_box_here", "_law_turn", "_law_span", "_law_digits", "_law_kept", "_law_due", "_law_found", "_law_lane", "_law_held_here"]) rs_right h
def rd_law (K : PySem.W.Frag) : TS := (tSeq (tAsg (tCall (sp_cells K) [] E0 (tCons (tVar 0) (tCons (tC (.int 4)) tNil))) (gName 1))
  (tRet (tCB (rAll K) (tCons (tLc (iRng1 (tCons (tCB (rLenU K) (tCons (tVar 1) tNil)) tNil)) (gName 2) tYes (tCall (sp_right K) [] E0 (tCons (tCall (sp_box K) [] E0 (tCons (tVar 1) (tCons (tVar 2) tNil))) tNil)) [2]) tNil))))
theorem rs_law {K : PySem.W.Frag} : RefS K (rd_law K) bd_law := (rs_seq (rs_asg (vs := [1]) (ref_eL (ref_pFz (rp_callN (rp_cons (rp_var 0) (rp_cons (rp_c fun _ => rfl) rp_nil))))) (rt_name (by decide)))
  (rs_ret (re_cb ro_all (re_cons (ref_eFz (re_lc (vs := [2]) (ref_eLI (rp_rng1 (rp_cons (rp_cb ro_len (rp_cons (rp_var 1) rp_nil)) rp_nil))) (rt_name (by decide)) re_yes (re_callT (ref_eN (rp_callN (rp_cons (rp_var 1) (rp_cons (rp_var 2) rp_nil)))) re_nil))) re_nil))))
theorem ok_rd_law {K : PySem.W.Frag} {vs : List V} {H : Hp} {Q : VK} {E : XK} (h : sp_law K vs H Q E) : rd_law K { nx := fun _ H' => Q .non H', rt := Q } (L2.start ["_law_script", "_law_cells_here", "_law_k"] vs) H := ok0 (N := ["_law_script", "_law_cells_here", "_law_k"]) rs_law (law_sp law_true h)
/-! ### the text -/
def topS (i : Nat) : Stmt := PySem.Challenge.pw_masklanes_k15_widest_lanes.main.body.getD i (.Pass ⟨0, 0, 0, 0⟩)
abbrev st_sheet : Stmt := topS 4
theorem sc_sheet : FnScope ["lane", "found", "size", "sign"] ["lane"] (defScope st_sheet) := ⟨rfl, rfl, rfl, by decide +kernel, rfl, by decide +kernel, by decide +kernel⟩
abbrev st_sheet_of : Stmt := topS 5
theorem sc_sheet_of : FnScope ["numbers", "found", "number"] ["numbers"] (defScope st_sheet_of) := ⟨rfl, rfl, rfl, by decide +kernel, rfl, by decide +kernel, by decide +kernel⟩
abbrev st_all_lanes : Stmt := topS 7
theorem sc_all_lanes : FnScope ["width", "found", "place", "lane", "sign"] ["width"] (defScope st_all_lanes) := ⟨rfl, rfl, rfl, by decide +kernel, rfl, by decide +kernel, by decide +kernel⟩
abbrev st_wider : Stmt := topS 8
theorem sc_wider : FnScope ["lane", "place", "sign"] ["lane"] (defScope st_wider) := ⟨rfl, rfl, rfl, by decide +kernel, rfl, by decide +kernel, by decide +kernel⟩
abbrev st_widest : Stmt := topS 9
theorem sc_widest : FnScope ["width", "numbers", "wanted", "some", "lane", "other"] ["width", "numbers"] (defScope st_widest) := ⟨rfl, rfl, rfl, by decide +kernel, rfl, by decide +kernel, by decide +kernel⟩
abbrev st_box : Stmt := topS 11
theorem sc_box : FnScope ["_law_cells_here", "_law_k", "_law_cell"] ["_law_cells_here", "_law_k"] (defScope st_box) := ⟨rfl, rfl, rfl, by decide +kernel, rfl, by decide +kernel, by decide +kernel⟩
abbrev st_take : Stmt := topS 12
theorem sc_take : FnScope ["_law_box_here", "_law_amount", "_law_found", "_law_mixed"] ["_law_box_here", "_law_amount"] (defScope st_take) := ⟨rfl, rfl, rfl, by decide +kernel, rfl, by decide +kernel, by decide +kernel⟩
abbrev st_cells : Stmt := topS 13
theorem sc_cells : FnScope ["_law_script", "_law_most", "_law_cells_here", "_law_k", "_law_cell"] ["_law_script", "_law_most"] (defScope st_cells) := ⟨rfl, rfl, rfl, by decide +kernel, rfl, by decide +kernel, by decide +kernel⟩
abbrev st_bits : Stmt := topS 14
theorem sc_bits : FnScope ["_law_span", "_law_number", "_law_k"] ["_law_span", "_law_number"] (defScope st_bits) := ⟨rfl, rfl, rfl, by decide +kernel, rfl, by decide +kernel, by decide +kernel⟩
abbrev st_held : Stmt := topS 15
theorem sc_held : FnScope ["_law_lane", "_law_span", "_law_bits_here", "_law_number", "_law_k", "_law_some", "_law_one", "_law_bit"] ["_law_lane", "_law_span"] (defScope st_held) := ⟨rfl, rfl, rfl, by decide +kernel, rfl, by decide +kernel, by decide +kernel⟩
abbrev st_lanes : Stmt := topS 16
theorem sc_lanes : FnScope ["_law_span", "_law_found", "_law_place", "_law_some", "_law_lane", "_law_sign"] ["_law_span"] (defScope st_lanes) := ⟨rfl, rfl, rfl, by decide +kernel, rfl, by decide +kernel, by decide +kernel⟩
abbrev st_set : Stmt := topS 17
theorem sc_set : FnScope ["_law_box_here", "_law_span", "_law_every", "_law_way", "_law_one", "_law_some", "_law_number"] ["_law_box_here", "_law_span"] (defScope st_set) := ⟨rfl, rfl, rfl, by decide +kernel, rfl, by decide +kernel, by decide +kernel⟩
abbrev st_l_widest : Stmt := topS 18
theorem sc_l_widest : FnScope ["_law_span", "_law_digits", "_law_wanted", "_law_some", "_law_found", "_law_lane", "_law_held_here", "_law_mask", "_law_number", "_law_row"] ["_law_span", "_law_digits"] (defScope st_l_widest) := ⟨rfl, rfl, rfl, by decide +kernel, rfl, by decide +kernel, by decide +kernel⟩
abbrev st_right : Stmt := topS 19
theorem sc_right : FnScope ["_law_box_here", "_law_turn", "_law_span", "_law_digits", "_law_kept", "_law_due", "_law_found", "_law_lane", "_law_held_here"] ["_law_box_here"] (defScope st_right) := ⟨rfl, rfl, rfl, by decide +kernel, rfl, by decide +kernel, by decide +kernel⟩
abbrev st_law : Stmt := topS 20
theorem sc_law : FnScope ["_law_script", "_law_cells_here", "_law_k"] ["_law_script"] (defScope st_law) := ⟨rfl, rfl, rfl, by decide +kernel, rfl, by decide +kernel, by decide +kernel⟩
/-- what the top has left -/
structure Txt (w : World) (K : PySem.W.Frag) (mg : Str → Option Value) where
  f_sheet : Addr
  fd_sheet : FuncData
  F_sheet : Fun K "sheet" "sheet" st_sheet f_sheet fd_sheet
  b_sheet : Binds K fd_sheet ["lane"] []
  g_sheet : mg "sheet" = some (.ref f_sheet)
  f_sheet_of : Addr
  fd_sheet_of : FuncData
  F_sheet_of : Fun K "sheet_of" "sheet_of" st_sheet_of f_sheet_of fd_sheet_of
  b_sheet_of : Binds K fd_sheet_of ["numbers"] []
  g_sheet_of : mg "sheet_of" = some (.ref f_sheet_of)
  f_all_lanes : Addr
  fd_all_lanes : FuncData
  F_all_lanes : Fun K "all_lanes" "all_lanes" st_all_lanes f_all_lanes fd_all_lanes
  b_all_lanes : Binds K fd_all_lanes ["width"] []
  g_all_lanes : mg "all_lanes" = some (.ref f_all_lanes)
  f_wider : Addr
  fd_wider : FuncData
  F_wider : Fun K "wider" "wider" st_wider f_wider fd_wider
  b_wider : Binds K fd_wider ["lane"] []
  g_wider : mg "wider" = some (.ref f_wider)
  f_widest : Addr
  fd_widest : FuncData
  F_widest : Fun K "widest" "widest" st_widest f_widest fd_widest
  b_widest : Binds K fd_widest ["width", "numbers"] []
  g_widest : mg "widest" = some (.ref f_widest)
  f_box : Addr
  fd_box : FuncData
  F_box : Fun K "_law_box" "_law_box" st_box f_box fd_box
  b_box : Binds K fd_box ["_law_cells_here", "_law_k"] []
  g_box : mg "_law_box" = some (.ref f_box)
  f_take : Addr
  fd_take : FuncData
  F_take : Fun K "_law_take" "_law_take" st_take f_take fd_take
  b_take : Binds K fd_take ["_law_box_here", "_law_amount"] []
  g_take : mg "_law_take" = some (.ref f_take)
  f_cells : Addr
  fd_cells : FuncData
  F_cells : Fun K "_law_cells" "_law_cells" st_cells f_cells fd_cells
  b_cells : Binds K fd_cells ["_law_script", "_law_most"] []
  g_cells : mg "_law_cells" = some (.ref f_cells)
  f_bits : Addr
  fd_bits : FuncData
  F_bits : Fun K "_law_bits" "_law_bits" st_bits f_bits fd_bits
  b_bits : Binds K fd_bits ["_law_span", "_law_number"] []
  g_bits : mg "_law_bits" = some (.ref f_bits)
  f_held : Addr
  fd_held : FuncData
  F_held : Fun K "_law_held" "_law_held" st_held f_held fd_held
  b_held : Binds K fd_held ["_law_lane", "_law_span"] []
  g_held : mg "_law_held" = some (.ref f_held)
  f_lanes : Addr
  fd_lanes : FuncData
  F_lanes : Fun K "_law_lanes" "_law_lanes" st_lanes f_lanes fd_lanes
  b_lanes : Binds K fd_lanes ["_law_span"] []
  g_lanes : mg "_law_lanes" = some (.ref f_lanes)
  f_set : Addr
  fd_set : FuncData
  F_set : Fun K "_law_set" "_law_set" st_set f_set fd_set
  b_set : Binds K fd_set ["_law_box_here", "_law_span"] []
  g_set : mg "_law_set" = some (.ref f_set)
  f_l_widest : Addr
  fd_l_widest : FuncData
  F_l_widest : Fun K "_law_widest" "_law_widest" st_l_widest f_l_widest fd_l_widest
  b_l_widest : Binds K fd_l_widest ["_law_span", "_law_digits"] []
  g_l_widest : mg "_law_widest" = some (.ref f_l_widest)
  f_right : Addr
  fd_right : FuncData
  F_right : Fun K "_law_right" "_law_right" st_right f_right fd_right
  b_right : Binds K fd_right ["_law_box_here"] []
  g_right : mg "_law_right" = some (.ref f_right)
  f_law : Addr
  fd_law : FuncData
  F_law : Fun K "law" "law" st_law f_law fd_law
  b_law : Binds K fd_law ["_law_script"] []
  g_law : mg "law" = some (.ref f_law)
  kb_widest_0_numbers_width : KBn K fd_widest ["width", "numbers"] 0 ["numbers", "width"] (byIx [1, 0]) (byIxV [1, 0])
  v_ANY : Value
  c_ANY : mg "ANY" = some v_ANY
  r_ANY : RelV (.str (SX.S [45])) v_ANY
  v_LANE_SIGNS : Value
  c_LANE_SIGNS : mg "LANE_SIGNS" = some v_LANE_SIGNS
  r_LANE_SIGNS : RelV (.str (SX.S [48, 49, 45])) v_LANE_SIGNS
  z_abs : mg "abs" = none
  z_all : mg "all" = none
  z_any : mg "any" = none
  z_enumerate : mg "enumerate" = none
  z_int : mg "int" = none
  z_len : mg "len" = none
  z_list : mg "list" = none
  z_range : mg "range" = none
  z_repr : mg "repr" = none
  z_reversed : mg "reversed" = none
  z_sorted : mg "sorted" = none
  z_str : mg "str" = none
  z_sum : mg "sum" = none
  z_tuple : mg "tuple" = none
  z_zip : mg "zip" = none
section
variable {P : Program} {w : World} {K : PySem.W.Frag} {mg : Str → Option Value} {base : Heap}
theorem dv_sheet (T : Txt w K mg) {f : Addr} {cdv : Value} {A : Around} {outer : List PySem.Env} {s : Shared} {H : Hp} {E : XK} (hr : Room 0 (A.deeper (envOfC "sheet" (defScope st_sheet) s.heap.objs.size f cdv))) (hgd : A.guards = some []) :
    PSs (cxOf CX0 P w K mg base ["lane", "found", "size", "sign"] "sheet" (defScope st_sheet) f cdv A outer s H E).nox (defBody st_sheet) (rd_sheet K) :=
  (pss_cons (ps_asg (pe_tup (pa_cons pe_int (pa_cons pe_int pa_nil))) (pg_sq rfl (pgs_cons (pg_name (i := 1) sc_sheet.nd rfl (by first | exact .inl rfl | exact .inr rfl)) (pgs_cons (pg_name (i := 2) sc_sheet.nd rfl (by first | exact .inl rfl | exact .inr rfl)) pgs_nil))))
  (pss_cons (ps_for PassesOwn.never rfl (RS.pi_revS (by rfl) T.z_reversed (pv 0)) (pg_name (i := 3) sc_sheet.nd rfl (by first | exact .inl rfl | exact .inr rfl)) (pss_cons (ps_if (pt_cmpR (u_eq hr.units) (pv 3) pe_str (nomark _)) (pss_one (ps_aug (i := 1) sc_sheet.nd rfl (by first | exact Or.inl rfl | exact Or.inr rfl) (pv 2) u_ipshl)) (pss_one (ps_if (pt_cmpR (u_eq hr.units) (pv 3) (pe_glob (v := (.str (SX.S [45]))) (by rfl) T.c_ANY T.r_ANY) (nomark _)) (pss_one (ps_aug (i := 1) sc_sheet.nd rfl (by first | exact Or.inl rfl | exact Or.inr rfl) (pe_op u_shl (pv 1) (pv 2)) u_ipor)) pss_nil)))
  (pss_one (ps_aug (i := 2) sc_sheet.nd rfl (by first | exact Or.inl rfl | exact Or.inr rfl) pe_int u_ipmul))))
  (pss_one (ps_ret (pv 1)))))
theorem ok_sheet (T : Txt w K mg) : FnG P w K mg base CX0 1 T.f_sheet T.fd_sheet ["lane"] (sp_sheet K) := by
  refine okG T.F_sheet sc_sheet (fun vs H Q E h => ln_sheet h) (fun cdv A outer s H vs Q E hr hgd h => ⟨_, dv_sheet T hr hgd, ok_rd_sheet h⟩)
theorem dv_sheet_of (T : Txt w K mg) {f : Addr} {cdv : Value} {A : Around} {outer : List PySem.Env} {s : Shared} {H : Hp} {E : XK} (hr : Room 0 (A.deeper (envOfC "sheet_of" (defScope st_sheet_of) s.heap.objs.size f cdv))) (hgd : A.guards = some []) :
    PSs (cxOf CX0 P w K mg base ["numbers", "found", "number"] "sheet_of" (defScope st_sheet_of) f cdv A outer s H E).nox (defBody st_sheet_of) (rd_sheet_of K) :=
  (pss_cons (ps_set (i := 1) sc_sheet_of.nd rfl (by first | exact Or.inl rfl | exact Or.inr rfl) pe_int)
  (pss_cons (ps_for PassesOwn.never rfl (pi_seq (pv 0)) (pg_name (i := 2) sc_sheet_of.nd rfl (by first | exact .inl rfl | exact .inr rfl)) (pss_one (ps_aug (i := 1) sc_sheet_of.nd rfl (by first | exact Or.inl rfl | exact Or.inr rfl) (pe_op u_shl pe_int (pv 2)) u_ipor)))
  (pss_one (ps_ret (pv 1)))))
theorem ok_sheet_of (T : Txt w K mg) : FnG P w K mg base CX0 1 T.f_sheet_of T.fd_sheet_of ["numbers"] (sp_sheet_of K) := by
  refine okG T.F_sheet_of sc_sheet_of (fun vs H Q E h => ln_sheet_of h) (fun cdv A outer s H vs Q E hr hgd h => ⟨_, dv_sheet_of T hr hgd, ok_rd_sheet_of h⟩)
theorem dv_all_lanes (T : Txt w K mg) {f : Addr} {cdv : Value} {A : Around} {outer : List PySem.Env} {s : Shared} {H : Hp} {E : XK} (hr : Room 0 (A.deeper (envOfC "all_lanes" (defScope st_all_lanes) s.heap.objs.size f cdv))) (hgd : A.guards = some []) :
    PSs (cxOf CX0 P w K mg base ["width", "found", "place", "lane", "sign"] "all_lanes" (defScope st_all_lanes) f cdv A outer s H E).nox (defBody st_all_lanes) (rd_all_lanes K) :=
  (pss_cons (ps_set (i := 1) sc_all_lanes.nd rfl (by first | exact Or.inl rfl | exact Or.inr rfl) (pe_lst (pa_cons pe_str pa_nil)))
  (pss_cons (ps_for PassesOwn.never rfl (pi_range1 (by rfl) T.z_range (pa_cons (pv 0) pa_nil)) (pg_name (i := 2) sc_all_lanes.nd rfl (by first | exact .inl rfl | exact .inr rfl)) (pss_one (ps_setLc2 (i := 1) (own := [("lane", 3), ("sign", 4)]) (vs1 := [4]) rfl sc_all_lanes.nd rfl rfl (sw_true rfl rfl rfl (by decide +kernel)) (pi_seq (pv 1)) (blkOk_by (own := [("lane", 3), ("sign", 4)]) (by kernel_rfl)) (by decide) (fun _ _ _ _ _ => (pg_name (i := 3) sc_all_lanes.nd rfl (by first | exact .inl rfl | exact .inr rfl))) (fun _ _ _ _ _ => pts_nil) (fun _ _ _ _ _ => (pi_seq (pe_callB (cr_sortTx rfl) (by rfl) T.z_sorted (by decide +kernel) (pa_cons (pe_glob (v := (.str (SX.S [48, 49, 45]))) (by rfl) T.c_LANE_SIGNS T.r_LANE_SIGNS) pa_nil)))) (fun _ _ _ _ _ => (pg_name (i := 4) sc_all_lanes.nd rfl (by first | exact .inl rfl | exact .inr rfl))) (fun _ _ _ _ _ => pts_nil) (fun _ _ _ _ _ => (pe_op u_add (pv 3) (pv 4))))))
  (pss_one (ps_ret (pv 1)))))
theorem ok_all_lanes (T : Txt w K mg) : FnG P w K mg base CX0 1 T.f_all_lanes T.fd_all_lanes ["width"] (sp_all_lanes K) := by
  refine okG T.F_all_lanes sc_all_lanes (fun vs H Q E h => ln_all_lanes h) (fun cdv A outer s H vs Q E hr hgd h => ⟨_, dv_all_lanes T hr hgd, ok_rd_all_lanes h⟩)
theorem dv_wider (T : Txt w K mg) {f : Addr} {cdv : Value} {A : Around} {outer : List PySem.Env} {s : Shared} {H : Hp} {E : XK} (hr : Room 0 (A.deeper (envOfC "wider" (defScope st_wider) s.heap.objs.size f cdv))) (hgd : A.guards = some []) :
    PSs (cxOf CX0 P w K mg base ["lane", "place", "sign"] "wider" (defScope st_wider) f cdv A outer s H E).nox (defBody st_wider) (rd_wider K) :=
  (pss_one (ps_ret (pe_lc (own := [("place", 1), ("sign", 2)]) rfl sc_wider.nd (pi_enumS (by rfl) T.z_enumerate (pa_cons (pv 0) pa_nil)) (blkOk_by (own := [("place", 1), ("sign", 2)]) (by kernel_rfl)) (fun _ _ _ _ _ => (pg_sq rfl (pgs_cons (pg_name (i := 1) sc_wider.nd rfl (by first | exact .inl rfl | exact .inr rfl)) (pgs_cons (pg_name (i := 2) sc_wider.nd rfl (by first | exact .inl rfl | exact .inr rfl)) pgs_nil)))) (fun _ _ _ _ _ => (pts_one (pt_cmpR (u_ne hr.units) (pv 2) (pe_glob (v := (.str (SX.S [45]))) (by rfl) T.c_ANY T.r_ANY) (nomark _)))) (fun _ _ _ _ _ => (pe_op u_add (pe_op u_add (pe_slice u_sl (pv 0) po_none (po_some (pv 1))) (pe_glob (v := (.str (SX.S [45]))) (by rfl) T.c_ANY T.r_ANY)) (pe_slice u_sl (pv 0) (po_some (pe_op u_add (pv 1) pe_int)) po_none))))))
theorem ok_wider (T : Txt w K mg) : FnG P w K mg base CX0 1 T.f_wider T.fd_wider ["lane"] (sp_wider K) := by
  refine okG T.F_wider sc_wider (fun vs H Q E h => ln_wider h) (fun cdv A outer s H vs Q E hr hgd h => ⟨_, dv_wider T hr hgd, ok_rd_wider h⟩)
theorem dv_widest (T : Txt w K mg) {f : Addr} {cdv : Value} {A : Around} {outer : List PySem.Env} {s : Shared} {H : Hp} {E : XK} (G_all_lanes : FnG P w K mg base CX0 1 T.f_all_lanes T.fd_all_lanes ["width"] (sp_all_lanes K)) (G_sheet : FnG P w K mg base CX0 1 T.f_sheet T.fd_sheet ["lane"] (sp_sheet K)) (G_sheet_of : FnG P w K mg base CX0 1 T.f_sheet_of T.fd_sheet_of ["numbers"] (sp_sheet_of K)) (G_wider : FnG P w K mg base CX0 1 T.f_wider T.fd_wider ["lane"] (sp_wider K)) (hr : Room 1 (A.deeper (envOfC "widest" (defScope st_widest) s.heap.objs.size f cdv))) (hgd : A.guards = some []) :
    PSs (cxOf CX0 P w K mg base ["width", "numbers", "wanted", "some", "lane", "other"] "widest" (defScope st_widest) f cdv A outer s H E).nox (defBody st_widest) (rd_widest K) :=
  (pss_cons (ps_set (i := 2) sc_widest.nd rfl (by first | exact Or.inl rfl | exact Or.inr rfl) (pe_callG G_sheet_of (hr.mono (by decide)) hgd (by rfl) T.g_sheet_of T.F_sheet_of.kp T.b_sheet_of .nil pass0 (pa_cons (pv 1) pa_nil)))
  (pss_cons (ps_set (i := 3) sc_widest.nd rfl (by first | exact Or.inl rfl | exact Or.inr rfl) (pe_dc (own := [("lane", 4)]) rfl sc_widest.nd (pi_seq (pe_callG G_all_lanes (hr.mono (by decide)) hgd (by rfl) T.g_all_lanes T.F_all_lanes.kp T.b_all_lanes .nil pass0 (pa_cons (pv 0) pa_nil))) (blkOk_by (own := [("lane", 4)]) (by kernel_rfl)) (fun _ _ _ _ _ => (pg_name (i := 4) sc_widest.nd rfl (by first | exact .inl rfl | exact .inr rfl))) (fun _ _ _ _ _ => (pts_one (pt_cmpR (u_eq hr.units) (pe_op u_or (pe_callG G_sheet (hr.mono (by decide)) hgd (by rfl) T.g_sheet T.F_sheet.kp T.b_sheet .nil pass0 (pa_cons (pv 4) pa_nil)) (pv 2)) (pv 2) (nomark _)))) (fun _ _ _ _ _ => (pv 4)) (fun _ _ _ _ _ => pe_bl)))
  (pss_one (ps_ret (pe_lockO (pe_lc (own := [("lane", 4)]) rfl sc_widest.nd (pi_keys (pv 3)) (blkOk_by (own := [("lane", 4)]) (by kernel_rfl)) (fun _ _ _ _ _ => (pg_name (i := 4) sc_widest.nd rfl (by first | exact .inl rfl | exact .inr rfl))) (fun _ _ _ _ _ => (pts_one (pt_not (pt_tru (pe_callB (cr_any rfl) (by rfl) T.z_any (by decide +kernel) (pa_cons (pe_lc (own := [("other", 5)]) rfl sc_widest.nd (pi_seq (pe_callG G_wider (hr.mono (by decide)) hgd (by rfl) T.g_wider T.F_wider.kp T.b_wider .nil pass0 (pa_cons (pv 4) pa_nil))) (blkOk_by (own := [("other", 5)]) (by kernel_rfl)) (fun _ _ _ _ _ => (pg_name (i := 5) sc_widest.nd rfl (by first | exact .inl rfl | exact .inr rfl))) (fun _ _ _ _ _ => pts_nil) (fun _ _ _ _ _ => (pe_cmp (pc_din (hu_of hr) (pv 5) (pv 3))))) pa_nil)))))) (fun _ _ _ _ _ => (pv 4))))))))
theorem ok_widest (T : Txt w K mg) (G_all_lanes : FnG P w K mg base CX0 1 T.f_all_lanes T.fd_all_lanes ["width"] (sp_all_lanes K)) (G_sheet : FnG P w K mg base CX0 1 T.f_sheet T.fd_sheet ["lane"] (sp_sheet K)) (G_sheet_of : FnG P w K mg base CX0 1 T.f_sheet_of T.fd_sheet_of ["numbers"] (sp_sheet_of K)) (G_wider : FnG P w K mg base CX0 1 T.f_wider T.fd_wider ["lane"] (sp_wider K)) : FnG P w K mg base CX0 2 T.f_widest T.fd_widest ["width", "numbers"] (sp_widest K) := by
  refine okG T.F_widest sc_widest (fun vs H Q E h => ln_widest h) (fun cdv A outer s H vs Q E hr hgd h => ⟨_, dv_widest T G_all_lanes G_sheet G_sheet_of G_wider hr hgd, ok_rd_widest h⟩)
theorem dv_box (T : Txt w K mg) {f : Addr} {cdv : Value} {A : Around} {outer : List PySem.Env} {s : Shared} {H : Hp} {E : XK} (hr : Room 0 (A.deeper (envOfC "_law_box" (defScope st_box) s.heap.objs.size f cdv))) (hgd : A.guards = some []) :
    PSs (cxOf CX0 P w K mg base ["_law_cells_here", "_law_k", "_law_cell"] "_law_box" (defScope st_box) f cdv A outer s H E).nox (defBody st_box) (rd_box K) :=
  (pss_cons (ps_set (i := 2) sc_box.nd rfl (by first | exact Or.inl rfl | exact Or.inr rfl) (pe_ix ix_seq (pv 0) (pv 1) (fun _ _ => rfl)))
  (pss_one (ps_ret (pe_lst (pa_cons (pe_op u_mul (pe_callB call_abs (by rfl) T.z_abs (by decide +kernel) (pa_cons (pv 2) pa_nil)) (pe_callTy u_int (by rfl) T.z_int (by decide +kernel) (pa_cons (pe_cmpR (u_ge hr.units) (pe_callB call_abs (by rfl) T.z_abs (by decide +kernel) (pa_cons (pv 2) pa_nil)) (pe_op u_pow pe_int pe_int) (nomark _)) pa_nil))) (pa_cons (pe_op u_add (pe_op u_add (pe_op u_mod (pv 2) pe_int) (pe_op u_mul pe_int (pv 1))) pe_int) (pa_cons pe_int pa_nil)))))))
theorem ok_box (T : Txt w K mg) : FnG P w K mg base CX0 1 T.f_box T.fd_box ["_law_cells_here", "_law_k"] (sp_box K) := by
  refine okG T.F_box sc_box (fun vs H Q E h => ln_box h) (fun cdv A outer s H vs Q E hr hgd h => ⟨_, dv_box T hr hgd, ok_rd_box h⟩)
theorem dv_take (T : Txt w K mg) {f : Addr} {cdv : Value} {A : Around} {outer : List PySem.Env} {s : Shared} {H : Hp} {E : XK} (hr : Room 0 (A.deeper (envOfC "_law_take" (defScope st_take) s.heap.objs.size f cdv))) (hgd : A.guards = some []) :
    PSs (cxOf CX0 P w K mg base ["_law_box_here", "_law_amount", "_law_found", "_law_mixed"] "_law_take" (defScope st_take) f cdv A outer s H E).nox (defBody st_take) (rd_take K) :=
  (pss_cons (ps_if (pt_cmpR (u_gt hr.units) (pe_ix ix_seq (pv 0) pe_int (fun _ _ => rfl)) pe_int (nomark _)) (pss_cons (ps_set (i := 2) sc_take.nd rfl (by first | exact Or.inl rfl | exact Or.inr rfl) (pe_op u_mod (pe_ix ix_seq (pv 0) pe_int (fun _ _ => rfl)) (pv 1)))
  (pss_cons (ps_asg (pe_op u_fdiv (pe_ix ix_seq (pv 0) pe_int (fun _ _ => rfl)) (pv 1)) (pg_sub (pv 0) pe_int set_list))
  (pss_one (ps_ret (pv 2))))) pss_nil)
  (pss_cons (ps_asg (pe_op u_add (pe_ix ix_seq (pv 0) pe_int (fun _ _ => rfl)) pe_int) (pg_sub (pv 0) pe_int set_list))
  (pss_cons (ps_set (i := 3) sc_take.nd rfl (by first | exact Or.inl rfl | exact Or.inr rfl) (pe_op u_mod (pe_op u_add (pe_ix ix_seq (pv 0) pe_int (fun _ _ => rfl)) (pe_op u_mul pe_int (pe_ix ix_seq (pv 0) pe_int (fun _ _ => rfl)))) pe_int))
  (pss_cons (ps_set (i := 3) sc_take.nd rfl (by first | exact Or.inl rfl | exact Or.inr rfl) (pe_op u_mod (pe_op u_add (pe_op u_add (pe_op u_mul (pv 3) (pv 3)) (pe_op u_mul pe_int (pe_ix ix_seq (pv 0) pe_int (fun _ _ => rfl)))) pe_int) pe_int))
  (pss_cons (ps_set (i := 3) sc_take.nd rfl (by first | exact Or.inl rfl | exact Or.inr rfl) (pe_op u_mod (pe_op u_add (pe_op u_mul (pv 3) (pe_op u_add (pe_op u_fdiv (pv 3) pe_int) pe_int)) (pe_ix ix_seq (pv 0) pe_int (fun _ _ => rfl))) pe_int))
  (pss_one (ps_ret (pe_op u_mod (pe_op u_fdiv (pv 3) pe_int) (pv 1)))))))))
theorem ok_take (T : Txt w K mg) : FnG P w K mg base CX0 1 T.f_take T.fd_take ["_law_box_here", "_law_amount"] (sp_take K) := by
  refine okG T.F_take sc_take (fun vs H Q E h => ln_take h) (fun cdv A outer s H vs Q E hr hgd h => ⟨_, dv_take T hr hgd, ok_rd_take h⟩)
theorem dv_cells (T : Txt w K mg) {f : Addr} {cdv : Value} {A : Around} {outer : List PySem.Env} {s : Shared} {H : Hp} {E : XK} (hr : Room 0 (A.deeper (envOfC "_law_cells" (defScope st_cells) s.heap.objs.size f cdv))) (hgd : A.guards = some []) :
    PSs (cxOf CX0 P w K mg base ["_law_script", "_law_most", "_law_cells_here", "_law_k", "_law_cell"] "_law_cells" (defScope st_cells) f cdv A outer s H E).nox (defBody st_cells) (rd_cells K) :=
  (pss_cons (ps_set (i := 2) sc_cells.nd rfl (by first | exact Or.inl rfl | exact Or.inr rfl) (pe_orT (pe_callTy (u_list rfl) (by rfl) T.z_list (by decide +kernel) (pa_cons (pe_slice u_sl (pv 0) po_none (po_some (pv 1))) pa_nil)) (pe_one (pe_lst (pa_cons pe_int pa_nil)))))
  (pss_cons (ps_for PassesOwn.never rfl (pi_enumS (by rfl) T.z_enumerate (pa_cons (pe_slice u_sl (pv 0) (po_some (pv 1)) (po_some pe_int)) pa_nil)) (pg_sq rfl (pgs_cons (pg_name (i := 3) sc_cells.nd rfl (by first | exact .inl rfl | exact .inr rfl)) (pgs_cons (pg_name (i := 4) sc_cells.nd rfl (by first | exact .inl rfl | exact .inr rfl)) pgs_nil))) (pss_one (ps_asg (pe_op u_add (pe_ix ix_seq (pv 2) (pe_op u_mod (pv 3) (pv 1)) (fun _ _ => rfl)) (pe_op u_mul (pv 4) (pe_op u_add (pv 3) pe_int))) (pg_sub (pv 2) (pe_op u_mod (pv 3) (pv 1)) set_list))))
  (pss_one (ps_ret (pv 2)))))
theorem ok_cells (T : Txt w K mg) : FnG P w K mg base CX0 1 T.f_cells T.fd_cells ["_law_script", "_law_most"] (sp_cells K) := by
  refine okG T.F_cells sc_cells (fun vs H Q E h => ln_cells h) (fun cdv A outer s H vs Q E hr hgd h => ⟨_, dv_cells T hr hgd, ok_rd_cells h⟩)
theorem dv_bits (T : Txt w K mg) {f : Addr} {cdv : Value} {A : Around} {outer : List PySem.Env} {s : Shared} {H : Hp} {E : XK} (hr : Room 0 (A.deeper (envOfC "_law_bits" (defScope st_bits) s.heap.objs.size f cdv))) (hgd : A.guards = some []) :
    PSs (cxOf CX0 P w K mg base ["_law_span", "_law_number", "_law_k"] "_law_bits" (defScope st_bits) f cdv A outer s H E).nox (defBody st_bits) (rd_bits K) :=
  (pss_one (ps_ret (pe_bm PySem.F.plainAttrs_str PySem.F.slot_str_join PySem.F.type_str_join mt_join pe_str (pa_cons (pe_lc (own := [("_law_k", 2)]) rfl sc_bits.nd (pi_range1 (by rfl) T.z_range (pa_cons (pv 0) pa_nil)) (blkOk_by (own := [("_law_k", 2)]) (by kernel_rfl)) (fun _ _ _ _ _ => (pg_name (i := 2) sc_bits.nd rfl (by first | exact .inl rfl | exact .inr rfl))) (fun _ _ _ _ _ => pts_nil) (fun _ _ _ _ _ => (pe_callTy u_str (by rfl) T.z_str (by decide +kernel) (pa_cons (pe_op u_and (pe_op u_shr (pv 1) (pe_op u_sub (pe_op u_sub (pv 0) pe_int) (pv 2))) pe_int) pa_nil)))) pa_nil))))
theorem ok_bits (T : Txt w K mg) : FnG P w K mg base CX0 1 T.f_bits T.fd_bits ["_law_span", "_law_number"] (sp_bits K) := by
  refine okG T.F_bits sc_bits (fun vs H Q E h => ln_bits h) (fun cdv A outer s H vs Q E hr hgd h => ⟨_, dv_bits T hr hgd, ok_rd_bits h⟩)
theorem dv_held (T : Txt w K mg) {f : Addr} {cdv : Value} {A : Around} {outer : List PySem.Env} {s : Shared} {H : Hp} {E : XK} (G_bits : FnG P w K mg base CX0 1 T.f_bits T.fd_bits ["_law_span", "_law_number"] (sp_bits K)) (hr : Room 1 (A.deeper (envOfC "_law_held" (defScope st_held) s.heap.objs.size f cdv))) (hgd : A.guards = some []) :
    PSs (cxOf CX0 P w K mg base ["_law_lane", "_law_span", "_law_bits_here", "_law_number", "_law_k", "_law_some", "_law_one", "_law_bit"] "_law_held" (defScope st_held) f cdv A outer s H E).nox (defBody st_held) (rd_held K) :=
  (pss_cons (ps_setLc (i := 2) (own := [("_law_number", 3)]) rfl sc_held.nd rfl rfl (sw_true rfl rfl rfl (by decide +kernel)) (pi_range1 (by rfl) T.z_range (pa_cons (pe_op u_shl pe_int (pv 1)) pa_nil)) (blkOk_by (own := [("_law_number", 3)]) (by kernel_rfl)) (fun _ _ _ _ _ => (pg_name (i := 3) sc_held.nd rfl (by first | exact .inl rfl | exact .inr rfl))) (fun _ _ _ _ _ => pts_nil) (fun _ _ _ _ _ => (pe_callG G_bits (hr.mono (by decide)) hgd (by rfl) T.g_bits T.F_bits.kp T.b_bits .nil pass0 (pa_cons (pv 1) (pa_cons (pv 3) pa_nil)))))
  (pss_one (ps_ret (pe_lc (own := [("_law_k", 4), ("_law_some", 5)]) rfl sc_held.nd (pi_enumS (by rfl) T.z_enumerate (pa_cons (pv 2) pa_nil)) (blkOk_by (own := [("_law_k", 4), ("_law_some", 5)]) (by kernel_rfl)) (fun _ _ _ _ _ => (pg_sq rfl (pgs_cons (pg_name (i := 4) sc_held.nd rfl (by first | exact .inl rfl | exact .inr rfl)) (pgs_cons (pg_name (i := 5) sc_held.nd rfl (by first | exact .inl rfl | exact .inr rfl)) pgs_nil)))) (fun _ _ _ _ _ => (pts_one (pt_tru (pe_callB (cr_all rfl) (by rfl) T.z_all (by decide +kernel) (pa_cons (pe_lc (own := [("_law_one", 6), ("_law_bit", 7)]) rfl sc_held.nd (pi_zipN (by rfl) T.z_zip (pa_cons (pv 0) (pa_cons (pv 5) pa_nil))) (blkOk_by (own := [("_law_one", 6), ("_law_bit", 7)]) (by kernel_rfl)) (fun _ _ _ _ _ => (pg_sq rfl (pgs_cons (pg_name (i := 6) sc_held.nd rfl (by first | exact .inl rfl | exact .inr rfl)) (pgs_cons (pg_name (i := 7) sc_held.nd rfl (by first | exact .inl rfl | exact .inr rfl)) pgs_nil)))) (fun _ _ _ _ _ => pts_nil) (fun _ _ _ _ _ => (pe_cmpR (u_in hr.units) (pv 6) (pe_tup (pa_cons pe_str (pa_cons (pv 7) pa_nil))) (by rfl)))) pa_nil))))) (fun _ _ _ _ _ => (pv 4))))))
theorem ok_held (T : Txt w K mg) (G_bits : FnG P w K mg base CX0 1 T.f_bits T.fd_bits ["_law_span", "_law_number"] (sp_bits K)) : FnG P w K mg base CX0 2 T.f_held T.fd_held ["_law_lane", "_law_span"] (sp_held K) := by
  refine okG T.F_held sc_held (fun vs H Q E h => ln_held h) (fun cdv A outer s H vs Q E hr hgd h => ⟨_, dv_held T G_bits hr hgd, ok_rd_held h⟩)
theorem dv_lanes (T : Txt w K mg) {f : Addr} {cdv : Value} {A : Around} {outer : List PySem.Env} {s : Shared} {H : Hp} {E : XK} (G_held : FnG P w K mg base CX0 2 T.f_held T.fd_held ["_law_lane", "_law_span"] (sp_held K)) (hr : Room 2 (A.deeper (envOfC "_law_lanes" (defScope st_lanes) s.heap.objs.size f cdv))) (hgd : A.guards = some []) :
    PSs (cxOf CX0 P w K mg base ["_law_span", "_law_found", "_law_place", "_law_some", "_law_lane", "_law_sign"] "_law_lanes" (defScope st_lanes) f cdv A outer s H E).nox (defBody st_lanes) (rd_lanes K) :=
  (pss_cons (ps_set (i := 1) sc_lanes.nd rfl (by first | exact Or.inl rfl | exact Or.inr rfl) (pe_lst (pa_cons pe_str pa_nil)))
  (pss_cons (ps_for PassesOwn.never rfl (pi_range1 (by rfl) T.z_range (pa_cons (pv 0) pa_nil)) (pg_name (i := 2) sc_lanes.nd rfl (by first | exact .inl rfl | exact .inr rfl)) (pss_cons (ps_set (i := 3) sc_lanes.nd rfl (by first | exact Or.inl rfl | exact Or.inr rfl) (pe_lst pa_nil))
  (pss_cons (ps_for PassesOwn.never rfl (pi_seq (pv 1)) (pg_name (i := 4) sc_lanes.nd rfl (by first | exact .inl rfl | exact .inr rfl)) (pss_one (ps_expr (pe_bm PySem.F.plainAttrs_list PySem.F.slot_list_extend PySem.F.type_list_extend mt_extend (pv 3) (pa_cons (pe_lc (own := [("_law_sign", 5)]) rfl sc_lanes.nd (pi_seq pe_str) (blkOk_by (own := [("_law_sign", 5)]) (by kernel_rfl)) (fun _ _ _ _ _ => (pg_name (i := 5) sc_lanes.nd rfl (by first | exact .inl rfl | exact .inr rfl))) (fun _ _ _ _ _ => pts_nil) (fun _ _ _ _ _ => (pe_op u_add (pv 4) (pv 5)))) pa_nil)))))
  (pss_one (ps_set (i := 1) sc_lanes.nd rfl (by first | exact Or.inl rfl | exact Or.inr rfl) (pv 3))))))
  (pss_one (ps_ret (pe_lc (own := [("_law_lane", 4)]) rfl sc_lanes.nd (pi_seq (pv 1)) (blkOk_by (own := [("_law_lane", 4)]) (by kernel_rfl)) (fun _ _ _ _ _ => (pg_name (i := 4) sc_lanes.nd rfl (by first | exact .inl rfl | exact .inr rfl))) (fun _ _ _ _ _ => pts_nil) (fun _ _ _ _ _ => (pe_tup (pa_cons (pv 4) (pa_cons (pe_callG G_held (hr.mono (by decide)) hgd (by rfl) T.g_held T.F_held.kp T.b_held .nil pass0 (pa_cons (pv 4) (pa_cons (pv 0) pa_nil))) pa_nil)))))))))
theorem ok_lanes (T : Txt w K mg) (G_held : FnG P w K mg base CX0 2 T.f_held T.fd_held ["_law_lane", "_law_span"] (sp_held K)) : FnG P w K mg base CX0 3 T.f_lanes T.fd_lanes ["_law_span"] (sp_lanes K) := by
  refine okG T.F_lanes sc_lanes (fun vs H Q E h => ln_lanes h) (fun cdv A outer s H vs Q E hr hgd h => ⟨_, dv_lanes T G_held hr hgd, ok_rd_lanes h⟩)
theorem dv_set (T : Txt w K mg) {f : Addr} {cdv : Value} {A : Around} {outer : List PySem.Env} {s : Shared} {H : Hp} {E : XK} (G_bits : FnG P w K mg base CX0 1 T.f_bits T.fd_bits ["_law_span", "_law_number"] (sp_bits K)) (G_take : FnG P w K mg base CX0 1 T.f_take T.fd_take ["_law_box_here", "_law_amount"] (sp_take K)) (hr : Room 1 (A.deeper (envOfC "_law_set" (defScope st_set) s.heap.objs.size f cdv))) (hgd : A.guards = some []) :
    PSs (cxOf CX0 P w K mg base ["_law_box_here", "_law_span", "_law_every", "_law_way", "_law_one", "_law_some", "_law_number"] "_law_set" (defScope st_set) f cdv A outer s H E).nox (defBody st_set) (rd_set K) :=
  (pss_cons (ps_asg (pe_tup (pa_cons (pe_listRg rfl (by rfl) T.z_list (prg_1 (by rfl) T.z_range (pe_op u_shl pe_int (pv 1)))) (pa_cons (pe_callG G_take (hr.mono (by decide)) hgd (by rfl) T.g_take T.F_take.kp T.b_take .nil pass0 (pa_cons (pv 0) (pa_cons pe_int pa_nil))) pa_nil))) (pg_sq rfl (pgs_cons (pg_name (i := 2) sc_set.nd rfl (by first | exact .inl rfl | exact .inr rfl)) (pgs_cons (pg_name (i := 3) sc_set.nd rfl (by first | exact .inl rfl | exact .inr rfl)) pgs_nil))))
  (pss_cons (ps_set (i := 4) sc_set.nd rfl (by first | exact Or.inl rfl | exact Or.inr rfl) (pe_callG G_take (hr.mono (by decide)) hgd (by rfl) T.g_take T.F_take.kp T.b_take .nil pass0 (pa_cons (pv 0) (pa_cons (pe_op u_shl pe_int (pv 1)) pa_nil))))
  (pss_cons (ps_set (i := 5) sc_set.nd rfl (by first | exact Or.inl rfl | exact Or.inr rfl) (pe_lst (pa_cons (pe_lst pa_nil) (pa_cons (pv 2) (pa_cons (pe_lst (pa_cons (pv 4) pa_nil)) (pa_cons (pe_op u_add (pe_slice u_sl (pv 2) po_none (po_some (pv 4))) (pe_slice u_sl (pv 2) (po_some (pe_op u_add (pv 4) pe_int)) po_none)) pa_nil))))))
  (pss_cons (ps_if (pt_cmpR (u_lt hr.units) (pv 3) pe_int (nomark _)) (pss_one (ps_ret (pe_ix ix_seq (pv 5) (pv 3) (fun _ _ => rfl)))) pss_nil)
  (pss_cons (ps_if (pt_cmpR (u_eq hr.units) (pv 3) pe_int (nomark _)) (pss_one (ps_ret (pe_lc (own := [("_law_number", 6)]) rfl sc_set.nd (pi_seq (pv 2)) (blkOk_by (own := [("_law_number", 6)]) (by kernel_rfl)) (fun _ _ _ _ _ => (pg_name (i := 6) sc_set.nd rfl (by first | exact .inl rfl | exact .inr rfl))) (fun _ _ _ _ _ => (pts_one (pt_cmpR (u_eq hr.units) (pe_op u_mod (pe_bm PySem.F.plainAttrs_str PySem.F.slot_str_count PySem.F.type_str_count mt_count (pe_callG G_bits (hr.mono (by decide)) hgd (by rfl) T.g_bits T.F_bits.kp T.b_bits .nil pass0 (pa_cons (pv 1) (pa_cons (pv 6) pa_nil))) (pa_cons pe_str pa_nil)) pe_int) (pe_op u_mod (pv 4) pe_int) (nomark _)))) (fun _ _ _ _ _ => (pv 6))))) pss_nil)
  (pss_one (ps_ret (pe_lc (own := [("_law_number", 6)]) rfl sc_set.nd (pi_seq (pv 2)) (blkOk_by (own := [("_law_number", 6)]) (by kernel_rfl)) (fun _ _ _ _ _ => (pg_name (i := 6) sc_set.nd rfl (by first | exact .inl rfl | exact .inr rfl))) (fun _ _ _ _ _ => (pts_one (pt_cmpR (u_gt hr.units) (pe_callG G_take (hr.mono (by decide)) hgd (by rfl) T.g_take T.F_take.kp T.b_take .nil pass0 (pa_cons (pv 0) (pa_cons (pe_op u_add pe_int (pe_op u_mod (pv 3) pe_int)) pa_nil))) pe_int (nomark _)))) (fun _ _ _ _ _ => (pv 6))))))))))
theorem ok_set (T : Txt w K mg) (G_bits : FnG P w K mg base CX0 1 T.f_bits T.fd_bits ["_law_span", "_law_number"] (sp_bits K)) (G_take : FnG P w K mg base CX0 1 T.f_take T.fd_take ["_law_box_here", "_law_amount"] (sp_take K)) : FnG P w K mg base CX0 2 T.f_set T.fd_set ["_law_box_here", "_law_span"] (sp_set K) := by
  refine okG T.F_set sc_set (fun vs H Q E h => ln_set h) (fun cdv A outer s H vs Q E hr hgd h => ⟨_, dv_set T G_bits G_take hr hgd, ok_rd_set h⟩)
theorem dv_l_widest (T : Txt w K mg) {f : Addr} {cdv : Value} {A : Around} {outer : List PySem.Env} {s : Shared} {H : Hp} {E : XK} (G_lanes : FnG P w K mg base CX0 3 T.f_lanes T.fd_lanes ["_law_span"] (sp_lanes K)) (hr : Room 3 (A.deeper (envOfC "_law_widest" (defScope st_l_widest) s.heap.objs.size f cdv))) (hgd : A.guards = some []) :
    PSs (cxOf CX0 P w K mg base ["_law_span", "_law_digits", "_law_wanted", "_law_some", "_law_found", "_law_lane", "_law_held_here", "_law_mask", "_law_number", "_law_row"] "_law_widest" (defScope st_l_widest) f cdv A outer s H E).nox (defBody st_l_widest) (rd_l_widest K) :=
  (pss_cons (ps_set (i := 2) sc_l_widest.nd rfl (by first | exact Or.inl rfl | exact Or.inr rfl) (pe_callB (u_sum rfl) (by rfl) T.z_sum (by decide +kernel) (pa_cons (pe_lc (own := [("_law_number", 8)]) rfl sc_l_widest.nd (pi_seq (pv 1)) (blkOk_by (own := [("_law_number", 8)]) (by kernel_rfl)) (fun _ _ _ _ _ => (pg_name (i := 8) sc_l_widest.nd rfl (by first | exact .inl rfl | exact .inr rfl))) (fun _ _ _ _ _ => pts_nil) (fun _ _ _ _ _ => (pe_op u_shl pe_int (pv 8)))) pa_nil)))
  (pss_cons (ps_setLc (i := 3) (own := [("_law_lane", 5), ("_law_held_here", 6)]) rfl sc_l_widest.nd rfl rfl (sw_true rfl rfl rfl (by decide +kernel)) (pi_seq (pe_callG G_lanes (hr.mono (by decide)) hgd (by rfl) T.g_lanes T.F_lanes.kp T.b_lanes .nil pass0 (pa_cons (pv 0) pa_nil))) (blkOk_by (own := [("_law_lane", 5), ("_law_held_here", 6)]) (by kernel_rfl)) (fun _ _ _ _ _ => (pg_sq rfl (pgs_cons (pg_name (i := 5) sc_l_widest.nd rfl (by first | exact .inl rfl | exact .inr rfl)) (pgs_cons (pg_name (i := 6) sc_l_widest.nd rfl (by first | exact .inl rfl | exact .inr rfl)) pgs_nil)))) (fun _ _ _ _ _ => pts_nil) (fun _ _ _ _ _ => (pe_tup (pa_cons (pv 5) (pa_cons (pv 6) (pa_cons (pe_callB (u_sum rfl) (by rfl) T.z_sum (by decide +kernel) (pa_cons (pe_lc (own := [("_law_number", 8)]) rfl sc_l_widest.nd (pi_seq (pv 6)) (blkOk_by (own := [("_law_number", 8)]) (by kernel_rfl)) (fun _ _ _ _ _ => (pg_name (i := 8) sc_l_widest.nd rfl (by first | exact .inl rfl | exact .inr rfl))) (fun _ _ _ _ _ => pts_nil) (fun _ _ _ _ _ => (pe_op u_shl pe_int (pv 8)))) pa_nil)) pa_nil))))))
  (pss_cons (ps_setLc (i := 3) (own := [("_law_row", 9)]) rfl sc_l_widest.nd rfl rfl (sw_true rfl rfl rfl (by decide +kernel)) (pi_seq (pv 3)) (blkOk_by (own := [("_law_row", 9)]) (by kernel_rfl)) (fun _ _ _ _ _ => (pg_name (i := 9) sc_l_widest.nd rfl (by first | exact .inl rfl | exact .inr rfl))) (fun _ _ _ _ _ => (pts_one (pt_cmpR (u_eq hr.units) (pe_op u_or (pe_ix ix_seq (pv 9) pe_int (fun _ _ => rfl)) (pv 2)) (pv 2) (nomark _)))) (fun _ _ _ _ _ => (pv 9)))
  (pss_cons (ps_set (i := 4) sc_l_widest.nd rfl (by first | exact Or.inl rfl | exact Or.inr rfl) (pe_lst pa_nil))
  (pss_cons (ps_for PassesOwn.never rfl (pi_seq (pv 3)) (pg_sq rfl (pgs_cons (pg_name (i := 5) sc_l_widest.nd rfl (by first | exact .inl rfl | exact .inr rfl)) (pgs_cons (pg_name (i := 6) sc_l_widest.nd rfl (by first | exact .inl rfl | exact .inr rfl)) (pgs_cons (pg_name (i := 7) sc_l_widest.nd rfl (by first | exact .inl rfl | exact .inr rfl)) pgs_nil)))) (pss_one (ps_if (pt_cmpR (u_eq hr.units) (pe_lc (own := [("_law_row", 9)]) rfl sc_l_widest.nd (pi_seq (pv 3)) (blkOk_by (own := [("_law_row", 9)]) (by kernel_rfl)) (fun _ _ _ _ _ => (pg_name (i := 9) sc_l_widest.nd rfl (by first | exact .inl rfl | exact .inr rfl))) (fun _ _ _ _ _ => (pts_one (PW.pt (pw_and (pt_cmpR (u_ne hr.units) (pe_ix ix_seq (pv 9) pe_int (fun _ _ => rfl)) (pv 7) (nomark _)) (pw_and1 (pt_cmpR (u_eq hr.units) (pe_op u_or (pe_ix ix_seq (pv 9) pe_int (fun _ _ => rfl)) (pv 7)) (pe_ix ix_seq (pv 9) pe_int (fun _ _ => rfl)) (nomark _))))))) (fun _ _ _ _ _ => (pv 9))) (pe_lst pa_nil) (nomark _)) (pss_one (ps_expr (pe_bm PySem.F.plainAttrs_list PySem.F.slot_list_append PySem.F.type_list_append mt_append (pv 4) (pa_cons (pe_tup (pa_cons (pv 5) (pa_cons (pv 6) pa_nil))) pa_nil)))) pss_nil)))
  (pss_one (ps_ret (pv 4))))))))
theorem ok_l_widest (T : Txt w K mg) (G_lanes : FnG P w K mg base CX0 3 T.f_lanes T.fd_lanes ["_law_span"] (sp_lanes K)) : FnG P w K mg base CX0 4 T.f_l_widest T.fd_l_widest ["_law_span", "_law_digits"] (sp_l_widest K) := by
  refine okG T.F_l_widest sc_l_widest (fun vs H Q E h => ln_l_widest h) (fun cdv A outer s H vs Q E hr hgd h => ⟨_, dv_l_widest T G_lanes hr hgd, ok_rd_l_widest h⟩)
theorem dv_right (T : Txt w K mg) {f : Addr} {cdv : Value} {A : Around} {outer : List PySem.Env} {s : Shared} {H : Hp} {E : XK} (G_set : FnG P w K mg base CX0 2 T.f_set T.fd_set ["_law_box_here", "_law_span"] (sp_set K)) (G_take : FnG P w K mg base CX0 1 T.f_take T.fd_take ["_law_box_here", "_law_amount"] (sp_take K)) (G_l_widest : FnG P w K mg base CX0 4 T.f_l_widest T.fd_l_widest ["_law_span", "_law_digits"] (sp_l_widest K)) (G_widest : FnG P w K mg base CX0 2 T.f_widest T.fd_widest ["width", "numbers"] (sp_widest K)) (hr : Room 4 (A.deeper (envOfC "_law_right" (defScope st_right) s.heap.objs.size f cdv))) (hgd : A.guards = some []) :
    PSs (cxOf CX0 P w K mg base ["_law_box_here", "_law_turn", "_law_span", "_law_digits", "_law_kept", "_law_due", "_law_found", "_law_lane", "_law_held_here"] "_law_right" (defScope st_right) f cdv A outer s H E).nox (defBody st_right) (rd_right K) :=
  (pss_cons (ps_for PassesOwn.never rfl (pi_range1 (by rfl) T.z_range (pa_cons pe_int pa_nil)) (pg_name (i := 1) sc_right.nd rfl (by first | exact .inl rfl | exact .inr rfl)) (pss_cons (ps_set (i := 2) sc_right.nd rfl (by first | exact Or.inl rfl | exact Or.inr rfl) (pe_op u_add pe_int (pe_callG G_take (hr.mono (by decide)) hgd (by rfl) T.g_take T.F_take.kp T.b_take .nil pass0 (pa_cons (pv 0) (pa_cons pe_int pa_nil)))))
  (pss_cons (ps_set (i := 3) sc_right.nd rfl (by first | exact Or.inl rfl | exact Or.inr rfl) (pe_callG G_set (hr.mono (by decide)) hgd (by rfl) T.g_set T.F_set.kp T.b_set .nil pass0 (pa_cons (pv 0) (pa_cons (pv 2) pa_nil))))
  (pss_cons (ps_par (i := 4) (j := 5) (by rfl) sc_right.nd rfl rfl (by decide) rfl rfl (pa_cons (pe_callB (u_repr hr.units hgd) (by rfl) T.z_repr (by decide +kernel) (pa_cons (pv 3) pa_nil)) (pa_cons (pe_callB (u_repr hr.units hgd) (by rfl) T.z_repr (by decide +kernel) (pa_cons (pe_lc (own := [("_law_lane", 7), ("_law_held_here", 8)]) rfl sc_right.nd (pi_seq (pe_callG G_l_widest (hr.mono (by decide)) hgd (by rfl) T.g_l_widest T.F_l_widest.kp T.b_l_widest .nil pass0 (pa_cons (pv 2) (pa_cons (pv 3) pa_nil)))) (blkOk_by (own := [("_law_lane", 7), ("_law_held_here", 8)]) (by kernel_rfl)) (fun _ _ _ _ _ => (pg_sq rfl (pgs_cons (pg_name (i := 7) sc_right.nd rfl (by first | exact .inl rfl | exact .inr rfl)) (pgs_cons (pg_name (i := 8) sc_right.nd rfl (by first | exact .inl rfl | exact .inr rfl)) pgs_nil)))) (fun _ _ _ _ _ => pts_nil) (fun _ _ _ _ _ => (pv 7))) pa_nil)) pa_nil)) (by rfl))
  (pss_cons (ps_set (i := 6) sc_right.nd rfl (by first | exact Or.inl rfl | exact Or.inr rfl) (pe_callG G_widest (hr.mono (by decide)) hgd (by rfl) T.g_widest T.F_widest.kp T.b_widest .nil pass0 (pa_cons (pv 2) (pa_cons (pv 3) pa_nil))))
  (pss_cons (ps_if (PW.pt (pw_or (pt_cmpR (u_ne hr.units) (pe_callB (u_repr hr.units hgd) (by rfl) T.z_repr (by decide +kernel) (pa_cons (pv 6) pa_nil)) (pv 5) (nomark _)) (pw_or1 (pt_cmpR (u_ne hr.units) (pe_callB (u_repr hr.units hgd) (by rfl) T.z_repr (by decide +kernel) (pa_cons (pv 3) pa_nil)) (pv 4) (nomark _))))) (pss_one (ps_ret pe_bl)) pss_nil)
  (pss_cons (ps_expr (pe_bm PySem.F.plainAttrs_list PySem.F.slot_list_append PySem.F.type_list_append mt_append (pv 6) (pa_cons pe_str pa_nil)))
  (pss_one (ps_if (PW.pt (pw_or (pt_cmpR (u_ne hr.units) (pe_callB (u_repr hr.units hgd) (by rfl) T.z_repr (by decide +kernel) (pa_cons (pe_callNG0 (ks := ["numbers", "width"]) G_widest (hr.mono (by decide)) hgd (by rfl) T.g_widest T.F_widest.kp T.kb_widest_0_numbers_width pass0 (pk_cons (pe_callTy (u_tuple rfl) (by rfl) T.z_tuple (by decide +kernel) (pa_cons (pv 3) pa_nil)) (pk_cons (pv 2) pk_nil))) pa_nil)) (pv 5) (nomark _)) (pw_or1 (pt_cmpR (u_ne hr.units) (pe_callB (u_repr hr.units hgd) (by rfl) T.z_repr (by decide +kernel) (pa_cons (pe_callG G_widest (hr.mono (by decide)) hgd (by rfl) T.g_widest T.F_widest.kp T.b_widest .nil pass0 (pa_cons (pv 2) (pa_cons (pv 3) pa_nil))) pa_nil)) (pv 5) (nomark _))))) (pss_one (ps_ret pe_bl)) pss_nil)))))))))
  (pss_one (ps_ret pe_bl)))
theorem ok_right (T : Txt w K mg) (G_set : FnG P w K mg base CX0 2 T.f_set T.fd_set ["_law_box_here", "_law_span"] (sp_set K)) (G_take : FnG P w K mg base CX0 1 T.f_take T.fd_take ["_law_box_here", "_law_amount"] (sp_take K)) (G_l_widest : FnG P w K mg base CX0 4 T.f_l_widest T.fd_l_widest ["_law_span", "_law_digits"] (sp_l_widest K)) (G_widest : FnG P w K mg base CX0 2 T.f_widest T.fd_widest ["width", "numbers"] (sp_widest K)) : FnG P w K mg base CX0 5 T.f_right T.fd_right ["_law_box_here"] (sp_right K) := by
  refine okG T.F_right sc_right (fun vs H Q E h => ln_right h) (fun cdv A outer s H vs Q E hr hgd h => ⟨_, dv_right T G_set G_take G_l_widest G_widest hr hgd, ok_rd_right h⟩)
theorem dv_law (T : Txt w K mg) {f : Addr} {cdv : Value} {A : Around} {outer : List PySem.Env} {s : Shared} {H : Hp} {E : XK} (G_box : FnG P w K mg base CX0 1 T.f_box T.fd_box ["_law_cells_here", "_law_k"] (sp_box K)) (G_cells : FnG P w K mg base CX0 1 T.f_cells T.fd_cells ["_law_script", "_law_most"] (sp_cells K)) (G_right : FnG P w K mg base CX0 5 T.f_right T.fd_right ["_law_box_here"] (sp_right K)) (hr : Room 5 (A.deeper (envOfC "law" (defScope st_law) s.heap.objs.size f cdv))) (hgd : A.guards = some []) :
    PSs (cxOf CX0 P w K mg base ["_law_script", "_law_cells_here", "_law_k"] "law" (defScope st_law) f cdv A outer s H E).nox (defBody st_law) (rd_law K) :=
  (pss_cons (ps_set (i := 1) sc_law.nd rfl (by first | exact Or.inl rfl | exact Or.inr rfl) (pe_callG G_cells (hr.mono (by decide)) hgd (by rfl) T.g_cells T.F_cells.kp T.b_cells .nil pass0 (pa_cons (pv 0) (pa_cons pe_int pa_nil))))
  (pss_one (ps_ret (pe_callB (cr_all rfl) (by rfl) T.z_all (by decide +kernel) (pa_cons (pe_lc (own := [("_law_k", 2)]) rfl sc_law.nd (pi_range1 (by rfl) T.z_range (pa_cons (pe_callB u_len (by rfl) T.z_len (by decide +kernel) (pa_cons (pv 1) pa_nil)) pa_nil)) (blkOk_by (own := [("_law_k", 2)]) (by kernel_rfl)) (fun _ _ _ _ _ => (pg_name (i := 2) sc_law.nd rfl (by first | exact .inl rfl | exact .inr rfl))) (fun _ _ _ _ _ => pts_nil) (fun _ _ _ _ _ => (pe_callG G_right (hr.mono (by decide)) hgd (by rfl) T.g_right T.F_right.kp T.b_right .nil pass0 (pa_cons (pe_callG G_box (hr.mono (by decide)) hgd (by rfl) T.g_box T.F_box.kp T.b_box .nil pass0 (pa_cons (pv 1) (pa_cons (pv 2) pa_nil))) pa_nil)))) pa_nil)))))
theorem ok_law (T : Txt w K mg) (G_box : FnG P w K mg base CX0 1 T.f_box T.fd_box ["_law_cells_here", "_law_k"] (sp_box K)) (G_cells : FnG P w K mg base CX0 1 T.f_cells T.fd_cells ["_law_script", "_law_most"] (sp_cells K)) (G_right : FnG P w K mg base CX0 5 T.f_right T.fd_right ["_law_box_here"] (sp_right K)) : FnG P w K mg base CX0 6 T.f_law T.fd_law ["_law_script"] (sp_law K) := by
  refine okG T.F_law sc_law (fun vs H Q E h => ln_law h) (fun cdv A outer s H vs Q E hr hgd h => ⟨_, dv_law T G_box G_cells G_right hr hgd, ok_rd_law h⟩)
theorem ok_all (T : Txt w K mg) : FnG P w K mg base CX0 6 T.f_law T.fd_law ["_law_script"] (sp_law K) := by
  have G_box := ok_box (P := P) (w := w) (base := base) T
  have G_cells := ok_cells (P := P) (w := w) (base := base) T
  have G_bits := ok_bits (P := P) (w := w) (base := base) T
  have G_take := ok_take (P := P) (w := w) (base := base) T
  have G_set := ok_set (P := P) (w := w) (base := base) T G_bits G_take
  have G_held := ok_held (P := P) (w := w) (base := base) T G_bits
  have G_lanes := ok_lanes (P := P) (w := w) (base := base) T G_held
  have G_l_widest := ok_l_widest (P := P) (w := w) (base := base) T G_lanes
  have G_all_lanes := ok_all_lanes (P := P) (w := w) (base := base) T
  have G_sheet := ok_sheet (P := P) (w := w) (base := base) T
  have G_sheet_of := ok_sheet_of (P := P) (w := w) (base := base) T
  have G_wider := ok_wider (P := P) (w := w) (base := base) T
  have G_widest := ok_widest (P := P) (w := w) (base := base) T G_all_lanes G_sheet G_sheet_of G_wider
  have G_right := ok_right (P := P) (w := w) (base := base) T G_set G_take G_l_widest G_widest
  have G_law := ok_law (P := P) (w := w) (base := base) T G_box G_cells G_right
  exact G_law
end
theorem all_mk {l : PySem.W.OpenLaw} {w : World} {K : PySem.W.Frag} {h : Heap} {mg : Str → Option Value} {fa : Addr} (X : K.In h) (G : h.Ns mainGlobals mg) (hfa : mg "law" = some (.ref fa))
    {f_sheet : Addr} {od_sheet an_sheet : Option Addr} {sl_sheet : Array (Option Value)} {oc_sheet kV_sheet dc_sheet pm_sheet cd_sheet ct_sheet : Value}
    (a_sheet : PySem.W.nsIn K mainGlobals "sheet" = some (some (.ref f_sheet))) (l_sheet : K.lookup f_sheet = some ⟨oc_sheet, od_sheet, .func (PySem.W.fnOf "sheet" "sheet" (defArgs st_sheet) (defBody st_sheet) (defScope st_sheet) .none kV_sheet dc_sheet pm_sheet an_sheet cd_sheet ct_sheet), sl_sheet⟩) (c_sheet : PySem.W.codeIn K cd_sheet "sheet" = true) (k_sheet : PySem.W.keepIn K (.ref f_sheet) = true)
    {f_sheet_of : Addr} {od_sheet_of an_sheet_of : Option Addr} {sl_sheet_of : Array (Option Value)} {oc_sheet_of kV_sheet_of dc_sheet_of pm_sheet_of cd_sheet_of ct_sheet_of : Value}
    (a_sheet_of : PySem.W.nsIn K mainGlobals "sheet_of" = some (some (.ref f_sheet_of))) (l_sheet_of : K.lookup f_sheet_of = some ⟨oc_sheet_of, od_sheet_of, .func (PySem.W.fnOf "sheet_of" "sheet_of" (defArgs st_sheet_of) (defBody st_sheet_of) (defScope st_sheet_of) .none kV_sheet_of dc_sheet_of pm_sheet_of an_sheet_of cd_sheet_of ct_sheet_of), sl_sheet_of⟩) (c_sheet_of : PySem.W.codeIn K cd_sheet_of "sheet_of" = true) (k_sheet_of : PySem.W.keepIn K (.ref f_sheet_of) = true)
    {f_all_lanes : Addr} {od_all_lanes an_all_lanes : Option Addr} {sl_all_lanes : Array (Option Value)} {oc_all_lanes kV_all_lanes dc_all_lanes pm_all_lanes cd_all_lanes ct_all_lanes : Value}
    (a_all_lanes : PySem.W.nsIn K mainGlobals "all_lanes" = some (some (.ref f_all_lanes))) (l_all_lanes : K.lookup f_all_lanes = some ⟨oc_all_lanes, od_all_lanes, .func (PySem.W.fnOf "all_lanes" "all_lanes" (defArgs st_all_lanes) (defBody st_all_lanes) (defScope st_all_lanes) .none kV_all_lanes dc_all_lanes pm_all_lanes an_all_lanes cd_all_lanes ct_all_lanes), sl_all_lanes⟩) (c_all_lanes : PySem.W.codeIn K cd_all_lanes "all_lanes" = true) (k_all_lanes : PySem.W.keepIn K (.ref f_all_lanes) = true)
    {f_wider : Addr} {od_wider an_wider : Option Addr} {sl_wider : Array (Option Value)} {oc_wider kV_wider dc_wider pm_wider cd_wider ct_wider : Value}
    (a_wider : PySem.W.nsIn K mainGlobals "wider" = some (some (.ref f_wider))) (l_wider : K.lookup f_wider = some ⟨oc_wider, od_wider, .func (PySem.W.fnOf "wider" "wider" (defArgs st_wider) (defBody st_wider) (defScope st_wider) .none kV_wider dc_wider pm_wider an_wider cd_wider ct_wider), sl_wider⟩) (c_wider : PySem.W.codeIn K cd_wider "wider" = true) (k_wider : PySem.W.keepIn K (.ref f_wider) = true)
    {f_widest : Addr} {od_widest an_widest : Option Addr} {sl_widest : Array (Option Value)} {oc_widest kV_widest dc_widest pm_widest cd_widest ct_widest : Value}
    (a_widest : PySem.W.nsIn K mainGlobals "widest" = some (some (.ref f_widest))) (l_widest : K.lookup f_widest = some ⟨oc_widest, od_widest, .func (PySem.W.fnOf "widest" "widest" (defArgs st_widest) (defBody st_widest) (defScope st_widest) .none kV_widest dc_widest pm_widest an_widest cd_widest ct_widest), sl_widest⟩) (c_widest : PySem.W.codeIn K cd_widest "widest" = true) (k_widest : PySem.W.keepIn K (.ref f_widest) = true)
    {f_box : Addr} {od_box an_box : Option Addr} {sl_box : Array (Option Value)} {oc_box kV_box dc_box pm_box cd_box ct_box : Value}
    (a_box : PySem.W.nsIn K mainGlobals "_law_box" = some (some (.ref f_box))) (l_box : K.lookup f_box = some ⟨oc_box, od_box, .func (PySem.W.fnOf "_law_box" "_law_box" (defArgs st_box) (defBody st_box) (defScope st_box) .none kV_box dc_box pm_box an_box cd_box ct_box), sl_box⟩) (c_box : PySem.W.codeIn K cd_box "_law_box" = true) (k_box : PySem.W.keepIn K (.ref f_box) = true)
    {f_take : Addr} {od_take an_take : Option Addr} {sl_take : Array (Option Value)} {oc_take kV_take dc_take pm_take cd_take ct_take : Value}
    (a_take : PySem.W.nsIn K mainGlobals "_law_take" = some (some (.ref f_take))) (l_take : K.lookup f_take = some ⟨oc_take, od_take, .func (PySem.W.fnOf "_law_take" "_law_take" (defArgs st_take) (defBody st_take) (defScope st_take) .none kV_take dc_take pm_take an_take cd_take ct_take), sl_take⟩) (c_take : PySem.W.codeIn K cd_take "_law_take" = true) (k_take : PySem.W.keepIn K (.ref f_take) = true)
    {f_cells : Addr} {od_cells an_cells : Option Addr} {sl_cells : Array (Option Value)} {oc_cells kV_cells dc_cells pm_cells cd_cells ct_cells : Value}
    (a_cells : PySem.W.nsIn K mainGlobals "_law_cells" = some (some (.ref f_cells))) (l_cells : K.lookup f_cells = some ⟨oc_cells, od_cells, .func (PySem.W.fnOf "_law_cells" "_law_cells" (defArgs st_cells) (defBody st_cells) (defScope st_cells) .none kV_cells dc_cells pm_cells an_cells cd_cells ct_cells), sl_cells⟩) (c_cells : PySem.W.codeIn K cd_cells "_law_cells" = true) (k_cells : PySem.W.keepIn K (.ref f_cells) = true)
    {f_bits : Addr} {od_bits an_bits : Option Addr} {sl_bits : Array (Option Value)} {oc_bits kV_bits dc_bits pm_bits cd_bits ct_bits : Value}
    (a_bits : PySem.W.nsIn K mainGlobals "_law_bits" = some (some (.ref f_bits))) (l_bits : K.lookup f_bits = some ⟨oc_bits, od_bits, .func (PySem.W.fnOf "_law_bits" "_law_bits" (defArgs st_bits) (defBody st_bits) (defScope st_bits) .none kV_bits dc_bits pm_bits an_bits cd_bits ct_bits), sl_bits⟩) (c_bits : PySem.W.codeIn K cd_bits "_law_bits" = true) (k_bits : PySem.W.keepIn K (.ref f_bits) = true)
    {f_held : Addr} {od_held an_held : Option Addr} {sl_held : Array (Option Value)} {oc_held kV_held dc_held pm_held cd_held ct_held : Value}
    (a_held : PySem.W.nsIn K mainGlobals "_law_held" = some (some (.ref f_held))) (l_held : K.lookup f_held = some ⟨oc_held, od_held, .func (PySem.W.fnOf "_law_held" "_law_held" (defArgs st_held) (defBody st_held) (defScope st_held) .none kV_held dc_held pm_held an_held cd_held ct_held), sl_held⟩) (c_held : PySem.W.codeIn K cd_held "_law_held" = true) (k_held : PySem.W.keepIn K (.ref f_held) = true)
    {f_lanes : Addr} {od_lanes an_lanes : Option Addr} {sl_lanes : Array (Option Value)} {oc_lanes kV_lanes dc_lanes pm_lanes cd_lanes ct_lanes : Value}
    (a_lanes : PySem.W.nsIn K mainGlobals "_law_lanes" = some (some (.ref f_lanes))) (l_lanes : K.lookup f_lanes = some ⟨oc_lanes, od_lanes, .func (PySem.W.fnOf "_law_lanes" "_law_lanes" (defArgs st_lanes) (defBody st_lanes) (defScope st_lanes) .none kV_lanes dc_lanes pm_lanes an_lanes cd_lanes ct_lanes), sl_lanes⟩) (c_lanes : PySem.W.codeIn K cd_lanes "_law_lanes" = true) (k_lanes : PySem.W.keepIn K (.ref f_lanes) = true)
    {f_set : Addr} {od_set an_set : Option Addr} {sl_set : Array (Option Value)} {oc_set kV_set dc_set pm_set cd_set ct_set : Value}
    (a_set : PySem.W.nsIn K mainGlobals "_law_set" = some (some (.ref f_set))) (l_set : K.lookup f_set = some ⟨oc_set, od_set, .func (PySem.W.fnOf "_law_set" "_law_set" (defArgs st_set) (defBody st_set) (defScope st_set) .none kV_set dc_set pm_set an_set cd_set ct_set), sl_set⟩) (c_set : PySem.W.codeIn K cd_set "_law_set" = true) (k_set : PySem.W.keepIn K (.ref f_set) = true)
    {f_l_widest : Addr} {od_l_widest an_l_widest : Option Addr} {sl_l_widest : Array (Option Value)} {oc_l_widest kV_l_widest dc_l_widest pm_l_widest cd_l_widest ct_l_widest : Value}
    (a_l_widest : PySem.W.nsIn K mainGlobals "_law_widest" = some (some (.ref f_l_widest))) (l_l_widest : K.lookup f_l_widest = some ⟨oc_l_widest, od_l_widest, .func (PySem.W.fnOf "_law_widest" "_law_widest" (defArgs st_l_widest) (defBody st_l_widest) (defScope st_l_widest) .none kV_l_widest dc_l_widest pm_l_widest an_l_widest cd_l_widest ct_l_widest), sl_l_widest⟩) (c_l_widest : PySem.W.codeIn K cd_l_widest "_law_widest" = true) (k_l_widest : PySem.W.keepIn K (.ref f_l_widest) = true)
    {f_right : Addr} {od_right an_right : Option Addr} {sl_right : Array (Option Value)} {oc_right kV_right dc_right pm_right cd_right ct_right : Value}
    (a_right : PySem.W.nsIn K mainGlobals "_law_right" = some (some (.ref f_right))) (l_right : K.lookup f_right = some ⟨oc_right, od_right, .func (PySem.W.fnOf "_law_right" "_law_right" (defArgs st_right) (defBody st_right) (defScope st_right) .none kV_right dc_right pm_right an_right cd_right ct_right), sl_right⟩) (c_right : PySem.W.codeIn K cd_right "_law_right" = true) (k_right : PySem.W.keepIn K (.ref f_right) = true)
    {f_law : Addr} {od_law an_law : Option Addr} {sl_law : Array (Option Value)} {oc_law kV_law dc_law pm_law cd_law ct_law : Value}
    (a_law : PySem.W.nsIn K mainGlobals "law" = some (some (.ref f_law))) (l_law : K.lookup f_law = some ⟨oc_law, od_law, .func (PySem.W.fnOf "law" "law" (defArgs st_law) (defBody st_law) (defScope st_law) .none kV_law dc_law pm_law an_law cd_law ct_law), sl_law⟩) (c_law : PySem.W.codeIn K cd_law "law" = true) (k_law : PySem.W.keepIn K (.ref f_law) = true)
    {v_ANY : Value} (c_ANY : PySem.W.nsIn K mainGlobals "ANY" = some (some v_ANY)) (r_ANY : RelV (.str (SX.S [45])) v_ANY)
    {v_LANE_SIGNS : Value} (c_LANE_SIGNS : PySem.W.nsIn K mainGlobals "LANE_SIGNS" = some (some v_LANE_SIGNS)) (r_LANE_SIGNS : RelV (.str (SX.S [48, 49, 45])) v_LANE_SIGNS)
    (z_abs : PySem.W.nsIn K mainGlobals "abs" = some none)
    (z_all : PySem.W.nsIn K mainGlobals "all" = some none)
    (z_any : PySem.W.nsIn K mainGlobals "any" = some none)
    (z_enumerate : PySem.W.nsIn K mainGlobals "enumerate" = some none)
    (z_int : PySem.W.nsIn K mainGlobals "int" = some none)
    (z_len : PySem.W.nsIn K mainGlobals "len" = some none)
    (z_list : PySem.W.nsIn K mainGlobals "list" = some none)
    (z_range : PySem.W.nsIn K mainGlobals "range" = some none)
    (z_repr : PySem.W.nsIn K mainGlobals "repr" = some none)
    (z_reversed : PySem.W.nsIn K mainGlobals "reversed" = some none)
    (z_sorted : PySem.W.nsIn K mainGlobals "sorted" = some none)
    (z_str : PySem.W.nsIn K mainGlobals "str" = some none)
    (z_sum : PySem.W.nsIn K mainGlobals "sum" = some none)
    (z_tuple : PySem.W.nsIn K mainGlobals "tuple" = some none)
    (z_zip : PySem.W.nsIn K mainGlobals "zip" = some none)
    : ∃ fd : FuncData, (∀ (s : Shared) (v : Value), BindsTo s fd ⟨[v], []⟩ [("_law_script", v)]) ∧ ∀ base : Heap, K.In base → base.Ns mainGlobals mg → FnG l.prog w K mg base CX0 6 fa fd ["_law_script"] (sp_law K) := by
  have e := hfa.symm.trans (PySem.W.mg_of X G a_law)
  cases e
  have F_sheet := fun_mk (st := st_sheet) l_sheet c_sheet k_sheet
  have b_sheet := F_sheet.binds (ps := ["lane"]) fun _ _ _ _ _ _ us hl => match us, hl with | [_], _ => rfl
  have F_sheet_of := fun_mk (st := st_sheet_of) l_sheet_of c_sheet_of k_sheet_of
  have b_sheet_of := F_sheet_of.binds (ps := ["numbers"]) fun _ _ _ _ _ _ us hl => match us, hl with | [_], _ => rfl
  have F_all_lanes := fun_mk (st := st_all_lanes) l_all_lanes c_all_lanes k_all_lanes
  have b_all_lanes := F_all_lanes.binds (ps := ["width"]) fun _ _ _ _ _ _ us hl => match us, hl with | [_], _ => rfl
  have F_wider := fun_mk (st := st_wider) l_wider c_wider k_wider
  have b_wider := F_wider.binds (ps := ["lane"]) fun _ _ _ _ _ _ us hl => match us, hl with | [_], _ => rfl
  have F_widest := fun_mk (st := st_widest) l_widest c_widest k_widest
  have b_widest := F_widest.binds (ps := ["width", "numbers"]) fun _ _ _ _ _ _ us hl => match us, hl with | [_, _], _ => rfl
  have F_box := fun_mk (st := st_box) l_box c_box k_box
  have b_box := F_box.binds (ps := ["_law_cells_here", "_law_k"]) fun _ _ _ _ _ _ us hl => match us, hl with | [_, _], _ => rfl
  have F_take := fun_mk (st := st_take) l_take c_take k_take
  have b_take := F_take.binds (ps := ["_law_box_here", "_law_amount"]) fun _ _ _ _ _ _ us hl => match us, hl with | [_, _], _ => rfl
  have F_cells := fun_mk (st := st_cells) l_cells c_cells k_cells
  have b_cells := F_cells.binds (ps := ["_law_script", "_law_most"]) fun _ _ _ _ _ _ us hl => match us, hl with | [_, _], _ => rfl
  have F_bits := fun_mk (st := st_bits) l_bits c_bits k_bits
  have b_bits := F_bits.binds (ps := ["_law_span", "_law_number"]) fun _ _ _ _ _ _ us hl => match us, hl with | [_, _], _ => rfl
  have F_held := fun_mk (st := st_held) l_held c_held k_held
  have b_held := F_held.binds (ps := ["_law_lane", "_law_span"]) fun _ _ _ _ _ _ us hl => match us, hl with | [_, _], _ => rfl
  have F_lanes := fun_mk (st := st_lanes) l_lanes c_lanes k_lanes
  have b_lanes := F_lanes.binds (ps := ["_law_span"]) fun _ _ _ _ _ _ us hl => match us, hl with | [_], _ => rfl
  have F_set := fun_mk (st := st_set) l_set c_set k_set
  have b_set := F_set.binds (ps := ["_law_box_here", "_law_span"]) fun _ _ _ _ _ _ us hl => match us, hl with | [_, _], _ => rfl
  have F_l_widest := fun_mk (st := st_l_widest) l_l_widest c_l_widest k_l_widest
  have b_l_widest := F_l_widest.binds (ps := ["_law_span", "_law_digits"]) fun _ _ _ _ _ _ us hl => match us, hl with | [_, _], _ => rfl
  have F_right := fun_mk (st := st_right) l_right c_right k_right
  have b_right := F_right.binds (ps := ["_law_box_here"]) fun _ _ _ _ _ _ us hl => match us, hl with | [_], _ => rfl
  have F_law := fun_mk (st := st_law) l_law c_law k_law
  have b_law := F_law.binds (ps := ["_law_script"]) fun _ _ _ _ _ _ us hl => match us, hl with | [_], _ => rfl
  have kb_widest_0_numbers_width := kb_mk (n := 0) (ks := ["numbers", "width"]) (ps := ["width", "numbers"]) (ix := [1, 0]) F_widest fun _ _ _ _ _ _ us ws h1 h2 => match us, ws, h1, h2 with | [], [_, _], _, _ => rfl
  refine ⟨PySem.W.fnOf "law" "law" (defArgs st_law) (defBody st_law) (defScope st_law) .none kV_law dc_law pm_law an_law cd_law ct_law, fun s v => .of_eq rfl, fun base _ _ => ok_all (P := l.prog) (w := w) (base := base) ({
    f_sheet := f_sheet, fd_sheet := _, F_sheet := F_sheet, b_sheet := b_sheet, g_sheet := PySem.W.mg_of X G a_sheet,
    f_sheet_of := f_sheet_of, fd_sheet_of := _, F_sheet_of := F_sheet_of, b_sheet_of := b_sheet_of, g_sheet_of := PySem.W.mg_of X G a_sheet_of,
    f_all_lanes := f_all_lanes, fd_all_lanes := _, F_all_lanes := F_all_lanes, b_all_lanes := b_all_lanes, g_all_lanes := PySem.W.mg_of X G a_all_lanes,
    f_wider := f_wider, fd_wider := _, F_wider := F_wider, b_wider := b_wider, g_wider := PySem.W.mg_of X G a_wider,
    f_widest := f_widest, fd_widest := _, F_widest := F_widest, b_widest := b_widest, g_widest := PySem.W.mg_of X G a_widest,
    f_box := f_box, fd_box := _, F_box := F_box, b_box := b_box, g_box := PySem.W.mg_of X G a_box,
    f_take := f_take, fd_take := _, F_take := F_take, b_take := b_take, g_take := PySem.W.mg_of X G a_take,
    f_cells := f_cells, fd_cells := _, F_cells := F_cells, b_cells := b_cells, g_cells := PySem.W.mg_of X G a_cells,
    f_bits := f_bits, fd_bits := _, F_bits := F_bits, b_bits := b_bits, g_bits := PySem.W.mg_of X G a_bits,
    f_held := f_held, fd_held := _, F_held := F_held, b_held := b_held, g_held := PySem.W.mg_of X G a_held,
    f_lanes := f_lanes, fd_lanes := _, F_lanes := F_lanes, b_lanes := b_lanes, g_lanes := PySem.W.mg_of X G a_lanes,
    f_set := f_set, fd_set := _, F_set := F_set, b_set := b_set, g_set := PySem.W.mg_of X G a_set,
    f_l_widest := f_l_widest, fd_l_widest := _, F_l_widest := F_l_widest, b_l_widest := b_l_widest, g_l_widest := PySem.W.mg_of X G a_l_widest,
    f_right := f_right, fd_right := _, F_right := F_right, b_right := b_right, g_right := PySem.W.mg_of X G a_right,
    f_law := fa, fd_law := _, F_law := F_law, b_law := b_law, g_law := PySem.W.mg_of X G a_law,
    kb_widest_0_numbers_width := kb_widest_0_numbers_width,
    v_ANY := v_ANY, c_ANY := PySem.W.mg_of X G c_ANY, r_ANY := r_ANY,
    v_LANE_SIGNS := v_LANE_SIGNS, c_LANE_SIGNS := PySem.W.mg_of X G c_LANE_SIGNS, r_LANE_SIGNS := r_LANE_SIGNS,
    z_abs := PySem.W.mg_none_of X G z_abs, z_all := PySem.W.mg_none_of X G z_all, z_any := PySem.W.mg_none_of X G z_any, z_enumerate := PySem.W.mg_none_of X G z_enumerate, z_int := PySem.W.mg_none_of X G z_int, z_len := PySem.W.mg_none_of X G z_len, z_list := PySem.W.mg_none_of X G z_list, z_range := PySem.W.mg_none_of X G z_range, z_repr := PySem.W.mg_none_of X G z_repr, z_reversed := PySem.W.mg_none_of X G z_reversed, z_sorted := PySem.W.mg_none_of X G z_sorted, z_str := PySem.W.mg_none_of X G z_str, z_sum := PySem.W.mg_none_of X G z_sum, z_tuple := PySem.W.mg_none_of X G z_tuple, z_zip := PySem.W.mg_none_of X G z_zip } : Txt w K mg)⟩
end MA
open PySem PySem.W PyProof.Rows
set_option maxHeartbeats 0 in
theorem PySem.Challenge.cw_masklanes_k15_widest_lanes_holds : PySem.Challenge.rw_masklanes_k15_widest_lanes.Holds := by
  w_on; o_law; k_head; (case hw => w_witness2)
  k_fill
  refine MA.walkG (l := PySem.Challenge.rw_masklanes_k15_widest_lanes) (m := 63) (n := 6) (x := "_law_script") (sp := fun w => MA.sp_law _) rfl (by decide) rfl ⟨rfl, by decide, by decide⟩ (fun w h Y => PySem.W.kIn_of Y) ?F (fun _ _ a ns hl hS => ⟨a, ns, rfl, hS, hl, fun _ => rfl⟩)
  case F =>
    intro w mg fa h KX G hmg
    refine' MA.all_mk KX G hmg ?a_sheet ?l_sheet ?c_sheet ?k_sheet ?a_sheet_of ?l_sheet_of ?c_sheet_of ?k_sheet_of ?a_all_lanes ?l_all_lanes ?c_all_lanes ?k_all_lanes ?a_wider ?l_wider ?c_wider ?k_wider ?a_widest ?l_widest ?c_widest ?k_widest ?a_box ?l_box ?c_box ?k_box ?a_take ?l_take ?c_take ?k_take ?a_cells ?l_cells ?c_cells ?k_cells ?a_bits ?l_bits ?c_bits ?k_bits ?a_held ?l_held ?c_held ?k_held ?a_lanes ?l_lanes ?c_lanes ?k_lanes ?a_set ?l_set ?c_set ?k_set ?a_l_widest ?l_l_widest ?c_l_widest ?k_l_widest ?a_right ?l_right ?c_right ?k_right ?a_law ?l_law ?c_law ?k_law ?c_ANY ?r_ANY ?c_LANE_SIGNS ?r_LANE_SIGNS ?z_abs ?z_all ?z_any ?z_enumerate ?z_int ?z_len ?z_list ?z_range ?z_repr ?z_reversed ?z_sorted ?z_str ?z_sum ?z_tuple ?z_zip
    (case a_sheet => k_is)
    (case l_sheet => k_is)
    (case c_sheet => k_is)
    (case k_sheet => k_is)
    (case a_sheet_of => k_is)
    (case l_sheet_of => k_is)
    (case c_sheet_of => k_is)
    (case k_sheet_of => k_is)
    (case a_all_lanes => k_is)
    (case l_all_lanes => k_is)
    (case c_all_lanes => k_is)
    (case k_all_lanes => k_is)
    (case a_wider => k_is)
    (case l_wider => k_is)
    (case c_wider => k_is)
    (case k_wider => k_is)
    (case a_widest => k_is)
    (case l_widest => k_is)
    (case c_widest => k_is)
    (case k_widest => k_is)
    (case a_box => k_is)
    (case l_box => k_is)
    (case c_box => k_is)
    (case k_box => k_is)
    (case a_take => k_is)
    (case l_take => k_is)
    (case c_take => k_is)
    (case k_take => k_is)
    (case a_cells => k_is)
    (case l_cells => k_is)
    (case c_cells => k_is)
    (case k_cells => k_is)
    (case a_bits => k_is)
    (case l_bits => k_is)
    (case c_bits => k_is)
    (case k_bits => k_is)
    (case a_held => k_is)
    (case l_held => k_is)
    (case c_held => k_is)
    (case k_held => k_is)
    (case a_lanes => k_is)
    (case l_lanes => k_is)
    (case c_lanes => k_is)
    (case k_lanes => k_is)
    (case a_set => k_is)
    (case l_set => k_is)
    (case c_set => k_is)
    (case k_set => k_is)
    (case a_l_widest => k_is)
    (case l_l_widest => k_is)
    (case c_l_widest => k_is)
    (case k_l_widest => k_is)
    (case a_right => k_is)
    (case l_right => k_is)
    (case c_right => k_is)
    (case k_right => k_is)
    (case a_law => k_is)
    (case l_law => k_is)
    (case c_law => k_is)
    (case k_law => k_is)
    (case c_ANY => k_is)
    (case r_ANY => exact ⟨_, rfl⟩)
    (case c_LANE_SIGNS => k_is)
    (case r_LANE_SIGNS => exact ⟨_, rfl⟩)
    (case z_abs => k_is)
    (case z_all => k_is)
    (case z_any => k_is)
    (case z_enumerate => k_is)
    (case z_int => k_is)
    (case z_len => k_is)
    (case z_list => k_is)
    (case z_range => k_is)
    (case z_repr => k_is)
    (case z_reversed => k_is)
    (case z_sorted => k_is)
    (case z_str => k_is)
    (case z_sum => k_is)
    (case z_tuple => k_is)
    (case z_zip => k_is)
