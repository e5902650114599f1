import PyProof.Rows.All
import Wide.All
import OpenK.AllK
import Wide.FinOn
import KE.GoesZip
import KE.GoesEnum
import KE.GoesMore
import KE.KDictZip
import HandS.ForMost
import HandS.Zip
import PyProof.Rows.StrPadFill
import HandS.Style
import HandS.StrMore
import PyProof.StrBlock
import HandS.Rev
import HandS.IntHex
import KE.KxField
import HandS.FStr
import PyProof.ZipIter
import PyProof.EnumIter
import HandS.Iter
import KE.GoesEnumKw
import PyProof.Rows.CallKwBuiltin
import HandS.SortKw
import HandS.IsInst
import HandS.Defaults
import HandS.Flow
import HandS.ForExc
import PyProof.ReprRoads
import HandS.WideBits
import HandS.Wide
import HandS.TupAny
import HandS.SortInts
import PyProof.ListStr
import PyProof.Rows.BitMore
import KE.BitLaws
import PyProof.StrLawsRepr
import HandS.Text
import Wide.Txt
import PyProof.LongRange
import HandS.ExcInit
import KE.KSuper
import KE.KExcSuper
import HandS.ExcIs
import HandS.ExcField
import HandS.ExcValue
import KE.KExcIs
import HandS.Dict
import HandS.Deep
import KE.KxText
import HandS.Lambda
import HandS.Nested
import HandS.EndOwn
import KE.KTupSum
import HandS.Flt
import KE.KRevSl
import PySem.Challenge.RW_inksays_k60_least_fillings
import KE.RegKSuper
import KE.RegKIsAll
import KE.KNestM
set_option Elab.async false
set_option linter.all false
set_option maxRecDepth 100000
set_option maxHeartbeats 4000000
/-! Zx1: next of a zip over two iterators of any kind, wherever the tuple stands that it gave last. -/
namespace Zx
open PySem
/-- a zip's own fields -/
abbrev ZF (h : Heap) (z TI TO : Addr) (x : Value) (f : Bool) : Prop := h.get? z = some { cls := .type "zip", dict := none, data := .fields #[x, .bool f, .bool false, .ref TI, .ref TO], slots := #[] }
/-- what the first field may be -/
def Kept (x : Value) : Prop := x = .none ∨ ∃ T : Addr, x = rawInt T
section
variable {prog : Program} {w : World} {A : Around} {E : Value → Shared → Prop} {s : Shared} {z TI TO i1 i2 : Addr} {fp1 fp2 : List Addr} {n1 n2 i : Nat} {P1 P2 : Nat → Value → Prop} {St1 St2 : Nat → Heap → Prop} {a1 a2 : Value}
theorem alive_any {a : Addr} {Q : Option Obj → Shared → Prop} (h : Q (s.heap.get? a) s) : wpAny (model prog w) A (loadIfAlive a) Q E s := fun _ _ _ => h
theorem free_any {x : Value} {f : Bool} {Q : Bool → Shared → Prop} (hz : ZF s.heap z TI TO x f) (hx : Kept x) (ht : Q true s) (hf : ∀ h' (T : Addr), ZF h' z TI TO (rawInt T) true → Heap.SameBut z s.heap h' → Q false { s with heap := h' }) :
    wpAny (model prog w) A (Builtin.SmallTypes.ownedTupleIsFree (.ref z)) Q E s := by
  unfold Builtin.SmallTypes.ownedTupleIsFree
  rcases hx with rfl | ⟨T, rfl⟩
  · exact wpAny_bind (wpAny_field hz rfl (x := .none) rfl (wpAny_pure ht))
  · refine wpAny_bind (wpAny_field hz rfl (x := rawInt T) rfl ?_)
    show wpAny _ _ (loadIfAlive ((T : Int).toNat) >>= _) _ _ _
    rw [Int.toNat_natCast]
    refine wpAny_bind (alive_any ?_)
    cases hT : s.heap.get? T with
    | none =>
      simp only [Option.isNone_none, if_true]
      exact wpAny_pure ht
    | some oT =>
      simp only [Option.isNone_some, Bool.false_eq_true, if_false]
      refine wpAny_bind (wpAny_field hz rfl (x := .bool f) rfl ?_)
      cases f with
      | true =>
        rw [if_neg (show ¬ ((Value.bool true != Value.bool true) = true) from Bool.false_ne_true)]
        exact wpAny_pure (hf s.heap T hz (Heap.SameBut.refl _ _))
      | false =>
        rw [if_pos (show (Value.bool false != Value.bool true) = true from rfl)]
        exact wpAny_bind (wpAny_setField_rec hz (by simp) fun h₁ hz₁ hs₁ => wpAny_pure (hf h₁ T hz₁ hs₁))
/-- the state of a zip at its i-th turn -/
def ZSt (z TI TO i1 i2 : Addr) (St1 St2 : Nat → Heap → Prop) (i : Nat) (h : Heap) : Prop :=
  (∃ x f, ZF h z TI TO x f ∧ Kept x) ∧ IsTupOf2 h TI (.ref i1) (.ref i2) ∧ (∃ a1 a2, IsTupOf2 h TO a1 a2) ∧ St1 i h ∧ St2 i h
theorem zip_item {Q : Value → Shared → Prop} (S : ZipSep2 z TI TO i1 i2 fp1 fp2) (D1 : Draws prog w A i1 fp1 n1 P1 St1) (D2 : Draws prog w A i2 fp2 n2 P2 St2) (st : ZSt z TI TO i1 i2 St1 St2 i s.heap) (hTf1 : TI ∉ fp1) (hTf2 : TI ∉ fp2) (hlt1 : i < n1) (hlt2 : i < n2)
    (hQ : ∀ x1 x2 h' tk, P1 i x1 → P2 i x2 → ZSt z TI TO i1 i2 St1 St2 (i + 1) h' → IsTupOf2 h' s.heap.objs.size x1 x2 → h'.objs.size = s.heap.objs.size + 1 →
      (∀ c o, c ≠ z → c ≠ TO → c ≠ i1 → c ≠ i2 → s.heap.get? c = some o → h'.get? c = some o) → Q (.ref s.heap.objs.size) { s with heap := h', toks := tk }) :
    wpAny (model prog w) A (Builtin.«zip.__next__» ⟨[.ref z], []⟩) (fun fin s' => ∃ v, fin = .done (.ret v) ∧ Q v s') E s := by
  obtain ⟨hp, g, d, tk0, os⟩ := s
  obtain ⟨⟨x, f, hz, hx⟩, hTI, ⟨a1, a2, hTO⟩, st1, st2⟩ := st
  show wpAny _ _ (field (.ref z) 2 >>= _) _ _ _
  refine wpAny_bind (wpAny_field hz rfl (x := .bool false) rfl ?_)
  show wpAny _ _ (field (.ref z) 3 >>= _) _ _ _
  refine wpAny_bind (wpAny_field hz rfl (x := .ref TI) rfl ?_)
  refine wpAny_bind (wpAny_seqItems hTI rfl ?_)
  show wpAny _ _ (Builtin.SmallTypes.ownedTupleIsFree (.ref z) >>= _) _ _ _
  refine wpAny_bind (free_any hz hx ?_ fun h₀ T hz₀ hs₀ => ?_)
  · simp only [if_true]
    refine wpAny_bind (wpAny_rule ?_)
    refine wpAny_bind (wpAny_field hz rfl (x := .ref TO) rfl ?_)
    refine wpAny_bind (wpAny_setField_rec hz (by simp) fun g0 hz0 hs0 => ?_)
    replace hz0 : ZF g0 z TI TO .ellipsis f := hz0
    replace hs0 : Heap.SameBut z hp g0 := hs0
    refine wpAny_bind ?_
    simp only [List.zipIdx_cons, List.zipIdx_nil, List.forIn_cons, List.forIn_nil]
    refine wpAny_bind (wpAny_bind (wpAny_onRaise ?_))
    show wpAny _ _ (Builtin.SmallTypes.nextOf (.ref i1) >>= _) _ _ ⟨g0, g, d, tk0, os⟩
    refine wpAny_bind (D1.item i _ _ _ hlt1 (D1.over st1 hs0 S.zf1) fun x1 p1 tk1 hx1 sn1 hp1 => wpAny_pure ?_)
    replace hp1 : Heap.SameBut i1 g0 p1 := hp1
    have hU1 : IsTupOf2 p1 TO a1 a2 := hp1.extBut _ _ S.Ti1 (hs0.extBut _ _ S.TOz hTO)
    refine wpAny_bind (wpAny_seqItems (s := ⟨p1, g, d, tk1, os⟩) hU1 rfl ?_)
    refine wpAny_bind (updateSeq_IsTupOf2 (s := ⟨p1, g, d, tk1, os⟩) hU1 fun g1 hT1 hs1 => ?_)
    replace hT1 : IsTupOf2 g1 TO x1 a2 := hT1
    replace hs1 : Heap.SameBut TO p1 g1 := hs1
    refine wpAny_bind (wpAny_letGo (wpAny_pure ?_))
    refine wpAny_bind (wpAny_bind (wpAny_onRaise ?_))
    show wpAny _ _ (Builtin.SmallTypes.nextOf (.ref i2) >>= _) _ _ ⟨g1, g, d, tk1, os⟩
    refine wpAny_bind (D2.item i _ _ _ hlt2 (D2.over (D2.over (D2.over st2 hs0 S.zf2) hp1 S.sep1_2) hs1 S.Tf2) fun x2 p2 tk2 hx2 sn2 hp2 => wpAny_pure ?_)
    replace hp2 : Heap.SameBut i2 g1 p2 := hp2
    have hU2 : IsTupOf2 p2 TO x1 a2 := hp2.extBut _ _ S.Ti2 hT1
    refine wpAny_bind (wpAny_seqItems (s := ⟨p2, g, d, tk2, os⟩) hU2 rfl ?_)
    refine wpAny_bind (updateSeq_IsTupOf2 (s := ⟨p2, g, d, tk2, os⟩) hU2 fun g2 hT2 hs2 => ?_)
    replace hT2 : IsTupOf2 g2 TO x1 x2 := hT2
    replace hs2 : Heap.SameBut TO p2 g2 := hs2
    refine wpAny_bind (wpAny_letGo (wpAny_pure (wpAny_pure ?_)))
    refine wpAny_bind (wpAny_seqItems (s := ⟨g2, g, d, tk2, os⟩) hT2 rfl ?_)
    refine wpAny_bind (wpAny_newTuple ?_)
    have hsz : g2.objs.size = hp.objs.size := by rw [hs2.1, hp2.1, hs1.1, hp1.1, hs0.1]
    have hzz : ZF g2 z TI TO .ellipsis f := (hs2.extBut _ _ S.TOz.symm (hp2.extBut _ _ S.zi2 (hs1.extBut _ _ S.TOz.symm (hp1.extBut _ _ S.zi1 hz0))))
    have hkk : ∀ c o, c ≠ z → c ≠ TO → c ≠ i1 → c ≠ i2 → hp.get? c = some o → g2.get? c = some o := fun c o cz cT c1 c2 e =>
      (hs2.extBut _ _ cT (hp2.extBut _ _ c2 (hs1.extBut _ _ cT (hp1.extBut _ _ c1 (hs0.extBut _ _ cz e)))))
    have hj1 : St1 (i + 1) g2 := (D1.over (D1.over (D1.over sn1 hs1 S.Tf1) hp2 S.sep2_1) hs2 S.Tf1)
    have hj2 : St2 (i + 1) g2 := (D2.over sn2 hs2 S.Tf2)
    have hzlt : z < g2.objs.size := Heap.lt_size hzz
    show wpAny _ _ (Builtin.SmallTypes.ownedTupleHandOut (.ref z) (.ref g2.objs.size) >>= _) _ _ ⟨g2.push { cls := .type "tuple", data := .seq #[x1, x2] }, g, d, tk2, os⟩
    refine wpAny_bind ?_
    unfold Builtin.SmallTypes.ownedTupleHandOut
    have hz₆ : ZF (g2.push { cls := .type "tuple", data := .seq #[x1, x2] }) z TI TO .ellipsis f := Heap.get?_push_of_some _ hzz
    refine wpAny_bind (wpAny_setField_rec hz₆ (by simp) fun h₇ hz₇ hs₇ => ?_)
    replace hz₇ : ZF h₇ z TI TO (rawInt g2.objs.size) f := hz₇
    refine wpAny_setField_rec hz₇ (by simp) fun h₈ hz₈ hs₈ => ?_
    replace hz₈ : ZF h₈ z TI TO (rawInt g2.objs.size) false := hz₈
    replace hs₇ : Heap.SameBut z (g2.push { cls := .type "tuple", data := .seq #[x1, x2] }) h₇ := hs₇
    replace hs₈ : Heap.SameBut z h₇ h₈ := hs₈
    have up : ∀ c o, c ≠ z → g2.get? c = some o → h₈.get? c = some o := fun c o c1 e => hs₈.extBut _ _ c1 (hs₇.extBut _ _ c1 (Heap.get?_push_of_some _ e))
    have hT₈ : IsTupOf2 h₈ g2.objs.size x1 x2 := hs₈.extBut _ _ (Nat.ne_of_gt hzlt) (hs₇.extBut _ _ (Nat.ne_of_gt hzlt) (Heap.get?_push_size _ rfl))
    have hz8 : h₈.objs.size = g2.objs.size + 1 := by rw [hs₈.1, hs₇.1, Heap.size_push]
    rw [hsz] at hz₈ hT₈ hz8
    refine wpAny_pure ⟨_, rfl, ?_⟩
    show Q (.ref g2.objs.size) ⟨h₈, g, d, tk2, os⟩
    rw [hsz]
    exact hQ x1 x2 h₈ tk2 hx1 hx2 ⟨⟨_, _, hz₈, .inr ⟨_, rfl⟩⟩, up _ _ S.TIz (hkk _ _ S.TIz S.TITO S.TIi1 S.TIi2 hTI), ⟨_, _, up _ _ S.TOz hT2⟩, D1.frame _ _ _ hj1 fun b hb o e => up b o (fun q => S.zf1 (q ▸ hb)) e, D2.frame _ _ _ hj2 fun b hb o e => up b o (fun q => S.zf2 (q ▸ hb)) e⟩ hT₈ hz8
      fun c o cz cT c1 c2 e => up c o cz (hkk c o cz cT c1 c2 e)
  · replace hs₀ : Heap.SameBut z hp h₀ := hs₀
    simp only [Bool.false_eq_true, if_false]
    refine wpAny_bind ?_
    rw [← Array.forIn_toList]
    simp only [List.forIn_cons, List.forIn_nil]
    refine wpAny_bind (wpAny_bind (wpAny_holding ?_))
    show wpAny _ _ (Builtin.SmallTypes.nextOf (.ref i1) >>= _) _ _ ⟨h₀, g, d, tk0, os⟩
    refine wpAny_bind (D1.item i _ _ _ hlt1 (D1.over st1 hs₀ S.zf1) fun x1 p1 tk1 hx1 sn1 hp1 => wpAny_pure ?_)
    replace hp1 : Heap.SameBut i1 h₀ p1 := hp1
    refine wpAny_pure ?_
    refine wpAny_bind (wpAny_bind (wpAny_holding ?_))
    show wpAny _ _ (Builtin.SmallTypes.nextOf (.ref i2) >>= _) _ _ ⟨p1, g, d, tk1, os⟩
    refine wpAny_bind (D2.item i _ _ _ hlt2 (D2.over (D2.over st2 hs₀ S.zf2) hp1 S.sep1_2) fun x2 p2 tk2 hx2 sn2 hp2 => wpAny_pure ?_)
    replace hp2 : Heap.SameBut i2 p1 p2 := hp2
    refine wpAny_pure (wpAny_pure ?_)
    show wpAny _ _ (newTuple [x1, x2] >>= _) _ _ ⟨p2, g, d, tk2, os⟩
    refine wpAny_bind (wpAny_newTuple ?_)
    have hsz : p2.objs.size = hp.objs.size := by rw [hp2.1, hp1.1, hs₀.1]
    have hzz : ZF p2 z TI TO (rawInt T) true := hp2.extBut _ _ S.zi2 (hp1.extBut _ _ S.zi1 hz₀)
    have hkk : ∀ c o, c ≠ z → c ≠ i1 → c ≠ i2 → hp.get? c = some o → p2.get? c = some o := fun c o cz c1 c2 e => hp2.extBut _ _ c2 (hp1.extBut _ _ c1 (hs₀.extBut _ _ cz e))
    have hj1 : St1 (i + 1) p2 := D1.over sn1 hp2 S.sep2_1
    have up : ∀ c o, p2.get? c = some o → (p2.push { cls := .type "tuple", data := .seq #[x1, x2] }).get? c = some o := fun c o e => Heap.get?_push_of_some _ e
    have hT₈ : IsTupOf2 (p2.push { cls := .type "tuple", data := .seq #[x1, x2] }) p2.objs.size x1 x2 := Heap.get?_push_size _ rfl
    have hz8 : (p2.push { cls := .type "tuple", data := .seq #[x1, x2] }).objs.size = p2.objs.size + 1 := Heap.size_push ..
    refine wpAny_pure ⟨_, rfl, ?_⟩
    show Q (.ref p2.objs.size) _
    rw [hsz] at hT₈ hz8 ⊢
    exact hQ x1 x2 _ tk2 hx1 hx2 ⟨⟨_, _, up _ _ hzz, .inr ⟨_, rfl⟩⟩, up _ _ (hkk _ _ S.TIz S.TIi1 S.TIi2 hTI), ⟨_, _, up _ _ (hkk _ _ S.TOz S.Ti1 S.Ti2 hTO)⟩, D1.frame _ _ _ hj1 fun b hb o e => up b o e, D2.frame _ _ _ sn2 fun b hb o e => up b o e⟩ hT₈ hz8
      fun c o cz cT c1 c2 e => up c o (hkk c o cz c1 c2 e)
theorem zip_end {Q : Fin → Shared → Prop} (S : ZipSep2 z TI TO i1 i2 fp1 fp2) (D1 : Draws prog w A i1 fp1 n1 P1 St1) (D2 : Draws prog w A i2 fp2 n2 P2 St2) (st : ZSt z TI TO i1 i2 St1 St2 i s.heap) (hle1 : i ≤ n1) (hle2 : i ≤ n2) (hend : i = n1 ∨ i = n2)
    (hE : ∀ h' tk e, (∀ c o, c ≠ z → c ≠ TO → c ≠ i1 → c ≠ i2 → s.heap.get? c = some o → h'.get? c = some o) → (∃ o, h'.get? e = some o ∧ o.cls = .type "StopIteration") → E (.ref e) { s with heap := h', toks := tk }) :
    wpAny (model prog w) A (Builtin.«zip.__next__» ⟨[.ref z], []⟩) Q E s := by
  obtain ⟨hp, g, d, tk0, os⟩ := s
  obtain ⟨⟨x, f, hz, hx⟩, hTI, ⟨a1, a2, hTO⟩, st1, st2⟩ := st
  show wpAny _ _ (field (.ref z) 2 >>= _) _ _ _
  refine wpAny_bind (wpAny_field hz rfl (x := .bool false) rfl ?_)
  show wpAny _ _ (field (.ref z) 3 >>= _) _ _ _
  refine wpAny_bind (wpAny_field hz rfl (x := .ref TI) rfl ?_)
  refine wpAny_bind (wpAny_seqItems hTI rfl ?_)
  show wpAny _ _ (Builtin.SmallTypes.ownedTupleIsFree (.ref z) >>= _) _ _ _
  refine wpAny_bind (free_any hz hx ?_ fun h₀ T hz₀ hs₀ => ?_)
  · simp only [if_true]
    refine wpAny_bind (wpAny_rule ?_)
    refine wpAny_bind (wpAny_field hz rfl (x := .ref TO) rfl ?_)
    refine wpAny_bind (wpAny_setField_rec hz (by simp) fun g0 hz0 hs0 => ?_)
    replace hz0 : ZF g0 z TI TO .ellipsis f := hz0
    replace hs0 : Heap.SameBut z hp g0 := hs0
    refine wpAny_bind ?_
    simp only [List.zipIdx_cons, List.zipIdx_nil, List.forIn_cons, List.forIn_nil]
    refine wpAny_bind (wpAny_bind (wpAny_onRaise ?_))
    show wpAny _ _ (Builtin.SmallTypes.nextOf (.ref i1) >>= _) _ _ ⟨g0, g, d, tk0, os⟩
    by_cases hlt1 : i < n1
    · refine wpAny_bind (D1.item i _ _ _ hlt1 (D1.over st1 hs0 S.zf1) fun x1 p1 tk1 hx1 sn1 hp1 => wpAny_pure ?_)
      replace hp1 : Heap.SameBut i1 g0 p1 := hp1
      have hU1 : IsTupOf2 p1 TO a1 a2 := hp1.extBut _ _ S.Ti1 (hs0.extBut _ _ S.TOz hTO)
      refine wpAny_bind (wpAny_seqItems (s := ⟨p1, g, d, tk1, os⟩) hU1 rfl ?_)
      refine wpAny_bind (updateSeq_IsTupOf2 (s := ⟨p1, g, d, tk1, os⟩) hU1 fun g1 hT1 hs1 => ?_)
      replace hT1 : IsTupOf2 g1 TO x1 a2 := hT1
      replace hs1 : Heap.SameBut TO p1 g1 := hs1
      refine wpAny_bind (wpAny_letGo (wpAny_pure ?_))
      have hi2 : i = n2 := by omega
      refine wpAny_bind (wpAny_bind (wpAny_onRaise ?_))
      show wpAny _ _ (Builtin.SmallTypes.nextOf (.ref i2) >>= _) _ _ ⟨g1, g, d, tk1, os⟩
      refine wpAny_bind (D2.done ⟨g1, g, d, tk1, os⟩ _ _ (by rw [← hi2]; exact (D2.over (D2.over (D2.over st2 hs0 S.zf2) hp1 S.sep1_2) hs1 S.Tf2)) fun q e hq he => ?_)
      replace hq : Heap.ExtBut i2 g1 q := hq
      obtain ⟨oe, hoe, hce⟩ := he
      replace hoe : q.get? e = some oe := hoe
      have hzq : ZF q z TI TO .ellipsis f := hq _ _ S.zi2 (hs1.extBut _ _ S.TOz.symm (hp1.extBut _ _ S.zi1 hz0))
      have hez : e ≠ z := fun x => by subst x; rw [hzq] at hoe; cases hoe; simp at hce
      refine wpAny_setField_rec (s := ⟨q, g, d, tk1, os⟩) hzq (by simp) fun q' _ hq' => ?_
      replace hq' : Heap.SameBut z q q' := hq'
      exact hE q' tk1 e (fun c o cz cT c1 c2 x => hq'.extBut _ _ cz (hq _ _ c2 (hs1.extBut _ _ cT (hp1.extBut _ _ c1 (hs0.extBut _ _ cz x))))) ⟨oe, hq'.extBut _ _ hez hoe, hce⟩
    · have hi1 : i = n1 := by omega
      refine wpAny_bind (D1.done ⟨g0, g, d, tk0, os⟩ _ _ (by rw [← hi1]; exact (D1.over st1 hs0 S.zf1)) fun q e hq he => ?_)
      replace hq : Heap.ExtBut i1 g0 q := hq
      obtain ⟨oe, hoe, hce⟩ := he
      replace hoe : q.get? e = some oe := hoe
      have hzq : ZF q z TI TO .ellipsis f := hq _ _ S.zi1 hz0
      have hez : e ≠ z := fun x => by subst x; rw [hzq] at hoe; cases hoe; simp at hce
      refine wpAny_setField_rec (s := ⟨q, g, d, tk0, os⟩) hzq (by simp) fun q' _ hq' => ?_
      replace hq' : Heap.SameBut z q q' := hq'
      exact hE q' tk0 e (fun c o cz cT c1 c2 x => hq'.extBut _ _ cz (hq _ _ c1 (hs0.extBut _ _ cz x))) ⟨oe, hq'.extBut _ _ hez hoe, hce⟩
  · replace hs₀ : Heap.SameBut z hp h₀ := hs₀
    simp only [Bool.false_eq_true, if_false]
    refine wpAny_bind ?_
    rw [← Array.forIn_toList]
    simp only [List.forIn_cons, List.forIn_nil]
    refine wpAny_bind (wpAny_bind (wpAny_holding ?_))
    show wpAny _ _ (Builtin.SmallTypes.nextOf (.ref i1) >>= _) _ _ ⟨h₀, g, d, tk0, os⟩
    by_cases hlt1 : i < n1
    · refine wpAny_bind (D1.item i _ _ _ hlt1 (D1.over st1 hs₀ S.zf1) fun x1 p1 tk1 hx1 sn1 hp1 => wpAny_pure ?_)
      replace hp1 : Heap.SameBut i1 h₀ p1 := hp1
      refine wpAny_pure ?_
      have hi2 : i = n2 := by omega
      refine wpAny_bind (wpAny_bind (wpAny_holding ?_))
      show wpAny _ _ (Builtin.SmallTypes.nextOf (.ref i2) >>= _) _ _ ⟨p1, g, d, tk1, os⟩
      refine wpAny_bind (D2.done ⟨p1, g, d, tk1, os⟩ _ _ (by rw [← hi2]; exact (D2.over (D2.over st2 hs₀ S.zf2) hp1 S.sep1_2)) fun q e hq he => ?_)
      replace hq : Heap.ExtBut i2 p1 q := hq
      exact hE q tk1 e (fun c o cz cT c1 c2 x => hq _ _ c2 (hp1.extBut _ _ c1 (hs₀.extBut _ _ cz x))) he
    · have hi1 : i = n1 := by omega
      refine wpAny_bind (D1.done ⟨h₀, g, d, tk0, os⟩ _ _ (by rw [← hi1]; exact (D1.over st1 hs₀ S.zf1)) fun q e hq he => ?_)
      replace hq : Heap.ExtBut i1 h₀ q := hq
      exact hE q tk0 e (fun c o cz cT c1 c2 x => hq _ _ c1 (hs₀.extBut _ _ cz x)) he
theorem next_zip {Q : Option Value → Shared → Prop} (S : ZipSep2 z TI TO i1 i2 fp1 fp2) (D1 : Draws prog w A.in1 i1 fp1 n1 P1 St1) (D2 : Draws prog w A.in1 i2 fp2 n2 P2 St2) (st : ZSt z TI TO i1 i2 St1 St2 i s.heap) (hTf1 : TI ∉ fp1) (hTf2 : TI ∉ fp2) (hlt1 : i < n1) (hlt2 : i < n2)
    (hQ : ∀ x1 x2 h' tk, P1 i x1 → P2 i x2 → ZSt z TI TO i1 i2 St1 St2 (i + 1) h' → IsTupOf2 h' s.heap.objs.size x1 x2 → h'.objs.size = s.heap.objs.size + 1 →
      (∀ c o, c ≠ z → c ≠ TO → c ≠ i1 → c ≠ i2 → s.heap.get? c = some o → h'.get? c = some o) → Q (some (.ref s.heap.objs.size)) { s with heap := h', toks := tk }) :
    wpAny (model prog w) A (pyNext (.ref z)) Q E s := by
  obtain ⟨x, f, hz, _⟩ := st.1
  have hT : s.TypeIs (.ref z) "zip" := ⟨_, hz, rfl⟩
  unfold pyNext
  exact wpAny_bind (wpAny_attempt (wpAny_callSpecial?_slot (name := Str.ofString "__next__") hT F.slot_zip_next
    (wpAny_call_entry F.slot_zip_next hT F.entry_zip_next
      (zip_item S D1 D2 st hTf1 hTf2 hlt1 hlt2 fun x1 x2 h' tk y1 y2 b1 b2 b3 b4 => wpAny_pure (hQ x1 x2 h' tk y1 y2 b1 b2 b3 b4)) (F.args_zip_next_1 _))))
theorem next_zip_end {Q : Option Value → Shared → Prop} (S : ZipSep2 z TI TO i1 i2 fp1 fp2) (D1 : Draws prog w A.in1 i1 fp1 n1 P1 St1) (D2 : Draws prog w A.in1 i2 fp2 n2 P2 St2) (st : ZSt z TI TO i1 i2 St1 St2 i s.heap) (hle1 : i ≤ n1) (hle2 : i ≤ n2) (hend : i = n1 ∨ i = n2)
    (hQ : ∀ h' tk, (∀ c o, c ≠ z → c ≠ TO → c ≠ i1 → c ≠ i2 → s.heap.get? c = some o → h'.get? c = some o) → Q none { s with heap := h', toks := tk }) : wpAny (model prog w) A (pyNext (.ref z)) Q E s := by
  obtain ⟨x, f, hz, _⟩ := st.1
  have hT : s.TypeIs (.ref z) "zip" := ⟨_, hz, rfl⟩
  unfold pyNext
  refine wpAny_bind (wpAny_attempt (wpAny_callSpecial?_slot (name := Str.ofString "__next__") hT F.slot_zip_next
    (wpAny_call_entry F.slot_zip_next hT F.entry_zip_next (zip_end S D1 D2 st hle1 hle2 hend fun h' tk e hk he => ?_) (F.args_zip_next_1 _))))
  obtain ⟨o, ho, hc⟩ := he
  refine wpAny_bind (wpAny_isInstance (T := "StopIteration") (b := true) ⟨o, ho, hc⟩ isSubtype_stop ?_)
  exact wpAny_pure (hQ _ _ hk)
end
end Zx

/-! Zx2: list(zip(a, b)), over lists, tuples and texts. -/
namespace Zx
open PySem L2 PyProof.Rows
theorem zip_no_len : typeLookup (.type "zip") "__len__" = pure none := by rw [typeLookup_type, builtinLookup_eq_fast]; kernel_rfl
theorem zip_no_hint : typeLookup (.type "zip") "__length_hint__" = pure none := by rw [typeLookup_type, builtinLookup_eq_fast]; kernel_rfl
section
variable {prog : Program} {w : World} {A : Around} {z TI TO i1 i2 : Addr} {fp1 fp2 : List Addr} {n1 n2 i : Nat} {P1 P2 : Nat → Value → Prop} {St1 St2 : Nat → Heap → Prop}
theorem ZSt.frame {h h' : Heap} (D1 : Draws prog w A i1 fp1 n1 P1 St1) (D2 : Draws prog w A i2 fp2 n2 P2 St2) (st : ZSt z TI TO i1 i2 St1 St2 i h) (k : ∀ b ∈ z :: TI :: TO :: (fp1 ++ fp2), ∀ o, h.get? b = some o → h'.get? b = some o) : ZSt z TI TO i1 i2 St1 St2 i h' := by
  obtain ⟨⟨x, f, hz, hx⟩, hTI, ⟨a1, a2, hTO⟩, st1, st2⟩ := st
  exact ⟨⟨x, f, k z (by simp) _ hz, hx⟩, k TI (by simp) _ hTI, ⟨a1, a2, k TO (by simp) _ hTO⟩, D1.frame _ _ _ st1 fun b hb o e => k b (by simp [hb]) o e, D2.frame _ _ _ st2 fun b hb o e => k b (by simp [hb]) o e⟩
theorem ZSt.new {h : Heap} (hz : IsZip h z TI TO .none) (hTI : IsTupOf2 h TI (.ref i1) (.ref i2)) (hTO : ∃ a1 a2, IsTupOf2 h TO a1 a2) (st1 : St1 0 h) (st2 : St2 0 h) : ZSt z TI TO i1 i2 St1 St2 0 h :=
  ⟨⟨_, _, hz, .inl rfl⟩, hTI, hTO, st1, st2⟩
end
/-- the pairs of which the list at D tells -/
def Pairs (H : Hp) (D : Addr) (xs ys : List V) (Ts : List Addr) : Prop := ∀ (j : Nat) (T : Addr), Ts[j]? = some T → T ≠ D ∧ ∃ x y, xs[j]? = some x ∧ ys[j]? = some y ∧ H T = some (.tup [x, y])
section
variable {X : Cx} {pins : List (Addr × Obj)} {σ : L2.St} {z TI TO i1 i2 D : Addr} {fp1 fp2 : List Addr} {n1 n2 : Nat} {P1 P2 : Nat → Value → Prop} {St1 St2 : Nat → Heap → Prop} {xs ys : List V}
/-- one turn, as the layer sees it -/
theorem turn_one {A : Around} {i : Nat} {H : Hp} {s : Shared} {E : Value → Shared → Prop} {Q : Option Value → Shared → Prop} (hh : A.handled = none) (S : ZipSep2 z TI TO i1 i2 fp1 fp2) (hT1 : TI ∉ fp1) (hT2 : TI ∉ fp2)
    (D1 : ∀ A, A.handled = none → Draws X.prog X.w A i1 fp1 n1 P1 St1) (D2 : ∀ A, A.handled = none → Draws X.prog X.w A i2 fp2 n2 P2 St2) (hp1 : ∀ i v, P1 i v → ∃ x, xs[i]? = some x ∧ L2.RelV x v) (hp2 : ∀ i v, P2 i v → ∃ x, ys[i]? = some x ∧ L2.RelV x v)
    (I : L2.Inv X pins σ H s) (st : ZSt z TI TO i1 i2 St1 St2 i s.heap) (hf : ∀ b ∈ [z, TI, TO, i1, i2], FpOk X pins H b) (h1 : i < n1) (h2 : i < n2)
    (hQ : ∀ x y h' tk, xs[i]? = some x → ys[i]? = some y → ZSt z TI TO i1 i2 St1 St2 (i + 1) h' → H s.heap.objs.size = none → L2.Inv X pins σ (upd H s.heap.objs.size (.tup [x, y])) { s with heap := h', toks := tk } →
      (∀ c o, c ∉ [z, TI, TO, i1, i2] → s.heap.get? c = some o → h'.get? c = some o) → h'.objs.size = s.heap.objs.size + 1 → Q (some (.ref s.heap.objs.size)) { s with heap := h', toks := tk }) : wpAny (model X.prog X.w) A (pyNext (.ref z)) Q E s := by
  refine next_zip S (D1 _ hh) (D2 _ hh) st hT1 hT2 h1 h2 fun x1 x2 h' tk q1 q2 st' hT hsz hk => ?_
  obtain ⟨x, ex, rx⟩ := hp1 _ _ q1
  obtain ⟨y, ey, ry⟩ := hp2 _ _ q2
  have hk' : ∀ c o, c ∉ [z, TI, TO, i1, i2] → s.heap.get? c = some o → h'.get? c = some o := fun c o hc e => hk c o (fun q => hc (by simp [q])) (fun q => hc (by simp [q])) (fun q => hc (by simp [q])) (fun q => hc (by simp [q])) e
  have new : ObjOk X.prog X.w (upd H s.heap.objs.size (.tup [x, y])) h' s.heap.objs.size (.tup [x, y]) := ⟨by show 2 ≤ sizeLine; decide, [x1, x2], .cons rx (.cons ry .nil), ⟨_, hT, rfl, _, rfl⟩⟩
  exact hQ x y h' tk ex ey st' (I.hok.fresh (Nat.le_refl _)) (I.turnedNew (ch := [z, TI, TO, i1, i2]) hk' hf (Nat.le_refl _) new) hk' hsz
theorem loop_zip {R : Result → Shared → Prop} {A : Around} (hh : A.handled = none) (S : ZipSep2 z TI TO i1 i2 fp1 fp2) (hT1 : TI ∉ fp1) (hT2 : TI ∉ fp2) (D1 : ∀ A, A.handled = none → Draws X.prog X.w A i1 fp1 n1 P1 St1) (D2 : ∀ A, A.handled = none → Draws X.prog X.w A i2 fp2 n2 P2 St2)
    (hp1 : ∀ i v, P1 i v → ∃ x, xs[i]? = some x ∧ L2.RelV x v) (hp2 : ∀ i v, P2 i v → ∃ x, ys[i]? = some x ∧ L2.RelV x v) (hD : D ∉ z :: TI :: TO :: (fp1 ++ fp2)) (hi1 : D ≠ i1) (hi2 : D ≠ i2) (hn : n1 ≤ sizeLine) (res : Value) {H0 : Hp} (h0D : H0 D = none) :
    ∀ (k i : Nat) (s : Shared) (H : Hp) (Ts : List Addr), min n1 n2 - i = k → i ≤ min n1 n2 → L2.Inv X pins σ H s → ZSt z TI TO i1 i2 St1 St2 i s.heap → (∀ b ∈ [z, TI, TO, i1, i2], FpOk X pins H b) → H D = some (.lst (Ts.map V.ref)) → Ts.length = i → Pairs H D xs ys Ts → (∀ b o, H0 b = some o → H b = some o) → (∀ T ∈ Ts, H0 T = none) →
    (∀ s' H' Ts', L2.Inv X pins σ H' s' → (∀ b o, H0 b = some o → H' b = some o) → H' D = some (.lst (Ts'.map V.ref)) → Ts'.length = min n1 n2 → Pairs H' D xs ys Ts' → (∀ T ∈ Ts', H0 T = none) → R (.ok (.ret res)) s') →
    codeAny (model X.prog X.w) A (.builtin "list.extend.loop" ⟨[.ref D, .ref z, res], []⟩) R s := by
  intro k
  induction k with
  | zero =>
    intro i s H Ts hk hi I st hf hH hl hp hx0 hT0 hR
    have e : i = min n1 n2 := by omega
    refine codeAny_builtin F.entry_extend_loop ?_
    rw [Around.under_plainId F.plain_extend_loop _]
    show wpAny _ A.in1 (pyNext (.ref z) >>= _) _ _ s
    refine wpAny_bind (next_zip_end S (D1 _ hh) (D2 _ hh) st (by omega) (by omega) (by omega) fun h' tk kk => ?_)
    exact wpAny_pure (hR { s with heap := h', toks := tk } H Ts (I.turnedL (ch := [z, TI, TO, i1, i2]) (fun c o hc q => kk c o (fun q' => hc (by simp [q'])) (fun q' => hc (by simp [q'])) (fun q' => hc (by simp [q'])) (fun q' => hc (by simp [q'])) q) hf) hx0 hH (by omega) hp hT0)
  | succ k ih =>
    intro i s H Ts hk hi I st hf hH hl hp hx0 hT0 hR
    refine codeAny_builtin F.entry_extend_loop ?_
    rw [Around.under_plainId F.plain_extend_loop _]
    show wpAny _ A.in1 (pyNext (.ref z) >>= _) _ _ s
    refine wpAny_bind (turn_one (A := A.in1) hh S hT1 hT2 D1 D2 hp1 hp2 I st hf (by omega) (by omega) fun x y h' tk ex ey st' hN I1 hk' hsz => ?_)
    show wpAny _ A.in1 (updateSeq D (·.push (.ref s.heap.objs.size)) >>= _) _ _ _
    have nD : D ≠ s.heap.objs.size := fun q => by rw [q, hN] at hH; cases hH
    have hH1 : upd H s.heap.objs.size (.tup [x, y]) D = some (.lst (Ts.map V.ref)) := by rw [upd_ne nD]; exact hH
    obtain ⟨zz, its, nn, r, hlen, e⟩ := I1.lstM hH1
    have hil : its.toArray.size = i := by rw [List.size_toArray, ← hlen, List.length_map, hl]
    refine wpAny_bind (wpAny_updateSeq e rfl (wpAny_pure ⟨plainId_quiet F.plain_extend_loop _, ?_⟩) (by rw [hil]; omega) (by show (its.toArray.push (Value.ref s.heap.objs.size)).size ≤ sizeLine + 1; rw [Array.size_push, hil]; omega))
    have I2 := I1.lset (its' := its ++ [.ref s.heap.objs.size]) (ys := Ts.map V.ref ++ [.ref s.heap.objs.size]) (t' := tk) (f := (·.push (.ref s.heap.objs.size))) hH1 e (by simp) (r.append (.cons (show L2.RelV (.ref s.heap.objs.size) (.ref s.heap.objs.size) from rfl) .nil)) (by rw [List.length_append, List.length_map, List.length_singleton, hl]; omega)
    have eT : Ts.map V.ref ++ [.ref s.heap.objs.size] = (Ts ++ [s.heap.objs.size]).map V.ref := by simp
    rw [eT] at I2
    have at_ : ∀ b, b ≠ D → b ≠ s.heap.objs.size → upd (upd H s.heap.objs.size (.tup [x, y])) D (.lst ((Ts ++ [s.heap.objs.size]).map V.ref)) b = H b := fun b h1 h2 => by rw [upd_ne h1, upd_ne h2]
    refine ih (i + 1) _ _ (Ts ++ [s.heap.objs.size]) (by omega) (by omega) I2 (st'.frame (D1 A hh) (D2 A hh) fun b hb o eb => (Heap.get?_update_other _ _ (fun q : D = b => hD (by rw [q]; exact hb))).trans eb) (fun b hb => ?_) upd_same (by simp [hl]) (fun (j : Nat) (T : Addr) ej => ?_) (fun b o eb => ?_) (fun T hT => ?_) hR
    · obtain ⟨q1, q2⟩ := hf b hb
      refine ⟨?_, q2⟩
      rw [at_ b (fun q => ?_) (fun q => ?_)]
      · exact q1
      · rw [q, hH] at q1
        cases q1
      · have : b < s.heap.objs.size := by
          obtain ⟨⟨vx, vf, hz, _⟩, hTI, ⟨a1, a2, hTO⟩, st1, st2⟩ := st
          have e' : b = z ∨ b = TI ∨ b = TO ∨ b = i1 ∨ b = i2 := by simpa using hb
          rcases e' with q | q | q | q | q
          · rw [q]; exact Heap.lt_size hz
          · rw [q]; exact Heap.lt_size hTI
          · rw [q]; exact Heap.lt_size hTO
          · rw [q]; obtain ⟨_, e1⟩ := (D1 A hh).live _ _ st1; exact Heap.lt_size e1
          · rw [q]; obtain ⟨_, e1⟩ := (D2 A hh).live _ _ st2; exact Heap.lt_size e1
        rw [q] at this
        exact absurd this (Nat.lt_irrefl _)
    · by_cases hj : j < Ts.length
      · rw [List.getElem?_append_left hj] at ej
        obtain ⟨n0, x0, y0, e1, e2, e3⟩ := hp j T ej
        refine ⟨n0, x0, y0, e1, e2, ?_⟩
        rw [at_ T n0 (fun q => by rw [q, hN] at e3; cases e3)]
        exact e3
      · rw [List.getElem?_append_right (by omega)] at ej
        have ej0 : j - Ts.length = 0 := by
          rcases Nat.eq_zero_or_pos (j - Ts.length) with q | q
          · exact q
          · rw [List.getElem?_eq_none (by simp; omega)] at ej
            cases ej
        rw [ej0] at ej
        obtain rfl := Option.some.inj ej
        have : j = i := by omega
        subst this
        refine ⟨fun q => nD q.symm, x, y, ex, ey, ?_⟩
        rw [upd_ne (fun q => nD q.symm), upd_same]
    · have hb : b ≠ D := fun q => by rw [q, h0D] at eb; cases eb
      have hz := hx0 b o eb
      rw [at_ b hb fun q => by rw [q, hN] at hz; cases hz]
      exact hz
    · rcases List.mem_append.mp hT with hT | hT
      · exact hT0 T hT
      · rw [List.mem_singleton.mp hT]
        cases q : H0 s.heap.objs.size with
        | none => rfl
        | some u => rw [hx0 _ u q] at hN; cases hN
end
end Zx

/-! Zx3: what may be walked (lists, tuples, texts); list(zip(a, b)) as a rule. -/
namespace Zx
open PySem L2 PyProof.Rows
def signV (z : Str) : List V := z.cps.toList.map fun c => .str ⟨#[c]⟩
/-- what v gives one by one -/
def Src (K : PySem.W.Frag) (H : Hp) (v : V) (xs : List V) : Prop := (∃ a, v = .ref a ∧ SqL K H a xs) ∨ (∃ a, v = .ref a ∧ SqT K H a xs) ∨ ∃ z : Str, v = .str z ∧ xs = signV z
/-- .. as the library draws it -/
structure Drawn (prog : Program) (w : World) (s : Shared) (u : Value) (xs : List V) (o : Obj) (Hb : Heap → Prop) (fp : List Addr) (P : Nat → Value → Prop) (St : Addr → Nat → Heap → Prop) : Prop where
  beg : Begins u o Hb
  now : Hb s.heap
  low : ∀ b ∈ fp, b < s.heap.objs.size
  start : ∀ it h, h.get? it = some o → Hb h → St it 0 h
  draws : ∀ (A : Around) (it : Addr), it ∉ fp → A.handled = none → Draws prog w A it (it :: fp) xs.length P (St it)
  rel : ∀ i v, P i v → ∃ x, xs[i]? = some x ∧ L2.RelV x v
  len : xs.length ≤ sizeLine
section
variable {X : Cx} {pins : List (Addr × Obj)} {σ : L2.St} {H : Hp} {s : Shared}
theorem src_drawn {v : V} {u : Value} {xs : List V} (I : L2.Inv X pins σ H s) (h : Src X.K H v xs) (hz : ∀ z, v = .str z → z.cps.size ≤ sizeLine) (r : L2.RelV v u) : ∃ o Hb fp P St, Drawn X.prog X.w s u xs o Hb fp P St := by
  rcases h with ⟨a, rfl, h⟩ | ⟨a, rfl, h⟩ | ⟨z, rfl, rfl⟩
  · cases r
    obtain ⟨its, rv, p, hz⟩ := I.list h
    have hlen := rv.length
    refine ⟨_, _, [a], fun i v => its.toArray[i]? = some v, fun it i h => h.IsListIter it a i ∧ h.IsList a its.toArray, begins_list a its.toArray, p.isList, fun b hb => ?_, fun it h e q => ⟨⟨_, e, rfl, rfl⟩, q⟩, fun A it hn hh => ?_, fun i v e => ?_, hz⟩
    · rw [List.mem_singleton.mp hb]; exact p.lt
    · rw [hlen, ← List.size_toArray]
      exact Draws.list hh it a (fun q => hn (by rw [q]; simp)) its.toArray
    · rw [List.getElem?_toArray] at e
      cases q : xs[i]? with
      | none =>
        rw [List.getElem?_eq_none_iff] at q
        rw [List.getElem?_eq_none (by omega)] at e
        cases e
      | some x =>
        obtain ⟨u, eu, ru⟩ := rv.get q
        rw [eu] at e
        cases e
        exact ⟨x, rfl, ru⟩
  · cases r
    obtain ⟨its, rv, p, hz⟩ := I.tuple h
    have hlen := rv.length
    refine ⟨_, _, [a], fun i v => its.toArray[i]? = some v, fun it i h => h.IsTupleIter it a i ∧ h.IsTuple a its.toArray, begins_tuple a its.toArray, p, fun b hb => ?_, fun it h e q => ⟨⟨_, e, rfl, rfl⟩, q⟩, fun A it hn hh => ?_, fun i v e => ?_, hz⟩
    · rw [List.mem_singleton.mp hb]
      obtain ⟨_, e, _⟩ := p
      exact Heap.lt_size e
    · rw [hlen, ← List.size_toArray]
      exact Draws.tuple hh it a (fun q => hn (by rw [q]; simp)) its.toArray
    · rw [List.getElem?_toArray] at e
      cases q : xs[i]? with
      | none =>
        rw [List.getElem?_eq_none_iff] at q
        rw [List.getElem?_eq_none (by omega)] at e
        cases e
      | some x =>
        obtain ⟨u, eu, ru⟩ := rv.get q
        rw [eu] at e
        cases e
        exact ⟨x, rfl, ru⟩
  · obtain ⟨t, rfl⟩ := r
    refine ⟨_, _, [], fun i v => ∃ c u, z.cps[i]? = some c ∧ v = .str ⟨#[c]⟩ u, fun it i h => h.IsStrIter it (strIterType z) z t i, begins_text z t, trivial, by simp, fun it h e _ => ⟨_, e, rfl, rfl⟩, fun A it hn hh => ?_, fun i v ⟨c, u, e, e2⟩ => ?_, ?_⟩
    · have e : (signV z).length = z.cps.size := by simp [signV]
      rw [e]
      exact Draws.text hh it z t
    · subst e2
      refine ⟨.str ⟨#[c]⟩, ?_, u, rfl⟩
      have e' : z.cps.toList[i]? = some c := by simpa using e
      simp [signV, e']
    · simpa [signV] using hz z rfl
theorem iter_zip {prog : Program} {w : World} {A : Around} {E : Value → Shared → Prop} {s : Shared} {z TI TO : Addr} {x : Value} {f : Bool} {Q : Value → Shared → Prop} (hz : ZF s.heap z TI TO x f) (h : Q (.ref z) s) : wpAny (model prog w) A (pyIter (.ref z)) Q E s := by
  have hT : s.TypeIs (.ref z) "zip" := ⟨_, hz, rfl⟩
  refine wpAny_pyIter_slot hT F.slot_zip_iter (wpAny_call_entry F.slot_zip_iter hT F.entry_zip_iter ?_ (F.args_zip_iter_1 _))
  show wpAny _ _ (ret (.ref z)) _ _ s
  exact wpAny_pure ⟨_, rfl, "zip", _, hT, F.slot_zip_next.lookup, h⟩
/-- the call -/
theorem call_listZip {A : Around} {z TI TO i1 i2 : Addr} {fp1 fp2 : List Addr} {n1 n2 : Nat} {P1 P2 : Nat → Value → Prop} {St1 St2 : Nat → Heap → Prop} {xs ys : List V} {Q : Value → Shared → Prop} {E : Value → Shared → Prop} (hh : A.handled = none)
    (S : ZipSep2 z TI TO i1 i2 fp1 fp2) (hT1 : TI ∉ fp1) (hT2 : TI ∉ fp2) (D1 : ∀ A, A.handled = none → Draws X.prog X.w A i1 fp1 n1 P1 St1) (D2 : ∀ A, A.handled = none → Draws X.prog X.w A i2 fp2 n2 P2 St2)
    (hp1 : ∀ i v, P1 i v → ∃ x, xs[i]? = some x ∧ L2.RelV x v) (hp2 : ∀ i v, P2 i v → ∃ x, ys[i]? = some x ∧ L2.RelV x v) (hlow : ∀ b ∈ z :: TI :: TO :: (fp1 ++ fp2), b < s.heap.objs.size) (hn : n1 ≤ sizeLine)
    (I : L2.Inv X pins σ H s) (st : ZSt z TI TO i1 i2 St1 St2 0 s.heap) (hf : ∀ b ∈ [z, TI, TO, i1, i2], FpOk X pins H b)
    (hQ : ∀ s' D H' Ts, L2.Inv X pins σ H' s' → (∀ b o, H b = some o → H' b = some o) → H D = none → H' D = some (.lst (Ts.map V.ref)) → Ts.length = min n1 n2 → Pairs H' D xs ys Ts → (∀ T ∈ Ts, H T = none) → Q (.ref D) s') :
    wpAny (model X.prog X.w) A (call (.type "list") [.ref z]) Q E s := by
  refine callType_codes (Q₁ := fun obj s₁ => obj = .ref s.heap.objs.size ∧ s₁ = { s with heap := s.heap.push { cls := .type "list", data := .seq #[] } }) F.called_list (F.typeCall_list_1 _) F.entry_list_init
    (code_list_new _ ⟨rfl, rfl⟩) fun obj s₁ h₁ => ?_
  obtain ⟨rfl, rfl⟩ := h₁
  have nD : H s.heap.objs.size = none := I.hok.fresh (Nat.le_refl _)
  have hS : (s.heap.push { cls := .type "list", data := .seq #[] }).get? s.heap.objs.size = some { cls := .type "list", data := .seq #[] } := Heap.get?_push_size _ rfl
  have I1 : L2.Inv X pins σ (upd H s.heap.objs.size (.lst [])) { s with heap := s.heap.push { cls := .type "list", data := .seq #[] } } := I.lnew (t' := s.toks) (its := []) .nil (Nat.zero_le _)
  have hDl : s.heap.objs.size ∉ z :: TI :: TO :: (fp1 ++ fp2) := fun q => Nat.lt_irrefl _ (hlow _ q)
  have st1 : ZSt z TI TO i1 i2 St1 St2 0 (s.heap.push { cls := .type "list", data := .seq #[] }) := st.frame (D1 A hh) (D2 A hh) fun b hb o e => Heap.get?_push_of_some _ e
  have hf1 : ∀ b ∈ [z, TI, TO, i1, i2], FpOk X pins (upd H s.heap.objs.size (.lst [])) b := fun b hb => by
    obtain ⟨q1, q2⟩ := hf b hb
    have hbl : b < s.heap.objs.size := by
      have e' : b = z ∨ b = TI ∨ b = TO ∨ b = i1 ∨ b = i2 := by simpa using hb
      rcases e' with q | q | q | q | q
      · rw [q]; exact hlow _ (by simp)
      · rw [q]; exact hlow _ (by simp)
      · rw [q]; exact hlow _ (by simp)
      · rw [q]; exact hlow _ (by simp [S.mem1])
      · rw [q]; exact hlow _ (by simp [S.mem2])
    exact ⟨by rw [upd_ne (Nat.ne_of_lt hbl)]; exact q1, q2⟩
  refine ⟨⟨_, hS, rfl⟩, F.args_list_init_2 _ _, ?_⟩
  show wpAny _ A.in1.in1 (do let old ← Builtin.List.listItems (.ref s.heap.objs.size); Builtin.List.listUpdate (.ref s.heap.objs.size) (fun _ => #[]); letGo old.toList.reverse; Builtin.List.listExtendWith (.ref s.heap.objs.size) (.ref z) .none) _ _ _
  refine wpAny_bind ?_
  unfold Builtin.List.listItems
  refine wpAny_bind (wpAny_seqItems hS rfl (wpAny_pure ?_))
  show wpAny _ A.in1.in1 (updateSeq s.heap.objs.size (fun _ => #[]) >>= fun _ => letGo (#[] : Array Value).toList.reverse >>= fun _ => Builtin.List.listExtendWith (.ref s.heap.objs.size) (.ref z) .none) _ _ _
  refine wpAny_bind (wpAny_updateSeq hS rfl ?_)
  have I2 := I1.lset (its := []) (its' := []) (ys := []) (t' := s.toks) (f := fun _ => #[]) upd_same hS rfl .nil (Nat.zero_le _)
  rw [upd_upd] at I2
  have hS2 := Heap.get?_update_self (Obj.mapSeq (fun _ => (#[] : Array Value))) hS rfl
  have fr : ∀ {h : Heap} {f : Array Value → Array Value}, ZSt z TI TO i1 i2 St1 St2 0 h → ZSt z TI TO i1 i2 St1 St2 0 (h.update s.heap.objs.size (Obj.mapSeq f)) := fun q => q.frame (D1 A hh) (D2 A hh) fun b hb o e => (Heap.get?_update_other _ _ (fun q : s.heap.objs.size = b => hDl (by rw [q]; exact hb))).trans e
  have st2 := fr (f := fun _ => #[]) st1
  refine wpAny_bind (wpAny_letGo ?_)
  obtain ⟨vx, vf, hz2, _⟩ := st2.1
  have hTz : Shared.TypeIs { s with heap := (s.heap.push { cls := .type "list", data := .seq #[] }).update s.heap.objs.size (Obj.mapSeq fun _ => #[]) } (.ref z) "zip" := ⟨_, hz2, rfl⟩
  have hzD : s.heap.objs.size ≠ z := fun q => hDl (by rw [q]; simp)
  unfold Builtin.List.listExtendWith
  refine wpAny_bind (wpAny_typeOf hTz ?_)
  have h1 : Builtin.List.listSameRef (.ref s.heap.objs.size) (.ref z) = false := by simp [Builtin.List.listSameRef, hzD]
  have h2 : (Value.type "zip" == Value.type "list") = false := by decide
  have h3 : (Value.type "zip" == Value.type "tuple") = false := by decide
  simp only [h1, h2, h3, Bool.or_false, Bool.false_eq_true, if_false]
  refine wpAny_bind (iter_zip hz2 ?_)
  refine wpAny_bind (wpAny_holding ?_)
  unfold Builtin.List.listLengthHint
  refine wpAny_bind (wpAny_specialOf hTz zip_no_len ?_)
  show wpAny _ A.in1.in1 (specialOf (Value.ref z) (Str.ofString "__length_hint__") >>= _) _ _ _
  refine wpAny_bind (wpAny_specialOf hTz zip_no_hint ?_)
  refine wpAny_pure ?_
  show wpAny _ A.in1.in1 (rule "list.extend.makes-room" >>= fun _ => Builtin.List.listTouch (.ref s.heap.objs.size) >>= fun _ =>
    again (.builtin "list.extend.loop" ⟨[.ref s.heap.objs.size, .ref z, .none], []⟩)) _ _ _
  refine wpAny_bind (wpAny_rule ?_)
  refine wpAny_bind ?_
  show wpAny _ A.in1.in1 (updateSeq s.heap.objs.size (·.push .none) >>= fun _ => updateSeq s.heap.objs.size (·.pop)) _ _ _
  obtain ⟨_, its2, nn2, r2, hl2, e2⟩ := I2.lstM upd_same
  cases r2
  refine wpAny_bind (wpAny_updateSeq e2 rfl ?_)
  have I3 := I2.lset (its' := [.none]) (ys := [.non]) (t' := s.toks) (f := (·.push .none)) upd_same e2 rfl (.cons (show L2.RelV .non .none from rfl) .nil) (by decide)
  rw [upd_upd] at I3
  have e3 := Heap.get?_update_self (Obj.mapSeq (·.push Value.none)) e2 rfl
  refine wpAny_updateSeq e3 rfl ?_
  have I4 := I3.lset (its := [.none]) (its' := []) (ys := []) (t' := s.toks) (f := (·.pop)) upd_same e3 rfl .nil (Nat.zero_le _)
  rw [upd_upd] at I4
  have st4 := fr (f := (·.pop)) (fr (f := (·.push Value.none)) st2)
  refine wpAny_pure ⟨plainId_quiet F.plain_extend_loop _, loop_zip (A := A.in1) hh S hT1 hT2 D1 D2 hp1 hp2 hDl (fun q => hDl (by rw [q]; simp [S.mem1])) (fun q => hDl (by rw [q]; simp [S.mem2])) hn .none nD _ 0 _ _ [] rfl (Nat.zero_le _) I4 st4 hf1 upd_same rfl (fun j T e => by simp at e) (fun b o e => ?_) (by simp) fun s' H' Ts' J ext hD hl hp hT => ?_⟩
  · rw [upd_ne (fun q => by rw [q, nD] at e; cases e)]
    exact e
  · exact ⟨rfl, hQ s' s.heap.objs.size H' Ts' J ext nD hD hl hp hT⟩
end
/-! ### zip(a, b) as an argument -/
/-- an expression that makes a zip of two things -/
def PZp (X : Cx) (e : Expr) (t : L2.St → Hp → (List V → List V → Hp → Prop) → Prop) : Prop :=
  ∀ (pins : List (Addr × Obj)) (s : Shared) (σ : L2.St) (H : Hp) (Q : List V → List V → Hp → Prop), L2.Inv X pins σ H s → t σ H Q →
    wpAny (model X.prog X.w) X.A (eval e X.env) (fun u s' => ∃ (z TI TO i1 i2 : Addr) (fp1 fp2 : List Addr) (n1 n2 : Nat) (P1 P2 : Nat → Value → Prop) (St1 St2 : Nat → Heap → Prop) (xs ys : List V) (H' : Hp), u = .ref z ∧ L2.Inv X pins σ H' s' ∧ ZipSep2 z TI TO i1 i2 fp1 fp2 ∧ TI ∉ fp1 ∧ TI ∉ fp2 ∧
      (∀ A, A.handled = none → Draws X.prog X.w A i1 fp1 n1 P1 St1) ∧ (∀ A, A.handled = none → Draws X.prog X.w A i2 fp2 n2 P2 St2) ∧ (∀ i v, P1 i v → ∃ x, xs[i]? = some x ∧ L2.RelV x v) ∧ (∀ i v, P2 i v → ∃ x, ys[i]? = some x ∧ L2.RelV x v) ∧
      (∀ b ∈ z :: TI :: TO :: (fp1 ++ fp2), b < s'.heap.objs.size) ∧ n1 = xs.length ∧ n2 = ys.length ∧ n1 ≤ sizeLine ∧ ZSt z TI TO i1 i2 St1 St2 0 s'.heap ∧ (∀ b ∈ [z, TI, TO, i1, i2], FpOk X pins H' b) ∧ Q xs ys H') X.xe s
def tZp (K : PySem.W.Frag) (ta : TA) : L2.St → Hp → (List V → List V → Hp → Prop) → Prop := fun σ H Q => ta σ H fun vs H1 => ∃ v u xs ys, vs = [v, u] ∧ Src K H1 v xs ∧ Src K H1 u ys ∧ (∀ z, v = .str z → z.cps.size ≤ sizeLine) ∧ (∀ z, u = .str z → z.cps.size ≤ sizeLine) ∧ Q xs ys H1
section
variable {X : Cx} {e e2 : Expr} {ta : TA} {p pos : Pos}
theorem pzp (hg : Gl X "zip") (hm : X.mg "zip" = none) (ha : PA X [e, e2] ta) (hs : starEach [e, e2] X.env = (false, eval e X.env) :: starEach [e2] X.env := by rfl) (hpl : (backTo pos (starEach [e2] X.env)).any (·.1) = false := by rfl) :
    PZp X (.Call (.Name "zip" p) [e, e2] [] pos) (tZp X.K ta) := by
  intro pins s σ H Q I h
  refine Call_ (ld_blt I hg hm PyProof.Rows.boot_zip (PyProof.Rows.callWith_type1 (thn (ha.run pos pins s σ H _ I h) fun us s1 ⟨vs, H1, I1, r1, q1⟩ => ?_) hs hpl))
  obtain ⟨v, u, xs, ys, rfl, h1, h2, z1, z2, q⟩ := q1
  cases r1 with
  | @cons _ u1 _ _ ra rb =>
    cases rb with
    | @cons _ u2 _ _ rb rc =>
      cases rc
      obtain ⟨o1, Hb1, f1, P1, St1, d1⟩ := src_drawn I1 h1 z1 ra
      obtain ⟨o2, Hb2, f2, P2, St2, d2⟩ := src_drawn I1 h2 z2 rb
      refine zip_begins2 d1.beg d2.beg d1.now d2.now fun h' hz hTI hTO e1 e2 hsz hk => ?_
      have I2 : L2.Inv X pins σ H1 { s1 with heap := h' } := I1.kept (t' := s1.toks) hk
      have lt1 : ∀ b ∈ f1, b < s1.heap.objs.size := d1.low
      have lt2 : ∀ b ∈ f2, b < s1.heap.objs.size := d2.low
      have n1 : ∀ k : Nat, s1.heap.objs.size + k ∉ f1 := fun k q => absurd (lt1 _ q) (by show ¬ (s1.heap.objs.size + k : Nat) < s1.heap.objs.size; omega)
      have n2 : ∀ k : Nat, s1.heap.objs.size + k ∉ f2 := fun k q => absurd (lt2 _ q) (by show ¬ (s1.heap.objs.size + k : Nat) < s1.heap.objs.size; omega)
      have hle : ∀ c, c ∈ [s1.heap.objs.size + 4, s1.heap.objs.size + 2, s1.heap.objs.size + 3, s1.heap.objs.size, s1.heap.objs.size + 1] → s1.heap.objs.size ≤ c := fun c hc => by
        have e' : c = s1.heap.objs.size + 4 ∨ c = s1.heap.objs.size + 2 ∨ c = s1.heap.objs.size + 3 ∨ c = s1.heap.objs.size ∨ c = s1.heap.objs.size + 1 := by simpa using hc
        rcases e' with z | z | z | z | z
        · rw [z]; exact Nat.le_add_right _ _
        · rw [z]; exact Nat.le_add_right _ _
        · rw [z]; exact Nat.le_add_right _ _
        · rw [z]; exact Nat.le_refl _
        · rw [z]; exact Nat.le_add_right _ _
      refine ⟨s1.heap.objs.size + 4, s1.heap.objs.size + 2, s1.heap.objs.size + 3, s1.heap.objs.size, s1.heap.objs.size + 1, s1.heap.objs.size :: f1, (s1.heap.objs.size + 1) :: f2, xs.length, ys.length, P1, P2, St1 s1.heap.objs.size, St2 (s1.heap.objs.size + 1), xs, ys, H1, rfl, I2, zip_sep2 lt1 lt2, ?_, ?_, fun A hh => d1.draws A _ (n1 0) hh, fun A hh => d2.draws A _ (n2 1) hh, d1.rel, d2.rel, fun b hb => ?_, rfl, rfl, d1.len,
        ZSt.new hz hTI ⟨_, _, hTO⟩ (d1.start _ _ e1 (d1.beg.keeps _ _ d1.now hk)) (d2.start _ _ e2 (d2.beg.keeps _ _ d2.now hk)), fun c hc => I1.fpOk (hle c hc) (I1.hok.fresh (hle c hc)), q⟩
      · exact notIn_new (j := 2) (i := 0) lt1 (by omega)
      · exact notIn_new (j := 2) (i := 1) lt2 (by omega)
      · show (b : Nat) < h'.objs.size
        rw [hsz]
        simp only [List.mem_cons, List.mem_append] at hb
        rcases hb with q | q | q | (q | q) | q | q
        · rw [q]; exact Nat.lt_succ_self _
        · rw [q]; show (s1.heap.objs.size + 2 : Nat) < s1.heap.objs.size + 5; omega
        · rw [q]; show (s1.heap.objs.size + 3 : Nat) < s1.heap.objs.size + 5; omega
        · rw [q]; show (s1.heap.objs.size : Nat) < s1.heap.objs.size + 5; omega
        · have := lt1 b q
          exact Nat.lt_of_lt_of_le this (Nat.le_add_right _ _)
        · rw [q]; show (s1.heap.objs.size + 1 : Nat) < s1.heap.objs.size + 5; omega
        · have := lt2 b q
          exact Nat.lt_of_lt_of_le this (Nat.le_add_right _ _)
variable {te : L2.St → Hp → (List V → List V → Hp → Prop) → Prop}
def tLstZp (te : L2.St → Hp → (List V → List V → Hp → Prop) → Prop) : TE := fun σ H Q => te σ H fun xs ys H1 => ∀ D H' Ts, (∀ b o, H1 b = some o → H' b = some o) → H1 D = none → H' D = some (.lst (Ts.map V.ref)) → Ts.length = min xs.length ys.length → Pairs H' D xs ys Ts → (∀ T ∈ Ts, H1 T = none) → Q (.ref D) H'
/-- list(zip(a, b)) -/
theorem pe_listZp (hc : X.calm = true) (hg : Gl X "list") (hm : X.mg "list" = none) (he : PZp X e te) (na : starEach [e] X.env = (false, eval e X.env) :: starEach [] X.env := by rfl) : PE X (.Call (.Name "list" p) [e] [] pos) (tLstZp te) := by
  refine ⟨fun pins s σ H Q I h => ?_⟩
  refine Call_ (ld_blt I hg hm boot_list (PyProof.Rows.callWith_type1 (args_cons (thn (he pins s σ H _ I h) fun x s1 hx => args_nil ?_) na) na))
  obtain ⟨z, TI, TO, i1, i2, fp1, fp2, n1, n2, P1, P2, St1, St2, xs, ys, H1, rfl, I1, S, hT1, hT2, D1, D2, hp1, hp2, hlow, rfl, rfl, hn, st, hf, q⟩ := hx
  exact call_listZip (I1.ok.hd hc) S hT1 hT2 D1 D2 hp1 hp2 hlow hn I1 st hf fun s' D H' Ts J ext nD hD hl hp hT => ⟨.ref D, H', J, rfl, q D H' Ts ext nD hD hl hp hT⟩
end
end Zx

/-! Zx4: for k, pair in enumerate(zip(text, text)). -/
namespace Zx
open PySem L2 PyProof.Rows
theorem meets_enumerate_newZ (z TI TO : Addr) (x : Value) (f : Bool) :
    Meets (Builtin.«enumerate.__new__» ⟨[.type "enumerate", .ref z], []⟩) (fun _ R s => ZF s.heap z TI TO x f ∧
      R (.ok (.ret (.ref s.heap.objs.size))) { s with heap := s.heap.push { cls := .type "enumerate", data := .fields #[.none, .bool false, .ref z, rawInt 0, .none, .none] } }) :=
  .of_wp fun prog w A R s h => by
    obtain ⟨hp, g, d, tk, os⟩ := s
    obtain ⟨hl, h⟩ := h
    have hsub := sub_enumerate
    have q1 : ∀ {A' : Around} {E : Value → Shared → Prop} {Q : Value → Shared → Prop}, Q (.ref z) ⟨hp, g, d, tk, os⟩ → wpAny (model prog w) A' (pyIter (.ref z)) Q E ⟨hp, g, d, tk, os⟩ := fun q => iter_zip (s := ⟨hp, g, d, tk, os⟩) hl q
    wp_walk using AutoSeq1.wpAny_loadPart' hl
    refine wpAny_stack_any fun st => wpAny_pure ?_
    split
    · rename_i c _ _ _ _ _
      cases (c == Value.type "enumerate")
      · wp_walk using AutoSeq1.wpAny_loadPart' hl, q1
        exact ⟨_, rfl, h⟩
      · wp_walk using AutoSeq1.wpAny_loadPart' hl, q1
        exact ⟨_, rfl, h⟩
    · wp_walk using AutoSeq1.wpAny_loadPart' hl, q1
      exact ⟨_, rfl, h⟩
section
variable {prog : Program} {w : World} {A : Around} {E : Value → Shared → Prop} {s : Shared} {z TI TO i1 i2 e : Addr} {fp1 fp2 : List Addr} {n1 n2 i : Nat} {P1 P2 : Nat → Value → Prop} {St1 St2 : Nat → Heap → Prop}
theorem call_enumerate_zip {x : Value} {f : Bool} {Q : Value → Shared → Prop} (hz : ZF s.heap z TI TO x f) (h : ∀ h', IsEnum h' s.heap.objs.size z 0 .none → h'.objs.size = s.heap.objs.size + 1 → (∀ b o, s.heap.get? b = some o → h'.get? b = some o) → Q (.ref s.heap.objs.size) { s with heap := h' }) :
    wpAny (model prog w) A (call (.type "enumerate") [.ref z]) Q E s := by
  refine callType_new F.called_enumerate (by decide) (F.typeCall_enumerate_1 _) (F.newCall_enumerate_1 _) (fun obj => F.args_object_init_2 obj _) F.entry_enumerate_new (meets_enumerate_newZ z TI TO x f) ⟨hz, ?_⟩
  exact ⟨⟨_, Heap.get?_push_size _ rfl, rfl⟩, h _ (Heap.get?_push_size _ rfl) (Heap.size_push ..) fun b o q => Heap.get?_push_of_some _ q⟩
theorem nextOf_zip {Q : Value → Shared → Prop} (S : ZipSep2 z TI TO i1 i2 fp1 fp2) (hT1 : TI ∉ fp1) (hT2 : TI ∉ fp2) (D1 : ∀ A, A.handled = none → Draws prog w A i1 fp1 n1 P1 St1) (D2 : ∀ A, A.handled = none → Draws prog w A i2 fp2 n2 P2 St2) (hh : A.handled = none) (st : ZSt z TI TO i1 i2 St1 St2 i s.heap) (h1 : i < n1) (h2 : i < n2)
    (hQ : ∀ x1 x2 h' tk, P1 i x1 → P2 i x2 → ZSt z TI TO i1 i2 St1 St2 (i + 1) h' → IsTupOf2 h' s.heap.objs.size x1 x2 → h'.objs.size = s.heap.objs.size + 1 →
      (∀ c o, c ≠ z → c ≠ TO → c ≠ i1 → c ≠ i2 → s.heap.get? c = some o → h'.get? c = some o) → Q (.ref s.heap.objs.size) { s with heap := h', toks := tk }) :
    wpAny (model prog w) A (Builtin.SmallTypes.nextOf (.ref z)) Q E s := by
  obtain ⟨x, f, hz, _⟩ := st.1
  have hT : s.TypeIs (.ref z) "zip" := ⟨_, hz, rfl⟩
  unfold Builtin.SmallTypes.nextOf
  exact wpAny_bind (wpAny_callSpecial?_slot (name := Str.ofString "__next__") hT F.slot_zip_next
    (wpAny_call_entry F.slot_zip_next hT F.entry_zip_next
      (zip_item S (D1 _ hh) (D2 _ hh) st hT1 hT2 h1 h2 fun x1 x2 h' tk y1 y2 b1 b2 b3 b4 => wpAny_pure (hQ x1 x2 h' tk y1 y2 b1 b2 b3 b4)) (F.args_zip_next_1 _)))
theorem nextOf_zip_end {Q : Value → Shared → Prop} (S : ZipSep2 z TI TO i1 i2 fp1 fp2) (D1 : ∀ A, A.handled = none → Draws prog w A i1 fp1 n1 P1 St1) (D2 : ∀ A, A.handled = none → Draws prog w A i2 fp2 n2 P2 St2) (hh : A.handled = none) (st : ZSt z TI TO i1 i2 St1 St2 i s.heap) (h1 : i ≤ n1) (h2 : i ≤ n2) (hend : i = n1 ∨ i = n2)
    (hE : ∀ h' tk e, (∀ c o, c ≠ z → c ≠ TO → c ≠ i1 → c ≠ i2 → s.heap.get? c = some o → h'.get? c = some o) → (∃ o, h'.get? e = some o ∧ o.cls = .type "StopIteration") → E (.ref e) { s with heap := h', toks := tk }) :
    wpAny (model prog w) A (Builtin.SmallTypes.nextOf (.ref z)) Q E s := by
  obtain ⟨x, f, hz, _⟩ := st.1
  have hT : s.TypeIs (.ref z) "zip" := ⟨_, hz, rfl⟩
  unfold Builtin.SmallTypes.nextOf
  exact wpAny_bind (wpAny_callSpecial?_slot (name := Str.ofString "__next__") hT F.slot_zip_next
    (wpAny_call_entry F.slot_zip_next hT F.entry_zip_next (zip_end S (D1 _ hh) (D2 _ hh) st h1 h2 hend hE) (F.args_zip_next_1 _)))
/-- one turn: the zip's pair first (heap h₁), then the pair of its number and it -/
theorem enum_zip_item {c : Int} {old : Value} {Q : Value → Shared → Prop} (S : ZipSep2 z TI TO i1 i2 fp1 fp2) (hT1 : TI ∉ fp1) (hT2 : TI ∉ fp2) (D1 : ∀ A, A.handled = none → Draws prog w A i1 fp1 n1 P1 St1) (D2 : ∀ A, A.handled = none → Draws prog w A i2 fp2 n2 P2 St2) (hh : A.handled = none)
    (he : IsEnum s.heap e z c old) (st : ZSt z TI TO i1 i2 St1 St2 i s.heap) (h1 : i < n1) (h2 : i < n2) (hef : e ∉ z :: TI :: TO :: (fp1 ++ fp2))
    (hQ : ∀ x1 x2 h₁ h' tk, P1 i x1 → P2 i x2 → IsTupOf2 h₁ s.heap.objs.size x1 x2 → h₁.objs.size = s.heap.objs.size + 1 → (∀ b o, b ∉ [z, TI, TO, i1, i2] → s.heap.get? b = some o → h₁.get? b = some o) → ZSt z TI TO i1 i2 St1 St2 (i + 1) h₁ →
      IsEnumOut h' e z (c + 1) (.ref s.heap.objs.size) (s.heap.objs.size + 1) → h'.get? (s.heap.objs.size + 1) = some { cls := .type "tuple", data := .seq #[.int c tk, .ref s.heap.objs.size] } → (∀ b o, b ≠ e → h₁.get? b = some o → h'.get? b = some o) → Q (.ref (s.heap.objs.size + 1)) { s with heap := h', toks := tk + 1 }) :
    wpAny (model prog w) A (Builtin.«enumerate.__next__» ⟨[.ref e], []⟩) (fun fin s' => ∃ v, fin = .done (.ret v) ∧ Q v s') E s := by
  obtain ⟨hp, g, d, tk₀, os⟩ := s
  have ne : ∀ b, b ∈ z :: TI :: TO :: (fp1 ++ fp2) → e ≠ b := fun b hb q => hef (by rw [q]; exact hb)
  have nez : e ≠ z := ne z (by simp)
  have neO : e ≠ TO := ne TO (by simp)
  have ne1 : e ≠ i1 := ne i1 (by simp [S.mem1])
  have ne2 : e ≠ i2 := ne i2 (by simp [S.mem2])
  show wpAny _ _ (field (.ref e) 2 >>= _) _ _ _
  refine wpAny_bind (wpAny_field he rfl (x := .ref z) rfl ?_)
  refine wpAny_bind (nextOf_zip S hT1 hT2 D1 D2 hh st h1 h2 fun x1 x2 h₁ tk p1 p2 st₁ hT hsz₁ hk₁ => ?_)
  replace hsz₁ : h₁.objs.size = hp.objs.size + 1 := hsz₁
  replace hk₁ : ∀ c o, c ≠ z → c ≠ TO → c ≠ i1 → c ≠ i2 → hp.get? c = some o → h₁.get? c = some o := hk₁
  have he₁ : IsEnum h₁ e z c old := hk₁ _ _ nez neO ne1 ne2 he
  have hel : e < hp.objs.size := Heap.lt_size he
  show wpAny _ _ (field (.ref e) 3 >>= _) _ _ ⟨h₁, g, d, tk, os⟩
  refine wpAny_bind (wpAny_field he₁ rfl (x := rawInt c) rfl ?_)
  show wpAny _ _ (field (.ref e) 4 >>= _) _ _ ⟨h₁, g, d, tk, os⟩
  refine wpAny_bind (wpAny_field he₁ rfl (x := .none) rfl ?_)
  show wpAny _ _ (mkInt c >>= _) _ _ ⟨h₁, g, d, tk, os⟩
  refine wpAny_bind (wpAny_mkInt ?_)
  show wpAny _ _ (setField (.ref e) 3 (rawInt (c + 1)) >>= _) _ _ ⟨h₁, g, d, tk + 1, os⟩
  refine wpAny_bind (wpAny_setField_rec he₁ (by simp) fun h₂ he₂ hs₂ => ?_)
  replace hs₂ : Heap.SameBut e h₁ h₂ := hs₂
  replace he₂ : IsEnum h₂ e z (c + 1) old := he₂
  show wpAny _ _ (setField (.ref e) 4 .none >>= _) _ _ ⟨h₂, g, d, tk + 1, os⟩
  refine wpAny_bind (wpAny_setField_rec he₂ (by simp) fun h₃ he₃ hs₃ => ?_)
  replace hs₃ : Heap.SameBut e h₂ h₃ := hs₃
  replace he₃ : IsEnum h₃ e z (c + 1) old := he₃
  show wpAny _ _ (newTuple [.int c tk, .ref hp.objs.size] >>= _) _ _ ⟨h₃, g, d, tk + 1, os⟩
  refine wpAny_bind (wpAny_newTuple ?_)
  have he₄ : IsEnum (h₃.push { cls := .type "tuple", data := .seq #[.int c tk, .ref hp.objs.size] }) e z (c + 1) old := Heap.get?_push_of_some _ he₃
  generalize hh₄ : h₃.push { cls := .type "tuple", data := .seq #[.int c tk, .ref hp.objs.size] } = h₄ at he₄
  have hsz : h₃.objs.size = hp.objs.size + 1 := by rw [hs₃.1, hs₂.1, hsz₁]
  have ht₄ : h₄.get? (hp.objs.size + 1) = some { cls := .type "tuple", data := .seq #[.int c tk, .ref hp.objs.size] } := by rw [← hh₄, ← hsz]; exact Heap.get?_push_size _ rfl
  have hk₄ : ∀ b o, b ≠ e → h₁.get? b = some o → h₄.get? b = some o := fun b o hbe hb => by
    rw [← hh₄]; exact Heap.get?_push_of_some _ (hs₃.extBut b o hbe (hs₂.extBut b o hbe hb))
  show wpAny _ _ (Builtin.SmallTypes.ownedTupleIsFree (.ref e) >>= _) _ _ ⟨h₄, g, d, tk + 1, os⟩
  rw [hsz]
  have hne : hp.objs.size + 1 ≠ e := Nat.ne_of_gt (Nat.lt_succ_of_lt hel)
  clear hh₄ he₃ hs₃ he₂ hs₂ he₁ hsz h₃ h₂
  refine wpAny_bind ?_
  · unfold Builtin.SmallTypes.ownedTupleIsFree
    refine wpAny_bind (wpAny_field he₄ rfl (x := .none) rfl (wpAny_pure ?_))
    simp only [if_true]
    refine wpAny_bind (wpAny_rule ?_)
    refine wpAny_bind (wpAny_field he₄ rfl (x := old) rfl ?_)
    refine wpAny_bind (wpAny_setField_rec he₄ (by simp) fun h₅ he₅ hs₅ => ?_)
    replace hs₅ : Heap.SameBut e h₄ h₅ := hs₅
    replace he₅ : IsEnum h₅ e z (c + 1) (.ref hp.objs.size) := he₅
    show wpAny _ _ (Builtin.SmallTypes.ownedTupleHandOut (.ref e) (.ref (hp.objs.size + 1)) >>= _) _ _ ⟨h₅, g, d, tk + 1, os⟩
    refine wpAny_bind ?_
    · unfold Builtin.SmallTypes.ownedTupleHandOut
      refine wpAny_bind (wpAny_setField_rec he₅ (by simp) fun h₆ he₆ hs₆ => ?_)
      replace hs₆ : Heap.SameBut e h₅ h₆ := hs₆
      replace he₆ : IsEnumOut h₆ e z (c + 1) (.ref hp.objs.size) (hp.objs.size + 1) := he₆
      refine wpAny_setField_rec he₆ (by simp) fun h₇ he₇ hs₇ => ?_
      replace hs₇ : Heap.SameBut e h₆ h₇ := hs₇
      replace he₇ : IsEnumOut h₇ e z (c + 1) (.ref hp.objs.size) (hp.objs.size + 1) := he₇
      have k7 : ∀ b o, b ≠ e → h₄.get? b = some o → h₇.get? b = some o := fun b o hb q => hs₇.extBut b o hb (hs₆.extBut b o hb (hs₅.extBut b o hb q))
      refine wpAny_bind (wpAny_letGo (wpAny_pure ⟨_, rfl, hQ x1 x2 h₁ h₇ tk p1 p2 hT hsz₁ (fun b o hb q => hk₁ b o (fun z => hb (by simp [z])) (fun z => hb (by simp [z])) (fun z => hb (by simp [z])) (fun z => hb (by simp [z])) q) st₁ he₇ (k7 _ _ hne ht₄) fun b o hb q => k7 b o hb (hk₄ b o hb q)⟩))
theorem next_enum_zip {c : Int} {old : Value} {Q : Option Value → Shared → Prop} (S : ZipSep2 z TI TO i1 i2 fp1 fp2) (hT1 : TI ∉ fp1) (hT2 : TI ∉ fp2) (D1 : ∀ A, A.handled = none → Draws prog w A i1 fp1 n1 P1 St1) (D2 : ∀ A, A.handled = none → Draws prog w A i2 fp2 n2 P2 St2) (hh : A.handled = none)
    (he : IsEnum s.heap e z c old) (st : ZSt z TI TO i1 i2 St1 St2 i s.heap) (h1 : i < n1) (h2 : i < n2) (hef : e ∉ z :: TI :: TO :: (fp1 ++ fp2))
    (hQ : ∀ x1 x2 h₁ h' tk, P1 i x1 → P2 i x2 → IsTupOf2 h₁ s.heap.objs.size x1 x2 → h₁.objs.size = s.heap.objs.size + 1 → (∀ b o, b ∉ [z, TI, TO, i1, i2] → s.heap.get? b = some o → h₁.get? b = some o) → ZSt z TI TO i1 i2 St1 St2 (i + 1) h₁ →
      IsEnumOut h' e z (c + 1) (.ref s.heap.objs.size) (s.heap.objs.size + 1) → h'.get? (s.heap.objs.size + 1) = some { cls := .type "tuple", data := .seq #[.int c tk, .ref s.heap.objs.size] } → (∀ b o, b ≠ e → h₁.get? b = some o → h'.get? b = some o) → Q (some (.ref (s.heap.objs.size + 1))) { s with heap := h', toks := tk + 1 }) :
    wpAny (model prog w) A (pyNext (.ref e)) Q E s := by
  have hT : s.TypeIs (.ref e) "enumerate" := ⟨_, he, rfl⟩
  unfold pyNext
  exact wpAny_bind (wpAny_attempt (wpAny_callSpecial?_slot (name := Str.ofString "__next__") hT F.slot_enumerate_next
    (wpAny_call_entry F.slot_enumerate_next hT F.entry_enumerate_next
      (enum_zip_item S hT1 hT2 D1 D2 hh he st h1 h2 hef fun x1 x2 a b tk c1 c2 c3 c4 c5 c6 c7 c8 c9 => wpAny_pure (hQ x1 x2 a b tk c1 c2 c3 c4 c5 c6 c7 c8 c9)) (F.args_enumerate_next_1 _))))
theorem next_enum_zip_end {c : Int} {old : Value} {Q : Option Value → Shared → Prop} (S : ZipSep2 z TI TO i1 i2 fp1 fp2) (D1 : ∀ A, A.handled = none → Draws prog w A i1 fp1 n1 P1 St1) (D2 : ∀ A, A.handled = none → Draws prog w A i2 fp2 n2 P2 St2) (hh : A.handled = none)
    (he : IsEnum s.heap e z c old) (st : ZSt z TI TO i1 i2 St1 St2 i s.heap) (h1 : i ≤ n1) (h2 : i ≤ n2) (hend : i = n1 ∨ i = n2)
    (hQ : ∀ h' tk, (∀ b o, b ∉ [z, TI, TO, i1, i2] → s.heap.get? b = some o → h'.get? b = some o) → Q none { s with heap := h', toks := tk }) : wpAny (model prog w) A (pyNext (.ref e)) Q E s := by
  have hT : s.TypeIs (.ref e) "enumerate" := ⟨_, he, rfl⟩
  unfold pyNext
  refine wpAny_bind (wpAny_attempt (wpAny_callSpecial?_slot (name := Str.ofString "__next__") hT F.slot_enumerate_next
    (wpAny_call_entry F.slot_enumerate_next hT F.entry_enumerate_next ?_ (F.args_enumerate_next_1 _))))
  show wpAny _ _ (field (.ref e) 2 >>= _) _ _ _
  refine wpAny_bind (wpAny_field he rfl (x := .ref z) rfl ?_)
  refine wpAny_bind (nextOf_zip_end S D1 D2 hh st h1 h2 hend fun h' tk x hk hx => ?_)
  obtain ⟨o, ho, hc⟩ := hx
  refine wpAny_bind (wpAny_isInstance (T := "StopIteration") (b := true) ⟨o, ho, hc⟩ isSubtype_stop ?_)
  exact wpAny_pure (hQ _ _ fun b o hb q => hk b o (fun z => hb (by simp [z])) (fun z => hb (by simp [z])) (fun z => hb (by simp [z])) (fun z => hb (by simp [z])) q)
end
/-- the numbers and the pairs of two rows of signs -/
def Iez (xs ys : List V) : It :=
  ⟨fun i _ => i < xs.length ∧ i < ys.length, fun i H v H' => ∃ T U x y, v = .ref U ∧ H T = none ∧ H U = none ∧ U ≠ T ∧ H' = upd (upd H T (.tup [x, y])) U (.tup [.int (i : Nat), .ref T]) ∧ xs[i]? = some x ∧ ys[i]? = some y, fun i _ => i = xs.length ∧ i ≤ ys.length ∨ i = ys.length ∧ i ≤ xs.length⟩
theorem turn_enumZip {P : Program} {w : World} {K : PySem.W.Frag} {elts : List Expr} {kk : Nat} {tpos : Pos} {z TI TO i1 i2 e : Addr} {P1 P2 : Nat → Value → Prop} {St1 St2 : Nat → Heap → Prop} {xs ys : List V} (S : ZipSep2 z TI TO i1 i2 [i1] [i2])
    (D1 : ∀ A, A.handled = none → Draws P w A i1 [i1] xs.length P1 St1) (D2 : ∀ A, A.handled = none → Draws P w A i2 [i2] ys.length P2 St2) (hp1 : ∀ i v, P1 i v → ∃ x, xs[i]? = some x ∧ L2.RelV x v) (hp2 : ∀ i v, P2 i v → ∃ x, ys[i]? = some x ∧ L2.RelV x v)
    (o1 : ∀ i h, St1 i h → ∃ o, h.get? i1 = some o ∧ ∀ v, o.data ≠ .cell v) (o2 : ∀ i h, St2 i h → ∃ o, h.get? i2 = some o ∧ ∀ v, o.data ≠ .cell v) (hef : e ∉ [z, TI, TO, i1, i2]) :
    Turn P w K (.Tuple elts kk tpos) (Iez xs ys) [e, z, TI, TO, i1, i2] e (fun i h => (∃ old, IsEnum h e z ((i : Nat) : Int) old) ∧ ZSt z TI TO i1 i2 St1 St2 i h) where
  mem := by simp
  obj := fun i h st b hb => by
    obtain ⟨⟨old, he⟩, ⟨x, f, hz, _⟩, hTI, ⟨a1, a2, hTO⟩, st1, st2⟩ := st
    have e' : b = e ∨ b = z ∨ b = TI ∨ b = TO ∨ b = i1 ∨ b = i2 := by simpa using hb
    rcases e' with q | q | q | q | q | q
    · rw [q]; exact ⟨_, he, fun v q => nomatch q⟩
    · rw [q]; exact ⟨_, hz, fun v q => nomatch q⟩
    · rw [q]; exact ⟨_, hTI, fun v q => nomatch q⟩
    · rw [q]; exact ⟨_, hTO, fun v q => nomatch q⟩
    · rw [q]; exact o1 i h st1
    · rw [q]; exact o2 i h st2
  keep := fun i h h' st k => by
    obtain ⟨⟨old, he⟩, ⟨x, f, hz, hx⟩, hTI, ⟨a1, a2, hTO⟩, st1, st2⟩ := st
    refine ⟨⟨old, k e (by simp) _ he⟩, ⟨x, f, k z (by simp) _ hz, hx⟩, k TI (by simp) _ hTI, ⟨a1, a2, k TO (by simp) _ hTO⟩, (D1 ({} : Around) rfl).frame _ _ _ st1 fun b hb o q => k b ?_ o q, (D2 ({} : Around) rfl).frame _ _ _ st2 fun b hb o q => k b ?_ o q⟩
    · rw [List.mem_singleton.mp hb]; simp
    · rw [List.mem_singleton.mp hb]; simp
  item := by
    intro X hP hw hK hc i pins s σ H E I hf st hg
    subst hP hw hK
    obtain ⟨⟨old, he⟩, st⟩ := st
    have hef' : e ∉ z :: TI :: TO :: ([i1] ++ [i2]) := hef
    have hel : e < s.heap.objs.size := Heap.lt_size he
    refine next_enum_zip S (by simp [S.TIi1]) (by simp [S.TIi2]) D1 D2 (I.ok.hd hc) he st hg.1 hg.2 hef' fun x1 x2 h₁ h' tk p1 p2 hT hsz hk₁ st₁ ho hU hk => ?_
    refine ⟨_, rfl, wpAny_letOwnedTupleGo_enum (s := { s with heap := h', toks := tk + 1 }) ho fun h'' he' sb => ?_⟩
    obtain ⟨x, ex, rx⟩ := hp1 _ _ p1
    obtain ⟨y, ey, ry⟩ := hp2 _ _ p2
    have hN := I.hok.fresh (Nat.le_refl s.heap.objs.size)
    have hfz : ∀ b ∈ [z, TI, TO, i1, i2], FpOk X pins H b := fun b hb => hf b (List.mem_cons_of_mem _ hb)
    have new1 : ObjOk X.prog X.w (upd H s.heap.objs.size (.tup [x, y])) h₁ s.heap.objs.size (.tup [x, y]) := ⟨by show 2 ≤ sizeLine; decide, [x1, x2], .cons rx (.cons ry .nil), ⟨_, hT, rfl, _, rfl⟩⟩
    have I1 : L2.Inv X pins σ (upd H s.heap.objs.size (.tup [x, y])) { s with heap := h₁, toks := tk } := I.turnedNew (t' := tk) (ch := [z, TI, TO, i1, i2]) hk₁ hfz (Nat.le_refl _) new1
    have hN1 : upd H s.heap.objs.size (.tup [x, y]) (s.heap.objs.size + 1) = none := by
      rw [upd_ne (Nat.succ_ne_self _)]
      exact I.hok.fresh (Nat.le_succ _)
    have hlt : ∀ b ∈ [e, z, TI, TO, i1, i2], b < s.heap.objs.size := fun b hb => by
      obtain ⟨⟨vx, vf, hz, _⟩, hTI, ⟨a1, a2, hTO⟩, st1, st2⟩ := st
      have e' : b = e ∨ b = z ∨ b = TI ∨ b = TO ∨ b = i1 ∨ b = i2 := by simpa using hb
      rcases e' with q | q | q | q | q | q
      · rw [q]; exact hel
      · rw [q]; exact Heap.lt_size hz
      · rw [q]; exact Heap.lt_size hTI
      · rw [q]; exact Heap.lt_size hTO
      · rw [q]; obtain ⟨_, e1, _⟩ := o1 _ _ st1; exact Heap.lt_size e1
      · rw [q]; obtain ⟨_, e1, _⟩ := o2 _ _ st2; exact Heap.lt_size e1
    have fE : FpOk X pins (upd H s.heap.objs.size (.tup [x, y])) e := by
      obtain ⟨q1, q2⟩ := hf e (by simp)
      exact ⟨by rw [upd_ne (Nat.ne_of_lt hel)]; exact q1, q2⟩
    have hk2 : ∀ b o, b ≠ e → h₁.get? b = some o → h''.get? b = some o := fun b o hb q => sb.extBut b o hb (hk b o hb q)
    have hU2 : h''.get? (s.heap.objs.size + 1) = some { cls := .type "tuple", data := .seq #[.int (i : Nat) tk, .ref s.heap.objs.size] } := sb.extBut _ _ (Nat.ne_of_gt (Nat.lt_succ_of_lt hel)) hU
    have new2 : ObjOk X.prog X.w (upd (upd H s.heap.objs.size (.tup [x, y])) (s.heap.objs.size + 1) (.tup [.int (i : Nat), .ref s.heap.objs.size])) h'' (s.heap.objs.size + 1) (.tup [.int (i : Nat), .ref s.heap.objs.size]) :=
      ⟨by show 2 ≤ sizeLine; decide, [.int i tk, .ref s.heap.objs.size], .cons ⟨_, rfl⟩ (.cons (show L2.RelV (.ref s.heap.objs.size) (.ref s.heap.objs.size) from rfl) .nil), ⟨_, hU2, rfl, _, rfl⟩⟩
    have I2 : L2.Inv X pins σ (upd (upd H s.heap.objs.size (.tup [x, y])) (s.heap.objs.size + 1) (.tup [.int (i : Nat), .ref s.heap.objs.size])) { s with heap := h'', toks := tk + 1 } :=
      I1.turnedNew (t' := tk + 1) (ch := [e]) (fun b o hb q => hk2 b o (fun z => hb (by simp [z])) q) (fun b hb => by rw [List.mem_singleton.mp hb]; exact fE) (by show h₁.objs.size ≤ _; rw [hsz]; exact Nat.le_refl _) new2
    refine ⟨.ref (s.heap.objs.size + 1), _, I2, rfl, ⟨s.heap.objs.size, s.heap.objs.size + 1, x, y, rfl, hN, I.hok.fresh (Nat.le_succ _), Nat.succ_ne_self _, rfl, ex, ey⟩, ⟨⟨.ref s.heap.objs.size, ?_⟩, st₁.frame (D1 X.A (I.ok.hd hc)) (D2 X.A (I.ok.hd hc)) fun b hb o q => hk2 b o (fun z => hef' (by rw [← z]; exact hb)) q⟩, fun b hb => ?_⟩
    · have e1 : ((i + 1 : Nat) : Int) = (i : Int) + 1 := by omega
      rw [e1]
      exact he'
    · have := hlt b hb
      rw [upd_ne (Nat.ne_of_lt (Nat.lt_succ_of_lt this)), upd_ne (Nat.ne_of_lt this)]
      exact (hf b hb).1
  done := by
    intro X hP hw hK hc i pins s σ H E I hf st hg
    subst hP hw hK
    obtain ⟨⟨old, he⟩, st⟩ := st
    have hle : i ≤ xs.length ∧ i ≤ ys.length ∧ (i = xs.length ∨ i = ys.length) := by
      rcases hg with ⟨h1, h2⟩ | ⟨h1, h2⟩ <;> omega
    exact next_enum_zip_end S D1 D2 (I.ok.hd hc) he st hle.1 hle.2.1 hle.2.2 fun h' tk hk => ⟨rfl, I.turnedL (t' := tk) (ch := [z, TI, TO, i1, i2]) hk fun b hb => hf b (List.mem_cons_of_mem _ hb)⟩
  self := fun A i s Q E st h => let ⟨⟨_, he⟩, _⟩ := st; wpAny_pyIter_enum he h
end Zx

/-! Zx5: the rule of for k, pair in enumerate(zip(text, text)). -/
namespace Zx
open PySem L2 PyProof.Rows
def iEnumZip (ta : TA) : TI := fun σ H R => ta σ H fun vs H1 => ∃ a b : Str, vs = [.str a, .str b] ∧ R (Iez (signV a) (signV b)) H1
section
variable {X : Cx} {e e2 : Expr} {ta : TA} {p pos p2 pos2 tpos : Pos} {elts : List Expr} {kk : Nat}
theorem str_cell {it : Addr} {ty : String} {x : Str} {t : Tok} {i : Nat} {h : Heap} (q : h.IsStrIter it ty x t i) : ∃ o, h.get? it = some o ∧ ∀ v, o.data ≠ .cell v := by
  obtain ⟨o, e, c, d⟩ := q
  exact ⟨o, e, fun v z => by rw [d] at z; cases z⟩
/-- an expression that makes a zip of two texts -/
def PZt (X : Cx) (e : Expr) (ta : TA) : Prop :=
  ∀ (pins : List (Addr × Obj)) (s : Shared) (σ : L2.St) (H : Hp) (Q : Str → Str → Hp → Prop), L2.Inv X pins σ H s → ta σ H (fun vs H1 => ∃ a b : Str, vs = [.str a, .str b] ∧ Q a b H1) →
    wpAny (model X.prog X.w) X.A (eval e X.env) (fun u s' => ∃ (z TI TO i1 i2 : Addr) (a b : Str) (t1 t2 : Tok) (H' : Hp), u = .ref z ∧ L2.Inv X pins σ H' s' ∧ ZipSep2 z TI TO i1 i2 [i1] [i2] ∧
      ZSt z TI TO i1 i2 (fun i h => h.IsStrIter i1 (strIterType a) a t1 i) (fun i h => h.IsStrIter i2 (strIterType b) b t2 i) 0 s'.heap ∧ (∀ c ∈ [z, TI, TO, i1, i2], FpOk X pins H' c ∧ c < s'.heap.objs.size) ∧ Q a b H') X.xe s
theorem pzt (hg : Gl X "zip") (hm : X.mg "zip" = none) (ha : PA X [e, e2] ta) (hs : starEach [e, e2] X.env = (false, eval e X.env) :: starEach [e2] X.env := by rfl) (hpl : (backTo pos (starEach [e2] X.env)).any (·.1) = false := by rfl) : PZt X (.Call (.Name "zip" p) [e, e2] [] pos) ta := by
  intro pins s σ H Q I h
  refine Call_ (ld_blt I hg hm PyProof.Rows.boot_zip (PyProof.Rows.callWith_type1 (thn (ha.run pos pins s σ H _ I h) fun us s1 ⟨vs, H1, I1, r1, q1⟩ => ?_) hs hpl))
  obtain ⟨a, b, rfl, q⟩ := q1
  cases r1 with
  | @cons _ u1 _ _ ra rb =>
    cases rb with
    | @cons _ u2 _ _ rb rc =>
      cases rc
      obtain ⟨t1, rfl⟩ := ra
      obtain ⟨t2, rfl⟩ := rb
      refine zip_begins2 (begins_text a t1) (begins_text b t2) trivial trivial fun h' hz hTI hTO e1 e2 hsz hk => ?_
      have I2 : L2.Inv X pins σ H1 { s1 with heap := h' } := I1.kept (t' := s1.toks) hk
      refine ⟨s1.heap.objs.size + 4, s1.heap.objs.size + 2, s1.heap.objs.size + 3, s1.heap.objs.size, s1.heap.objs.size + 1, a, b, t1, t2, H1, rfl, I2, zip_sep2 (by simp) (by simp), ZSt.new hz hTI ⟨_, _, hTO⟩ ⟨_, e1, rfl, rfl⟩ ⟨_, e2, rfl, rfl⟩, fun c hc => ?_, q⟩
      have e' : c = s1.heap.objs.size + 4 ∨ c = s1.heap.objs.size + 2 ∨ c = s1.heap.objs.size + 3 ∨ c = s1.heap.objs.size ∨ c = s1.heap.objs.size + 1 := by simpa using hc
      have hle : s1.heap.objs.size ≤ c := by
        rcases e' with z | z | z | z | z
        · rw [z]; exact Nat.le_add_right _ _
        · rw [z]; exact Nat.le_add_right _ _
        · rw [z]; exact Nat.le_add_right _ _
        · rw [z]; exact Nat.le_refl _
        · rw [z]; exact Nat.le_add_right _ _
      refine ⟨I1.fpOk hle (I1.hok.fresh hle), ?_⟩
      show (c : Nat) < h'.objs.size
      rw [hsz]
      rcases e' with q | q | q | q | q
      · rw [q]; show (s1.heap.objs.size + 4 : Nat) < s1.heap.objs.size + 5; omega
      · rw [q]; show (s1.heap.objs.size + 2 : Nat) < s1.heap.objs.size + 5; omega
      · rw [q]; show (s1.heap.objs.size + 3 : Nat) < s1.heap.objs.size + 5; omega
      · rw [q]; show (s1.heap.objs.size : Nat) < s1.heap.objs.size + 5; omega
      · rw [q]; show (s1.heap.objs.size + 1 : Nat) < s1.heap.objs.size + 5; omega
theorem pi_enumZip (hg : Gl X "enumerate") (hm : X.mg "enumerate" = none) (he : PZt X e ta) (na : starEach [e] X.env = (false, eval e X.env) :: starEach [] X.env := by rfl) :
    PI X (.Tuple elts kk tpos) (.Call (.Name "enumerate" p) [e] [] pos) (iEnumZip ta) := by
  refine ⟨fun pins s σ H R I h => ?_⟩
  refine Call_ (ld_blt I hg hm boot_enumerate (PyProof.Rows.callWith_type1 (args_cons (thn (he pins s σ H (fun a b H1 => R (Iez (signV a) (signV b)) H1) I h) fun x s1 hx => args_nil ?_) na) na))
  obtain ⟨z, TI, TO, i1, i2, a, b, t1, t2, H1, rfl, I1, S, st, hf, q⟩ := hx
  obtain ⟨vx, vf, hz, _⟩ := id st.1
  refine call_enumerate_zip hz fun h' he' hsz hk => wpAny_pyIter_enum he' ?_
  have I2 : L2.Inv X pins σ H1 { s1 with heap := h' } := I1.kept (t' := s1.toks) hk
  have la : (signV a).length = a.cps.size := by simp [signV]
  have lb : (signV b).length = b.cps.size := by simp [signV]
  have rel : ∀ (z : Str) (i : Nat) (v : Value), (∃ c u, z.cps[i]? = some c ∧ v = .str ⟨#[c]⟩ u) → ∃ x, (signV z)[i]? = some x ∧ L2.RelV x v := fun z i v ⟨c, u, e, e2⟩ => by
    subst e2
    refine ⟨.str ⟨#[c]⟩, ?_, u, rfl⟩
    have e' : z.cps.toList[i]? = some c := by simpa using e
    simp [signV, e']
  have hef : s1.heap.objs.size ∉ [z, TI, TO, i1, i2] := fun hm => Nat.lt_irrefl _ (hf _ hm).2
  refine ⟨s1.heap.objs.size, [s1.heap.objs.size, z, TI, TO, i1, i2], _, _, H1, rfl, I2, turn_enumZip (P1 := fun i v => ∃ c u, a.cps[i]? = some c ∧ v = .str ⟨#[c]⟩ u) (P2 := fun i v => ∃ c u, b.cps[i]? = some c ∧ v = .str ⟨#[c]⟩ u) S (fun A hh => by rw [la]; exact Draws.text hh i1 a t1) (fun A hh => by rw [lb]; exact Draws.text hh i2 b t2) (rel a) (rel b) (fun i h q => str_cell q) (fun i h q => str_cell q) hef, ⟨⟨.none, he'⟩, ?_⟩, fun c hc => ?_, q⟩
  · obtain ⟨⟨x, f, hz, hx⟩, hTI, ⟨a1, a2, hTO⟩, ⟨o1, q1, r1⟩, ⟨o2, q2, r2⟩⟩ := st
    exact ⟨⟨x, f, hk _ _ hz, hx⟩, hk _ _ hTI, ⟨a1, a2, hk _ _ hTO⟩, ⟨o1, hk _ _ q1, r1⟩, ⟨o2, hk _ _ q2, r2⟩⟩
  · rcases List.mem_cons.mp hc with q | q
    · rw [q]; exact I1.fpOk (Nat.le_refl _) (I1.hok.fresh (Nat.le_refl _))
    · exact (hf c q).1
end
end Zx

/-! Zx6: xs[a:b:c]; s.ljust(n, sign). -/
namespace Zx
open PySem L2 PyProof.Rows
/-- the places of a slice -/
def places (n : Nat) (lo hi st : Option Int) : List Nat := sliceRange (sliceBounds lo hi st n).1 (sliceBounds lo hi st n).2.1 (sliceBounds lo hi st n).2.2
def pick {α : Type} (xs : List α) (lo hi st : Option Int) : List α := (places xs.length lo hi st).filterMap fun i => xs[i]?
theorem vals_pick {xs : List V} {us : List Value} (h : Vals xs us) : ∀ π : List Nat, Vals (π.filterMap fun i => xs[i]?) (π.filterMap fun i => us[i]?)
  | [] => .nil
  | i :: π => by
    rw [List.filterMap_cons, List.filterMap_cons]
    have hl := h.length
    cases q : xs[i]? with
    | none =>
      have q2 : us[i]? = none := by
        rw [List.getElem?_eq_none_iff] at q ⊢
        omega
      rw [q2]
      exact vals_pick h π
    | some x =>
      obtain ⟨u, e, r⟩ := h.get q
      rw [e]
      exact .cons r (vals_pick h π)
theorem pick_arr (its : List Value) (lo hi st : Option Int) : slicePick its.toArray lo hi st = (pick its lo hi st).toArray := by
  unfold slicePick pick places
  rw [List.size_toArray]
  congr 2
  funext i
  simp
def tSlS (K : PySem.W.Frag) (te : TE) (tl th ts : TO) : TE := fun σ H Q => te σ H fun x H1 => tl σ H1 fun l H2 => th σ H2 fun u H3 => ts σ H3 fun o H4 => ∃ a xs c, x = .ref a ∧ o = some c ∧ c ≠ 0 ∧ SqL K H4 a xs ∧ (pick xs l u (some c)).length ≤ sizeLine ∧ ∀ p, H4 p = none → Q (.ref p) (upd H4 p (.lst (pick xs l u (some c))))
section
variable {X : Cx}
theorem pe_slS {e st : Expr} {lo hi : Option Expr} {te : TE} {tl th ts : TO} {p3 pos : Pos} (he : PE X e te) (hl : PO X lo tl) (hu : PO X hi th) (hst : PO X (some st) ts)
    (htail : ∀ (a b : Addr), subscripted (.Slice lo hi (some st) p3) false (.ref a) (.ref b) = operate [.ref a, .ref b] (getItem (.ref a) (.ref b)) := by intros; with_unfolding_all rfl) : PE X (.Subscript e (.Slice lo hi (some st) p3) pos) (tSlS X.K te tl th ts) := by
  refine ⟨fun pins s σ H Q I h => ?_⟩
  refine Subscript_ (thn (he.run pins s σ H _ I h) fun v s1 ⟨x, H1, I1, r1, q1⟩ => ?_)
  refine wpAny_Slice (thn (hl.run pins s1 σ H1 _ I1 q1) fun vl s2 ⟨l, H2, I2, pl, q2⟩ => ?_)
  refine thn (hu.run pins s2 σ H2 _ I2 q2) fun vu s3 ⟨u, H3, I3, pu, q3⟩ => ?_
  refine thn (hst.run pins s3 σ H3 _ I3 q3) fun vs s4 ⟨o, H4, I4, ps, q4⟩ => ?_
  obtain ⟨a, xs, c, ex, eo, hc, hx, hz2, q⟩ := q4
  subst ex eo
  cases r1
  have I5 : L2.Inv X pins σ H4 { s4 with heap := s4.heap.push { cls := .type "slice", data := .fields #[vl, vu, vs] } } := I4.kept (t' := s4.toks) fun b ob q => Heap.get?_push_of_some _ q
  obtain ⟨its, r, ht, hz⟩ := I5.list hx
  have hlen := r.length
  show wpAny (model X.prog X.w) X.A (subscriptTail e (.Slice lo hi (some st) p3) (.ref a) (.ref s4.heap.objs.size)) (EP X pins σ Q) X.xe { s4 with heap := s4.heap.push { cls := .type "slice", data := .fields #[vl, vu, vs] } }
  refine tail_any (ops := [.ref a, .ref s4.heap.objs.size]) ht.isList.typeIs (PySem.slot_list_getitem.lookup) ?_ (by first | exact htail _ _ | with_unfolding_all rfl)
  refine wpAny_getItem_list_slice ht.isList (Heap.IsSliceOf.new _ vl vu vs) pl pu ps (by simpa using hc) ?_ (by rw [List.size_toArray]; omega)
  rw [pick_arr]
  have rp : Vals (pick xs l u (some c)) (pick its l u (some c)) := by
    unfold pick
    rw [hlen]
    exact vals_pick r _
  refine ⟨.ref _, _, I5.laid (t' := s4.toks) (o := .lst (pick xs l u (some c))) (fun b ob q => Heap.get?_push_of_some _ q) (Nat.le_refl _) ?_, rfl, q _ (I5.hok.fresh (Nat.le_refl _))⟩
  exact ⟨hz2, _, 0, rp, Heap.get?_push_size _ rfl⟩
/-- s.ljust(n, sign) -/
def rLjF : V → List V → Hp → VK → Prop := fun x xs H Q => ∃ (a f : Str) (i : Int), x = .str a ∧ xs = [.int i, .str f] ∧ PadOk i = true ∧ f.length = 1 ∧ Q (.str (Txt.ljustF a i (f.cps.getD 0 0))) H
theorem mt_ljustF : MtR X "str.ljust" rLjF := by
  intro pins s σ H x xs v us Q I rx rs h
  obtain ⟨a, f, i, rfl, rfl, hp, hf, h⟩ := h
  obtain ⟨t, rfl⟩ := rx
  cases rs with
  | cons r1 rs =>
    cases rs with
    | cons r2 rs =>
      cases rs
      obtain ⟨u, rfl⟩ := r1
      obtain ⟨u2, rfl⟩ := r2
      exact ljust_fill hp hf fun t' k => ⟨.str (Txt.ljustF a i (f.cps.getD 0 0)), H, I.tok k, ⟨t', rfl⟩, h⟩
end
end Zx

/-! Zx7: for c in reversed(text). -/
namespace Zx
open PySem PySem.Spec L2 PyProof.Rows
theorem rv_none : typeLookup (.type "str") "__reversed__" = pure none := by
  rw [typeLookup_type, builtinLookup_eq_fast]
  kernel_rfl
theorem rv_item : typeLookup (.type "str") "__getitem__" = pure (some (.builtin "str.__getitem__")) := by
  rw [typeLookup_type, builtinLookup_eq_fast]
  kernel_rfl
theorem rv_sub : isSubtype (.type "str") (.type "dict") = pure false := by
  rw [isSubtype_type]
  kernel_rfl
/-- a reversed text z: the next place is i -/
def IsRz (h : Heap) (a : Addr) (z : Str) (t : Tok) (i : Int) : Prop := ∃ o, h.get? a = some o ∧ o.cls = .type "reversed" ∧ o.data = .fields #[.str z t, rawInt i]
section
variable {prog : Program} {w : World} {A : Around} {E : Value → Shared → Prop} {s : Shared} {z : Str} {t : Tok} {a : Addr}
theorem IsRz.ty {i : Int} (x : IsRz s.heap a z t i) : s.TypeIs (.ref a) "reversed" := let ⟨o, h1, h2, _⟩ := x; ⟨o, h1, h2⟩
theorem IsRz.keep {i : Int} {h h' : Heap} (x : IsRz h a z t i) (e : ∀ o, h.get? a = some o → h'.get? a = some o) : IsRz h' a z t i := let ⟨o, h1, r⟩ := x; ⟨o, e _ h1, r⟩
theorem rz_code {Q1 : Value → Shared → Prop} (hz : (z.length : Int) < 2 ^ 63)
    (h : ∀ tk, Q1 (.ref s.heap.objs.size) { s with heap := s.heap.push { cls := .type "reversed", data := .fields #[.str z t, rawInt ((z.length : Int) - 1)] }, toks := tk }) :
    codeAny (model prog w) A (.call (.builtin "reversed.__new__") ⟨[.type "reversed", .str z t], []⟩) (wants Q1 E) s := by
  have hT : s.TypeIs (.str z t) "str" := typeIs_str s z t
  refine codeAny_of_tree ?_
  show wpAny _ A.in1 (do checkBuiltinCall "reversed.__new__" ⟨[.type "reversed", .str z t], []⟩; again (.builtin "reversed.__new__" ⟨[.type "reversed", .str z t], []⟩)) _ _ s
  refine wpAny_bind (wpAny_of_eq (F.newCall_reversed_1 _) (wpAny_pure ⟨plainId_quiet F.plain_reversed_new _, codeAny_builtin F.entry_reversed_new ?_⟩))
  rw [Around.under_plainId F.plain_reversed_new _]
  unfold Builtin.«reversed.__new__»
  refine wpAny_bind (wpAny_of_eq (newClass_reversed _) ?_)
  try dsimp only
  refine wpAny_bind (wpAny_of_eq (a := ()) (by first | rfl | kernel_rfl) ?_)
  try dsimp only
  refine wpAny_bind (wpAny_of_eq (a := ()) (by first | rfl | kernel_rfl) ?_)
  try dsimp only
  refine wpAny_bind (wpAny_specialOf hT rv_none ?_)
  try dsimp only
  refine wpAny_bind ?_
  wp_delta
  refine wpAny_bind (wpAny_isInstance (T := "str") (U := "dict") (b := false) hT rv_sub ?_)
  try dsimp only
  try rw [if_neg Bool.false_ne_true]
  try dsimp only
  refine wpAny_bind (wpAny_specialOf hT rv_item ?_)
  try dsimp only
  try rw [if_pos (by decide +kernel)]
  refine wpAny_pure ?_
  try dsimp only
  try rw [if_neg (by decide)]
  try dsimp only
  refine wpAny_bind (len_str (by omega) ?_)
  refine wpAny_bind (wpAny_of_eq (a := some ((z.length : Nat) : Int)) rfl ?_)
  try dsimp only
  refine wpAny_bind ?_
  show wpAny _ _ (newObj (.type "reversed") (.fields #[.str z t, rawInt ((z.length : Int) - 1)])) _ _ _
  refine wpAny_newObj_type ?_
  exact wpAny_pure (h _)
theorem rz_call {Q : Value → Shared → Prop} (hz : (z.length : Int) < 2 ^ 63)
    (h : ∀ tk, Q (.ref s.heap.objs.size) { s with heap := s.heap.push { cls := .type "reversed", data := .fields #[.str z t, rawInt ((z.length : Int) - 1)] }, toks := tk }) : wpAny (model prog w) A (call (.type "reversed") [.str z t]) Q E s := by
  refine callType_codes (Q₁ := fun obj s₁ => s₁.TypeIs obj "reversed" ∧ Q obj s₁) RT.called_rt (F.typeCall_reversed_1 _) F.entry_object_init (rz_code (A := A.in1) hz fun tk => ⟨⟨_, Heap.get?_push_size _ rfl, rfl⟩, h tk⟩) fun obj s₁ g => ?_
  exact ⟨g.1, F.args_object_init_2 obj _, object_init_meets RT.called_rt.init.lookup RT.called_rt.made (by decide) prog w A.in1 _ s₁ ⟨g.1, rfl, g.2⟩⟩
theorem rz_next {i c : Nat} {Q : Option Value → Shared → Prop} (hit : IsRz s.heap a z t (i : Int)) (hc : z.cps[i]? = some c) (hz : (z.length : Int) < 2 ^ 63)
    (h : ∀ h' tk u, IsRz h' a z t ((i : Int) - 1) → Heap.SameBut a s.heap h' → Q (some (.str ⟨#[c]⟩ u)) { s with heap := h', toks := tk }) : wpAny (model prog w) A (pyNext (.ref a)) Q E s := by
  obtain ⟨o, ho, hcl, hd⟩ := id hit
  have hi : i < z.length := (Array.getElem?_eq_some_iff.mp hc).1
  have hT : s.TypeIs (.str z t) "str" := typeIs_str s z t
  unfold pyNext
  refine wpAny_bind (wpAny_attempt (wpAny_callSpecial?_slot (name := Str.ofString "__next__") hit.ty RT.slot_rt_next
    (wpAny_call_entry RT.slot_rt_next hit.ty RT.entry_rt_next ?_ (RT.args_rt_next _))))
  unfold Builtin.«reversed.__next__»
  refine wpAny_bind (wpAny_of_eq (a := (Value.ref a, [])) rfl ?_)
  try dsimp only
  refine wpAny_bind (wpAny_field ho hd (x := .str z t) rfl ?_)
  try dsimp only
  refine wpAny_bind (wpAny_field ho hd (x := rawInt (i : Int)) rfl ?_)
  show wpAny _ _ (if (i : Int) < 0 then _ else _) _ _ s
  rw [if_neg (by omega)]
  try dsimp only
  refine wpAny_bind (wpAny_specialOf hT rv_item ?_)
  try dsimp only
  try rw [if_neg (by decide)]
  try dsimp only
  refine wpAny_bind (wpAny_mkInt ?_)
  refine wpAny_bind (wpAny_attempt ?_)
  refine PyProof.Rows.getItem_str (c := c) (by rw [decide_eq_false (by omega), decide_eq_false (by omega)]; rfl) (by rw [show seqIndex? (i : Int) z.length = some i from seqIndex_of (by omega) (by omega)]; exact hc) ?_
  try dsimp only
  refine wpAny_bind (wpAny_field (s := { s with toks := s.toks + 1 + 1 }) ho hd (x := rawInt (i : Int)) rfl ?_)
  try dsimp only
  refine wpAny_bind (wpAny_setField (s := { s with toks := s.toks + 1 + 1 }) ho hd (by simp) ?_)
  have hst : IsRz (s.heap.update a (Obj.mapFields (·.setIfInBounds 1 (rawInt ((i : Int) - 1))))) a z t ((i : Int) - 1) := ⟨_, Heap.get?_update_self _ ho (Obj.isFreed_of_fields (Obj.data_mapFields hd _)), (Obj.cls_mapFields ..).trans hcl, by
    rw [Obj.data_mapFields hd]
    simp⟩
  first
  | exact wpAny_pure ⟨_, rfl, wpAny_pure (h _ _ _ hst (Heap.SameBut.update ..))⟩
  | exact wpAny_bind (wpAny_pure (wpAny_pure ⟨_, rfl, wpAny_pure (h _ _ _ hst (Heap.SameBut.update ..))⟩))
theorem rz_end {Q : Option Value → Shared → Prop} (hh : A.handled = none) (hit : IsRz s.heap a z t (-1)) (h : ∀ h', Heap.ExtBut a s.heap h' → Q none { s with heap := h' }) : wpAny (model prog w) A (pyNext (.ref a)) Q E s := by
  obtain ⟨o, ho, hcl, hd⟩ := id hit
  unfold pyNext
  refine wpAny_bind (wpAny_attempt (wpAny_callSpecial?_slot (name := Str.ofString "__next__") hit.ty RT.slot_rt_next
    (wpAny_call_entry RT.slot_rt_next hit.ty RT.entry_rt_next ?_ (RT.args_rt_next _))))
  unfold Builtin.«reversed.__next__»
  refine wpAny_bind (wpAny_of_eq (a := (Value.ref a, [])) rfl ?_)
  try dsimp only
  refine wpAny_bind (wpAny_field ho hd (x := .str z t) rfl ?_)
  try dsimp only
  refine wpAny_bind (wpAny_field ho hd (x := rawInt (-1)) rfl ?_)
  show wpAny _ _ (if (-1 : Int) < 0 then _ else _) _ _ s
  rw [if_pos (by decide)]
  try dsimp only
  refine wpAny_bind (wpAny_rule ?_)
  refine wpAny_bind ?_
  wp_delta
  refine wpAny_bind (wpAny_setField ho hd (by simp) ?_)
  have ho2 := Heap.get?_update_self (Obj.mapFields (·.setIfInBounds 1 (rawInt (-1)))) ho (Obj.isFreed_of_fields (Obj.data_mapFields hd _))
  refine wpAny_setField (s := { s with heap := s.heap.update a (Obj.mapFields (·.setIfInBounds 1 (rawInt (-1)))) }) ho2 (Obj.data_mapFields hd _) (by simp) ?_
  try dsimp only
  first
  | show wpAny _ _ (newExc (.type "StopIteration") [] >>= _) _ _ _
  | (refine wpAny_bind ?_; show wpAny _ _ (newExc (.type "StopIteration") [] >>= _) _ _ _)
  | (refine wpAny_bind ?_; wp_delta; show wpAny _ _ (newExc (.type "StopIteration") [] >>= _) _ _ _)
  refine wpAny_bind ?_
  simp only [newExc, newTuple]
  refine wpAny_bind (wpAny_newObj_type ?_ (by size_fits))
  refine wpAny_bind (m := firstArgMember _ _) (wpAny_of_eq (a := Value.none) (by first | rfl | (simp only [firstArgMember]; rfl)) ?_)
  refine wpAny_newObj_type ?_ (by size_fits)
  simp only [raiseNew]
  refine wpAny_bind (wpAny_handled ?_)
  first | rw [show A.in1.handled = none from hh] | rw [hh]
  refine wpAny_bind (wpAny_pure (wpAny_throw ?_))
  refine wpAny_bind (wpAny_isInstance (T := "StopIteration") (b := true) ⟨_, Heap.get?_push_size _ rfl, rfl⟩ isSubtype_stop ?_)
  refine wpAny_pure (h _ (Heap.ExtBut.push (Heap.ExtBut.push ?_ _) _))
  exact fun b ob hb e => (Heap.get?_update_other _ _ (Ne.symm hb)).trans ((Heap.get?_update_other _ _ (Ne.symm hb)).trans e)
theorem rz_iter {i : Int} {Q : Value → Shared → Prop} (hit : IsRz s.heap a z t i) (h : Q (.ref a) s) : wpAny (model prog w) A (pyIter (.ref a)) Q E s := by
  refine wpAny_pyIter_slot hit.ty RT.slot_rt_iter (wpAny_call_entry RT.slot_rt_iter hit.ty RT.entry_rt_iter ?_ (RT.args_rt_iter _))
  show wpAny _ _ (ret (.ref a)) _ _ s
  exact wpAny_pure ⟨_, rfl, "reversed", _, hit.ty, RT.slot_rt_next.lookup, h⟩
end
/-- the walk over a text from its end -/
def Irz (z : Str) : It := ⟨fun i _ => i < z.cps.size, fun i H v H' => H' = H ∧ ∃ c, z.cps[z.cps.size - 1 - i]? = some c ∧ v = .str ⟨#[c]⟩, fun i _ => z.cps.size ≤ i⟩
theorem turn_rz {P : Program} {w : World} {K : PySem.W.Frag} {tg : Expr} (a : Addr) (z : Str) (t : Tok) (hz : (z.length : Int) < 2 ^ 63) : Turn P w K tg (Irz z) [a] a (fun i h => i ≤ z.cps.size ∧ IsRz h a z t ((z.cps.size : Int) - 1 - (i : Nat))) where
  mem := by simp
  obj := fun i h st b hb => by
    obtain rfl := List.mem_singleton.mp hb
    obtain ⟨_, o, e, c, d⟩ := st
    exact ⟨o, e, fun v y => by rw [d] at y; cases y⟩
  keep := fun i h h' st k => ⟨st.1, st.2.keep fun o e => k a (by simp) o e⟩
  item := by
    intro X hP hw hK hc i pins s σ H E I hf st hg
    subst hP hw hK
    obtain ⟨f0, f1, f2, f3, f4, f5⟩ := hf a (by simp)
    obtain ⟨_, hit⟩ := st
    have hg : i < z.cps.size := hg
    have e1 : (z.cps.size : Int) - 1 - ((i : Nat) : Int) = ((z.cps.size - 1 - i : Nat) : Int) := by omega
    rw [e1] at hit
    have hx : z.cps[z.cps.size - 1 - i]? = some z.cps[z.cps.size - 1 - i] := Array.getElem?_eq_getElem (by omega)
    refine rz_next hit hx hz fun h' tk u st' sb => ?_
    have e2 : ((z.cps.size - 1 - i : Nat) : Int) - 1 = (z.cps.size : Int) - 1 - ((i + 1 : Nat) : Int) := by omega
    rw [e2] at st'
    have I1 : L2.Inv X pins σ H { s with heap := h', toks := tk } := I.turned (t' := tk) (fun b o hb e => (sb.2 b hb).trans e) f0 f1 f3 f4 f5
    obtain ⟨o, e, c, d⟩ := id st'
    exact ⟨_, rfl, go_of (s := { s with heap := h', toks := tk }) e c d (by decide) ⟨.str ⟨#[z.cps[z.cps.size - 1 - i]]⟩, H, I1, ⟨u, rfl⟩, ⟨rfl, _, hx, rfl⟩, ⟨hg, st'⟩, fun b hb => (hf b hb).1⟩⟩
  done := by
    intro X hP hw hK hc i pins s σ H E I hf st hg
    subst hP hw hK
    obtain ⟨f0, f1, f2, f3, f4, f5⟩ := hf a (by simp)
    obtain ⟨hin, hit⟩ := st
    have hge : z.cps.size ≤ i := hg
    have e1 : (z.cps.size : Int) - 1 - ((i : Nat) : Int) = -1 := by omega
    rw [e1] at hit
    exact rz_end (I.ok.hd hc) hit fun h' eb => ⟨rfl, I.turned (t' := s.toks) (fun b o hb e => eb b o hb e) f0 f1 f3 f4 f5⟩
  self := fun A i s Q E st h => rz_iter st.2 h
def iRevS (te : TE) : TI := fun σ H R => te σ H fun v H1 => ∃ z, v = .str z ∧ z.length ≤ sizeLine ∧ R (Irz z) H1
section
variable {X : Cx} {tg : Expr}
theorem pi_revS {e : Expr} {te : TE} {p pos : Pos} (hg : Gl X "reversed") (hm : X.mg "reversed" = none) (he : PE X e te) (hs : starEach [e] X.env = (false, eval e X.env) :: starEach [] X.env := by rfl) : PI X tg (.Call (.Name "reversed" p) [e] [] pos) (iRevS te) := by
  refine ⟨fun pins s σ H R I h => ?_⟩
  refine Call_ (ld_blt I hg hm boot_reversed (callWith_type1 (args_cons (thn (he.run pins s σ H _ I h) fun u s1 ⟨v, H1, I1, r1, z, ez, hz, q⟩ => args_nil ?_) hs) hs rfl))
  subst ez
  obtain ⟨t, rfl⟩ := r1
  have hn := line63
  have hz2 : (z.length : Int) < 2 ^ 63 := by omega
  refine rz_call hz2 fun tk => rz_iter (z := z) (t := t) (i := (z.length : Int) - 1) ⟨_, Heap.get?_push_size _ rfl, rfl, rfl⟩ ?_
  refine pi_one (tk := tk) I1 _ (turn_rz _ z t hz2) ⟨Nat.zero_le _, ?_⟩ q
  have e1 : (z.cps.size : Int) - 1 - ((0 : Nat) : Int) = (z.length : Int) - 1 := by
    show (z.length : Int) - 1 - 0 = _
    omega
  rw [e1]
  exact ⟨_, Heap.get?_push_size _ rfl, rfl, rfl⟩
end
end Zx

/-! Zx8: int(text, 2). -/
namespace Zx
open PySem PySem.Calls PySem.NumText L2 PyProof.Rows
def Bit (c : Nat) : Prop := c = 48 ∨ c = 49
/-- what noughts and ones tell -/
def binV (cs : List Nat) : Nat := cs.foldl (fun n c => n * 2 + (c - 48)) 0
theorem bit_step {d : Array Nat} {b : Bool} {c : Nat} (h : Bit c) : PySem.NumText.step 2 (d, b) c = some (d.push (c - 48), true) := by
  rcases h with rfl | rfl <;> rfl
theorem bit_fold : ∀ (cs : List Nat) (d : Array Nat) (b : Bool), (∀ c ∈ cs, Bit c) → cs ≠ [] ∨ b = true → cs.foldlM (PySem.NumText.step 2) (d, b) = some (cs.foldl (fun e c => e.push (c - 48)) d, true)
  | [], d, b, _, hb => by
    rcases hb with hb | rfl
    · exact absurd rfl hb
    · rfl
  | c :: cs, d, b, h, _ => by
    rw [List.foldlM_cons, bit_step (h c (by simp))]
    exact bit_fold cs _ true (fun x hx => h x (by simp [hx])) (.inr rfl)
theorem bit_push : ∀ (cs : List Nat) (d : Array Nat), (cs.foldl (fun e c => e.push (c - 48)) d).foldl (fun n k => n * 2 + k) 0 = cs.foldl (fun n c => n * 2 + (c - 48)) (d.foldl (fun n k => n * 2 + k) 0)
  | [], _ => rfl
  | c :: cs, d => by
    rw [List.foldl_cons, List.foldl_cons, bit_push cs, Array.foldl_push]
theorem bit_digits {cs : List Nat} (h : ∀ c ∈ cs, Bit c) (hn : cs ≠ []) : digits? 2 cs = some (cs.foldl (fun e c => e.push (c - 48)) #[]) := by
  unfold digits?
  rw [bit_fold cs #[] false h (.inl hn)]
  rfl
theorem bit_drop {cs : List Nat} (h : ∀ c ∈ cs, Bit c) : cs.dropWhile blank = cs := by
  cases cs with
  | nil => rfl
  | cons c cs =>
    rw [List.dropWhile_cons_of_neg]
    rcases h c (by simp) with rfl | rfl <;> decide
theorem bit_sign {cs : List Nat} (h : ∀ c ∈ cs, Bit c) : sign cs = (false, cs) := by
  cases cs with
  | nil => rfl
  | cons c cs => rcases h c (by simp) with rfl | rfl <;> rfl
theorem bit_based {cs : List Nat} (h : ∀ c ∈ cs, Bit c) : based 2 cs = (2, false, cs) := by
  match cs, h with
  | [], _ => rfl
  | [c], h => rcases h c (by simp) with rfl | rfl <;> rfl
  | c :: d :: r, h => rcases h c (by simp) with rfl | rfl <;> rcases h d (by simp) with rfl | rfl <;> rfl
theorem bit_read {cs : List Nat} (h : ∀ c ∈ cs, Bit c) (hn : cs ≠ []) : (int_private% "readNumeral") 0 2 cs = (int_private% "Numeral.value") ((binV cs : Nat) : Int) := by
  have hr : ∀ c ∈ cs.reverse, Bit c := fun c hc => h c (List.mem_reverse.mp hc)
  rw [readNumeral_eq, bit_drop h, bit_sign h]
  dsimp only
  rw [bit_based h]
  dsimp only
  rw [bit_drop hr, List.reverse_reverse, bit_digits h hn]
  unfold judge
  dsimp only
  rw [bit_push]
  rfl
theorem bit_seen {x : Str} (h : ∀ c ∈ x.cps.toList, Bit c) : numTextOf x = x.cps.toList ∧ numSeenOf x = x.cps.toList := by
  have e : numTextOf x = x.cps.toList := if_pos (by
    rw [← Array.all_toList]
    refine List.all_eq_true.mpr fun c hc => ?_
    rcases h c hc with rfl | rfl <;> decide)
  refine ⟨e, ?_⟩
  show List.takeWhile _ (numTextOf x) = _
  rw [e]
  refine takeWhile_all fun c hc => ?_
  rcases h c hc with rfl | rfl <;> decide
structure Safe (p : Prop) : Prop where
  go : p
theorem gives_bin {x : PySem.Str} {u t : Tok} (hl : x.length ≤ 640) (h : ∀ c ∈ x.cps.toList, Bit c) (hn : x.cps.toList ≠ []) :
    Gives (Builtin.«int.__new__» ⟨[.type "int", .str x u, .int 2 t], []⟩) (.int ((binV x.cps.toList : Nat) : Int)) :=
  .of_wp fun M A E s Q hq => by
    obtain ⟨hp, g, d, tk, os⟩ := s
    have k1 := F.conv_sub_int
    have k2 := F.madeHere_int
    have k3 : typeOf (.str x u) = pure (.type "str") := rfl
    have kk : Safe ((numSeenOf x).length ≤ 640 ∧ (int_private% "readNumeral") 0 2 (numSeenOf x) = (int_private% "Numeral.value") ((binV x.cps.toList : Nat) : Int) ∧ ((numSeenOf x).length == (numTextOf x).length) = true) := by
      obtain ⟨e1, e2⟩ := bit_seen h
      rw [e1, e2]
      exact ⟨by rw [Array.length_toList]; exact hl, bit_read h hn, by simp⟩
    clear hl hn h
    repeat (any_goals (first
      | assumption
      | ((with_reducible show wpAny _ _ ((int_private% "intFromText") _ _ _) _ _ _); refine Hx.wp_textB kk.go.1 kk.go.2.1 kk.go.2.2 ?_)
      | wp_step))
    all_goals first | exact ⟨_, rfl, hq⟩ | skip
/-- int(text of noughts and ones, 2) -/
def rIntB : List V → Hp → VK → Prop := fun xs H Q => ∃ x : Str, xs = [.str x, .int 2] ∧ x.cps.toList ≠ [] ∧ x.length ≤ 640 ∧ (∀ c ∈ x.cps.toList, Bit c) ∧ Q (.int ((binV x.cps.toList : Nat) : Int)) H
theorem call_intB {X : Cx} : CallR X (.type "int") rIntB := by
  intro pins s σ H xs us Q I r h
  obtain ⟨x, rfl, hn, hl, hb, q⟩ := h
  obtain ⟨u, v, rfl, r1, r2⟩ := vals2 r
  obtain ⟨t1, rfl⟩ := r1
  obtain ⟨t2, rfl⟩ := r2
  exact callType_new F.called_int F.newNe_int (Hx.typeCall_int_2 _ _) (Hx.newCall_int_2 _ _) (fun obj => F.initArgs_range_2 obj _ _) F.entry_int_new (gives_bin hl hb hn).meets
    (show (Made.int ((binV x.cps.toList : Nat) : Int)).post _ s from ⟨rfl, .int ((binV x.cps.toList : Nat) : Int), H, I.tok _, ⟨_, rfl⟩, q⟩)
end Zx

/-! Zx9: f"{n:b}". -/
namespace Zx
open PySem PySem.Calls PySem.W L2 PyProof.Rows
open Builtin Builtin.Str Builtin.Int
/-- the number's noughts and ones -/
def binS (n : Nat) : PySem.Str := ⟨((Nat.toDigits 2 n).map Char.toNat).toArray⟩
theorem ret_t {M : Model} {A : Around} {E : Value → Shared → Prop} {s : Shared} {X T : PySem.Str} {Q : PySem.Fin → Shared → Prop} (e : X = T) (h : T.length ≤ sizeLine) (q : ∀ t k, Q (.done (.ret (.str T t))) { s with toks := k }) : wpAny M A (retStr X) Q E s :=
  KXf.ret_text e (by rw [e]; exact h) q
theorem meets_b (a : Int) (t u : Tok) (h0 : 0 ≤ a) (hn : (binS a.natAbs).length ≤ sizeLine) : Meets («int.__format__» ⟨[.int a t, .str ⟨#[98]⟩ u], []⟩) (fun _ R s => ∀ t' k, R (.ok (.ret (.str (binS a.natAbs) t'))) { s with toks := k }) := by
  apply KPc.meets_of
  intro _ _ _ _ _ _ hq
  unfold Builtin.«int.__format__»
  refine wpAny_bind (wpAny_of_eq (a := (_, _)) rfl ?_)
  refine wpAny_bind (wpAny_of_eq (a := _) rfl ?_)
  kxf_if
  refine wpAny_bind (wpAny_typeNameOf (T := "str") (typeIs_str _ _ _) (by decide) fun _ => ?_)
  refine wpAny_bind (wpAny_of_eq (a := some _) rfl ?_)
  kxf_if
  kxf_if
  refine wpAny_bind (wpAny_typeNameOfCut_int ?_)
  have e1 : Float.parseFormatSpec (⟨#[98]⟩ : PySem.Str).cps.toList "int" 62 = .ok { align := 62, type := some 98 } := by kernel_rfl
  rw [e1]
  show wpAny _ _ (if _ then _ else _) _ _ _
  rw [if_pos (by decide +kernel)]
  wp_delta
  show wpAny _ _ (retStr _) _ _ _
  have ed : ((Nat.toDigits 2 a.natAbs).map Char.toNat).isEmpty = false := by
    rw [List.isEmpty_map]
    exact List.isEmpty_eq_false_iff.mpr Nat.toDigits_ne_nil
  refine ret_t ?_ hn hq
  rw [decide_eq_false (show ¬ a < 0 by omega)]
  have em : (List.map (fun c => (if (({ align := 62, type := some 98 } : Float.FormatSpec).type.getD (if ((⟨#[98]⟩ : PySem.Str).cps.back? == some 0) = true then 0 else 100) == 88) = true then c.toUpper else c).toNat) (Nat.toDigits 2 a.natAbs)) = (Nat.toDigits 2 a.natAbs).map Char.toNat := rfl
  rw [em]
  unfold binS
  generalize (Nat.toDigits 2 a.natAbs).map Char.toNat = D at ed ⊢
  cases D with
  | nil => cases ed
  | cons x xs =>
  conv => lhs; whnf
  clear em e1 hq hn
  simp
  all_goals omega
/-- f"{e:b}" -/
def tFmtB (te : TE) : TE := fun σ H Q => te σ H fun v H1 => ∃ a : Int, v = .int a ∧ 0 ≤ a ∧ (binS a.natAbs).length ≤ sizeLine ∧ Q (.str (binS a.natAbs)) H1
section
variable {X : Cx}
theorem pe_fmtB {e es : Expr} {te : TE} {p p2 : Pos} (he : PE X e te) (hs : PE X es (tC (.str ⟨#[98]⟩))) : PE X (.JoinedStr [.FormattedValue e (-1) (some es) p] p2) (tFmtB te) := by
  refine pe_joined1 ⟨fun pins s σ H Q I h => ?_⟩
  refine wpAny_FormattedValue_spec (thn (he.run pins s σ H _ I h) fun v s1 ⟨y, H1, I1, r1, a, ey, h0, hn, q⟩ => ?_)
  subst ey
  obtain ⟨t, rfl⟩ := r1
  refine thn (hs.run pins s1 σ H1 (fun z H2 => z = .str ⟨#[98]⟩ ∧ H2 = H1) I1 ⟨rfl, rfl⟩) fun v2 s2 ⟨z, H2, I2, r2, ez, eH⟩ => ?_
  subst ez eH
  obtain ⟨t2, rfl⟩ := r2
  refine ⟨_, t2, rfl, KXf.field_int (spec' := ⟨#[98]⟩) (y := binS a.natAbs) rfl (by decide) (by decide) (fun u => meets_b a t u h0 hn) fun t' k => ?_⟩
  exact ⟨.str (binS a.natAbs), H2, I2.tok _, ⟨_, rfl⟩, q⟩
end
end Zx

/-! Zx10: zip(a, b, strict=True) over two lists of one length: one step, the end. -/
namespace Zx
open PySem
abbrev ZipS (g : Heap) (z TI TO : Addr) (free : Value) : Prop := g.get? z = some ⟨.type "zip", none, .fields #[free, .bool false, .bool true, .ref TI, .ref TO], #[]⟩
section
variable {prog : Program} {w : World} {A : Around} {E : Value → Shared → Prop} {s : Shared}
theorem nx_item {it l : Addr} {k : Nat} {xs : Array Value} {x : Value} {Q : Option Value → Shared → Prop} (h : s.heap.IsListIter it l k) (hl : s.heap.IsList l xs) (hx : xs[k]? = some x)
    (q : ∀ g, g.IsListIter it l (k + 1) → Heap.SameBut it s.heap g → Q (some x) { s with heap := g }) : wpAny (model prog w) A (Builtin.SmallTypes.nextOrEnd (.ref it)) Q E s := by
  unfold Builtin.SmallTypes.nextOrEnd
  exact wpAny_bind (wpAny_attempt (wpAny_nextOf_list_item h hl hx fun g a b => wpAny_pure (q g a b)))
theorem nx_end {it l : Addr} {k : Nat} {xs : Array Value} {Q : Option Value → Shared → Prop} (hh : A.handled = none) (h : s.heap.IsListIter it l k) (hl : s.heap.IsList l xs) (hx : xs[k]? = none)
    (q : ∀ g, Heap.ExtBut it s.heap g → Q none { s with heap := g }) : wpAny (model prog w) A (Builtin.SmallTypes.nextOrEnd (.ref it)) Q E s := by
  unfold Builtin.SmallTypes.nextOrEnd
  refine wpAny_bind (wpAny_attempt (wpAny_nextOf_list_end hh h hl hx fun g e eb ⟨o, ho, hc⟩ => ?_))
  exact wpAny_bind (wpAny_isInstance (T := "StopIteration") (b := true) ⟨o, ho, hc⟩ isSubtype_stop (wpAny_pure (q g eb)))
theorem stop_raised {α : Type} {Q : α → Shared → Prop} (hh : A.handled = none) (q : ∀ g e, (∀ c o, s.heap.get? c = some o → g.get? c = some o) → (∃ o, g.get? e = some o ∧ o.cls = .type "StopIteration") → E (.ref e) { s with heap := g }) :
    wpAny (model prog w) A (Builtin.SmallTypes.stopIteration : Sem α) Q E s := by
  unfold Builtin.SmallTypes.stopIteration
  refine wpAny_bind ?_
  simp only [newExc, newTuple]
  refine wpAny_bind (wpAny_newObj_type ?_ (by size_fits))
  refine wpAny_bind (m := firstArgMember _ _) (wpAny_of_eq (a := Value.none) (by first | rfl | (simp only [firstArgMember]; rfl)) (wpAny_newObj_type ?_ (by size_fits)))
  simp only [raiseNew]
  refine wpAny_bind (wpAny_handled ?_)
  rw [hh]
  refine wpAny_bind (wpAny_pure (wpAny_throw (q _ _ (fun c o e => Heap.get?_push_of_some _ (Heap.get?_push_of_some _ e)) ⟨_, Heap.get?_push_size _ rfl, rfl⟩)))
theorem zs_item {z TI TO i1 i2 l1 l2 : Addr} {k : Nat} {xs ys : Array Value} {x y a b : Value} {Q : Value → Shared → Prop} (D : ZipApart z TI TO i1 i2 l1 l2)
    (hz : ZipS s.heap z TI TO .none) (hI : IsPair s.heap TI (.ref i1) (.ref i2)) (hO : IsPair s.heap TO a b) (p1 : s.heap.IsListIter i1 l1 k) (p2 : s.heap.IsListIter i2 l2 k) (q1 : s.heap.IsList l1 xs) (q2 : s.heap.IsList l2 ys) (hx : xs[k]? = some x) (hy : ys[k]? = some y)
    (fin : ∀ g, ZipS g z TI TO (rawInt s.heap.objs.size) → IsPair g TO x y → g.IsListIter i1 l1 (k + 1) → g.IsListIter i2 l2 (k + 1) → IsPair g s.heap.objs.size x y → g.objs.size = s.heap.objs.size + 1 →
      (∀ c o, c ≠ z → c ≠ TO → c ≠ i1 → c ≠ i2 → s.heap.get? c = some o → g.get? c = some o) → Q (.ref s.heap.objs.size) { s with heap := g }) :
    wpAny (model prog w) A (Builtin.«zip.__next__» ⟨[.ref z], []⟩) (fun fi t => ∃ v, fi = .done (.ret v) ∧ Q v t) E s := by
  show wpAny _ _ (field (.ref z) 2 >>= _) _ _ _
  refine wpAny_bind (wpAny_field hz rfl (x := .bool true) rfl ?_)
  show wpAny _ _ (field (.ref z) 3 >>= _) _ _ _
  refine wpAny_bind (wpAny_field hz rfl (x := .ref TI) rfl (wpAny_bind (wpAny_seqItems hI rfl ?_)))
  show wpAny _ _ (Builtin.SmallTypes.ownedTupleIsFree (.ref z) >>= _) _ _ _
  refine wpAny_bind ?_
  unfold Builtin.SmallTypes.ownedTupleIsFree
  refine wpAny_bind (wpAny_field hz rfl (x := .none) rfl (wpAny_pure ?_))
  simp only [if_true]
  refine wpAny_bind (wpAny_rule (wpAny_bind (wpAny_field hz rfl (x := .ref TO) rfl (wpAny_bind (wpAny_setField_rec hz (by simp) fun g1 z1 b1 => ?_)))))
  replace z1 : ZipS g1 z TI TO .ellipsis := z1
  refine wpAny_bind ?_
  simp only [List.zipIdx_cons, List.zipIdx_nil, List.forIn_cons, List.forIn_nil]
  refine wpAny_bind (wpAny_bind (wpAny_onRaise ?_))
  show wpAny _ _ (Builtin.SmallTypes.nextOrEnd (.ref i1)) _ _ _
  refine nx_item (p1.extBut b1.extBut D.i1z) (q1.extBut b1.extBut D.l1z) hx fun g2 p1' b2 => ?_
  have hO2 : IsPair g2 TO a b := b2.extBut _ _ D.TOi1 (b1.extBut _ _ D.TOz hO)
  refine wpAny_bind (wpAny_seqItems hO2 rfl (wpAny_bind (wpAny_updateSeq_pair hO2 fun g3 hO3 b3 => ?_)))
  replace hO3 : IsPair g3 TO x b := hO3
  refine wpAny_bind (wpAny_letGo (wpAny_pure (wpAny_bind (wpAny_bind (wpAny_onRaise ?_)))))
  show wpAny _ _ (Builtin.SmallTypes.nextOrEnd (.ref i2)) _ _ _
  refine nx_item (((p2.extBut b1.extBut D.i2z).extBut b2.extBut D.i12.symm).extBut b3.extBut D.TOi2.symm) (((q2.extBut b1.extBut D.l2z).extBut b2.extBut D.l2i1).extBut b3.extBut D.l2TO) hy fun g4 p2' b4 => ?_
  have hO4 : IsPair g4 TO x b := b4.extBut _ _ D.TOi2 hO3
  refine wpAny_bind (wpAny_seqItems hO4 rfl (wpAny_bind (wpAny_updateSeq_pair hO4 fun g5 hO5 b5 => ?_)))
  replace hO5 : IsPair g5 TO x y := hO5
  refine wpAny_bind (wpAny_letGo (wpAny_pure (wpAny_pure ?_)))
  refine wpAny_bind (wpAny_seqItems hO5 rfl (wpAny_bind (wpAny_newTuple ?_)))
  have e5 : g5.objs.size = s.heap.objs.size := by rw [b5.1, b4.1, b3.1, b2.1, b1.1]
  have z5 : ZipS g5 z TI TO .ellipsis := b5.extBut _ _ D.TOz.symm (b4.extBut _ _ D.i2z.symm (b3.extBut _ _ D.TOz.symm (b2.extBut _ _ D.i1z.symm z1)))
  have k5 : ∀ c o, c ≠ z → c ≠ TO → c ≠ i1 → c ≠ i2 → s.heap.get? c = some o → g5.get? c = some o := fun c o n1 n2 n3 n4 e =>
    b5.extBut _ _ n2 (b4.extBut _ _ n4 (b3.extBut _ _ n2 (b2.extBut _ _ n3 (b1.extBut _ _ n1 e))))
  have r1 : g5.IsListIter i1 l1 (k + 1) := ((p1'.extBut b3.extBut D.TOi1.symm).extBut b4.extBut D.i12).extBut b5.extBut D.TOi1.symm
  have r2 : g5.IsListIter i2 l2 (k + 1) := p2'.extBut b5.extBut D.TOi2.symm
  have zlt : z < g5.objs.size := Heap.lt_size z5
  show wpAny _ _ (Builtin.SmallTypes.ownedTupleHandOut (.ref z) (.ref g5.objs.size) >>= _) _ _ _
  refine wpAny_bind ?_
  unfold Builtin.SmallTypes.ownedTupleHandOut
  have z6 : ZipS (g5.push { cls := .type "tuple", data := .seq #[x, y] }) z TI TO .ellipsis := Heap.get?_push_of_some _ z5
  refine wpAny_bind (wpAny_setField_rec z6 (by simp) fun g7 z7 b7 => ?_)
  replace z7 : ZipS g7 z TI TO (rawInt g5.objs.size) := z7
  refine wpAny_setField_rec z7 (by simp) fun g8 z8 b8 => ?_
  replace z8 : ZipS g8 z TI TO (rawInt g5.objs.size) := z8
  have up : ∀ c o, c ≠ z → g5.get? c = some o → g8.get? c = some o := fun c o n e => b8.extBut _ _ n (b7.extBut _ _ n (Heap.get?_push_of_some _ e))
  have t8 : IsPair g8 g5.objs.size x y := b8.extBut _ _ (Nat.ne_of_gt zlt) (b7.extBut _ _ (Nat.ne_of_gt zlt) (Heap.get?_push_size _ rfl))
  have e8 : g8.objs.size = g5.objs.size + 1 := by rw [b8.1, b7.1, Heap.size_push]
  rw [e5] at z8 t8 e8
  refine wpAny_pure ⟨_, rfl, ?_⟩
  show Q (.ref g5.objs.size) _
  rw [e5]
  exact fin g8 z8 (up _ _ D.TOz hO5) (r1.at fun o e => up _ o D.i1z e) (r2.at fun o e => up _ o D.i2z e) t8 e8 fun c o n1 n2 n3 n4 e => up c o n1 (k5 c o n1 n2 n3 n4 e)
theorem zs_end {z TI TO i1 i2 l1 l2 : Addr} {k : Nat} {xs ys : Array Value} {a b : Value} {Q : Fin → Shared → Prop} (hh : A.handled = none) (D : ZipApart z TI TO i1 i2 l1 l2)
    (hz : ZipS s.heap z TI TO .none) (hI : IsPair s.heap TI (.ref i1) (.ref i2)) (hO : IsPair s.heap TO a b) (p1 : s.heap.IsListIter i1 l1 k) (p2 : s.heap.IsListIter i2 l2 k) (q1 : s.heap.IsList l1 xs) (q2 : s.heap.IsList l2 ys) (hx : xs[k]? = none) (hy : ys[k]? = none)
    (fin : ∀ g e, (∀ c o, c ≠ z → c ≠ TO → c ≠ i1 → c ≠ i2 → s.heap.get? c = some o → g.get? c = some o) → (∃ o, g.get? e = some o ∧ o.cls = .type "StopIteration") → E (.ref e) { s with heap := g }) :
    wpAny (model prog w) A (Builtin.«zip.__next__» ⟨[.ref z], []⟩) Q E s := by
  show wpAny _ _ (field (.ref z) 2 >>= _) _ _ _
  refine wpAny_bind (wpAny_field hz rfl (x := .bool true) rfl ?_)
  show wpAny _ _ (field (.ref z) 3 >>= _) _ _ _
  refine wpAny_bind (wpAny_field hz rfl (x := .ref TI) rfl (wpAny_bind (wpAny_seqItems hI rfl ?_)))
  show wpAny _ _ (Builtin.SmallTypes.ownedTupleIsFree (.ref z) >>= _) _ _ _
  refine wpAny_bind ?_
  unfold Builtin.SmallTypes.ownedTupleIsFree
  refine wpAny_bind (wpAny_field hz rfl (x := .none) rfl (wpAny_pure ?_))
  simp only [if_true]
  refine wpAny_bind (wpAny_rule (wpAny_bind (wpAny_field hz rfl (x := .ref TO) rfl (wpAny_bind (wpAny_setField_rec hz (by simp) fun g1 z1 b1 => ?_)))))
  replace z1 : ZipS g1 z TI TO .ellipsis := z1
  refine wpAny_bind ?_
  simp only [List.zipIdx_cons, List.zipIdx_nil, List.forIn_cons, List.forIn_nil]
  refine wpAny_bind (wpAny_bind (wpAny_onRaise ?_))
  show wpAny _ _ (Builtin.SmallTypes.nextOrEnd (.ref i1)) _ _ _
  refine nx_end hh (p1.extBut b1.extBut D.i1z) (q1.extBut b1.extBut D.l1z) hx fun g2 b2 => ?_
  have z2 : ZipS g2 z TI TO .ellipsis := b2 _ _ D.i1z.symm z1
  refine wpAny_bind (wpAny_setField_rec z2 (by simp) fun g3 z3 b3 => ?_)
  refine wpAny_bind (wpAny_bind ?_)
  show wpAny _ _ (forIn [(Value.ref i2, 1)] PUnit.unit _) _ _ _
  simp only [List.forIn_cons, List.forIn_nil]
  refine wpAny_bind (wpAny_bind (nx_end hh (((p2.extBut b1.extBut D.i2z).extBut b2 D.i12.symm).extBut b3.extBut D.i2z) (((q2.extBut b1.extBut D.l2z).extBut b2 D.l2i1).extBut b3.extBut D.l2z) hy fun g4 b4 => ?_))
  rw [if_neg (by decide)]
  refine wpAny_pure (wpAny_pure (wpAny_bind (wpAny_rule (stop_raised hh fun g5 e k5 he => ?_))))
  exact fin g5 e (fun c o n1 _ n3 n4 w => k5 _ _ (b4 _ _ n4 (b3.extBut _ _ n1 (b2 _ _ n3 (b1.extBut _ _ n1 w))))) he
theorem ps_item {z TI TO i1 i2 l1 l2 : Addr} {k : Nat} {xs ys : Array Value} {x y a b : Value} {Q : Option Value → Shared → Prop} (D : ZipApart z TI TO i1 i2 l1 l2)
    (hz : ZipS s.heap z TI TO .none) (hI : IsPair s.heap TI (.ref i1) (.ref i2)) (hO : IsPair s.heap TO a b) (p1 : s.heap.IsListIter i1 l1 k) (p2 : s.heap.IsListIter i2 l2 k) (q1 : s.heap.IsList l1 xs) (q2 : s.heap.IsList l2 ys) (hx : xs[k]? = some x) (hy : ys[k]? = some y)
    (fin : ∀ g, ZipS g z TI TO (rawInt s.heap.objs.size) → IsPair g TO x y → g.IsListIter i1 l1 (k + 1) → g.IsListIter i2 l2 (k + 1) → IsPair g s.heap.objs.size x y → g.objs.size = s.heap.objs.size + 1 →
      (∀ c o, c ≠ z → c ≠ TO → c ≠ i1 → c ≠ i2 → s.heap.get? c = some o → g.get? c = some o) → Q (some (.ref s.heap.objs.size)) { s with heap := g }) :
    wpAny (model prog w) A (pyNext (.ref z)) Q E s := by
  have ty : s.TypeIs (.ref z) "zip" := ⟨_, hz, rfl⟩
  unfold pyNext
  refine wpAny_bind (wpAny_attempt (wpAny_callSpecial?_slot (name := Str.ofString "__next__") ty F.slot_zip_next ?_))
  exact wpAny_call_entry F.slot_zip_next ty F.entry_zip_next (zs_item D hz hI hO p1 p2 q1 q2 hx hy fun g a1 a2 a3 a4 a5 a6 a7 => wpAny_pure (fin g a1 a2 a3 a4 a5 a6 a7)) (F.args_zip_next_1 _)
theorem ps_end {z TI TO i1 i2 l1 l2 : Addr} {k : Nat} {xs ys : Array Value} {a b : Value} {Q : Option Value → Shared → Prop} (hh : A.handled = none) (D : ZipApart z TI TO i1 i2 l1 l2)
    (hz : ZipS s.heap z TI TO .none) (hI : IsPair s.heap TI (.ref i1) (.ref i2)) (hO : IsPair s.heap TO a b) (p1 : s.heap.IsListIter i1 l1 k) (p2 : s.heap.IsListIter i2 l2 k) (q1 : s.heap.IsList l1 xs) (q2 : s.heap.IsList l2 ys) (hx : xs[k]? = none) (hy : ys[k]? = none)
    (fin : ∀ g, (∀ c o, c ≠ z → c ≠ TO → c ≠ i1 → c ≠ i2 → s.heap.get? c = some o → g.get? c = some o) → Q none { s with heap := g }) : wpAny (model prog w) A (pyNext (.ref z)) Q E s := by
  have ty : s.TypeIs (.ref z) "zip" := ⟨_, hz, rfl⟩
  unfold pyNext
  refine wpAny_bind (wpAny_attempt (wpAny_callSpecial?_slot (name := Str.ofString "__next__") ty F.slot_zip_next ?_))
  refine wpAny_call_entry F.slot_zip_next ty F.entry_zip_next (zs_end hh D hz hI hO p1 p2 q1 q2 hx hy fun g e k5 ⟨o, ho, hc⟩ => ?_) (F.args_zip_next_1 _)
  exact wpAny_bind (wpAny_isInstance (T := "StopIteration") (b := true) ⟨o, ho, hc⟩ isSubtype_stop (wpAny_pure (fin _ k5)))
theorem zs_go {elts : List Expr} {kk : Nat} {pos : Pos} {z TI TO t : Addr} {Q : Unit → Shared → Prop} (hz : ZipS s.heap z TI TO (rawInt t)) (fin : ∀ g, ZipS g z TI TO .none → Heap.SameBut z s.heap g → Q () { s with heap := g }) :
    wpAny (model prog w) A (letOwnedTupleGo (.Tuple elts kk pos) (.ref z) (.ref t)) Q E s := by
  unfold letOwnedTupleGo
  refine wpAny_bind (wpAny_load hz ?_)
  show wpAny _ _ (if (["enumerate", "zip", "dict_itemiterator", "dict_reverseitemiterator", "odict_iterator", "itertools.zip_longest", "itertools.pairwise"].contains "zip" && (#[rawInt t, .bool false, .bool true, .ref TI, .ref TO] : Array Value)[0]? == some (rawInt t)) = true then _ else _) Q E s
  rw [if_pos (by simp)]
  refine wpAny_bind (wpAny_rule ?_)
  show wpAny _ _ (setField (.ref z) 0 .none) Q E s
  exact wpAny_setField_rec hz (by simp) fun g h1 h2 => fin g h1 h2
theorem zs_iter {z TI TO : Addr} {f0 : Value} {Q : Value → Shared → Prop} (hz : ZipS s.heap z TI TO f0) (q : Q (.ref z) s) : wpAny (model prog w) A (pyIter (.ref z)) Q E s := by
  have ty : s.TypeIs (.ref z) "zip" := ⟨_, hz, rfl⟩
  refine wpAny_pyIter_slot ty F.slot_zip_iter (wpAny_call_entry F.slot_zip_iter ty F.entry_zip_iter ?_ (F.args_zip_iter_1 _))
  exact wpAny_pure ⟨_, rfl, "zip", _, ty, F.slot_zip_next.lookup, q⟩
end
end Zx

/-! Zx11: zip(a, b, strict=True): the call. -/
namespace Zx
open PySem
theorem tc_strict (a b c : Value) : checkTypeCall "zip" ⟨[a, b], [(Str.ofString "strict", c)]⟩ = pure () := by kernel_rfl
theorem nc_strict (a b c : Value) : checkBuiltinCall "zip.__new__" ⟨[.type "zip", a, b], [(Str.ofString "strict", c)]⟩ = pure () := by kernel_rfl
theorem ao_strict (o a b c : Value) : argsOk "object.__init__" ⟨[o, a, b], [(Str.ofString "strict", c)]⟩ := by unfold argsOk; kernel_rfl
abbrev zh (g : Heap) (a b : Addr) : Heap := zipH4 g a b
abbrev zh5 (g : Heap) (a b : Addr) : Heap := (zipH4 g a b).push ⟨.type "zip", none, .fields #[.none, .bool false, .bool true, .ref (zipH2 g a b).objs.size, .ref (zipH3 g a b).objs.size], #[]⟩
theorem made_strict (a b : Addr) (xs ys : Array Value) : Meets (Builtin.«zip.__new__» ⟨[.type "zip", .ref a, .ref b], [(Str.ofString "strict", .bool true)]⟩) (fun _ R s => s.heap.IsList a xs ∧ s.heap.IsList b ys ∧
    R (.ok (.ret (.ref (zh s.heap a b).objs.size))) { s with heap := zh5 s.heap a b }) :=
  .of_wp fun prog w A R s h => by
    obtain ⟨hp, g, d, tk, os⟩ := s
    obtain ⟨h1, h2, h⟩ := h
    have hsub := sub_zip
    have L1 : Heap.IsList (Shared.heap ⟨hp, g, d, tk, os⟩) a xs := h1
    have L2 : Heap.IsList (Shared.heap ⟨hp.push ⟨.type "list_iterator", none, .fields #[.ref a, .int 0 0], #[]⟩, g, d, tk, os⟩) b ys := Heap.IsList.push h2 _
    have w1 : (Str.ofString "strict" != ("strict" : Str)) = false := by decide +kernel
    have w2 : (Str.ofString "strict" == ("strict" : Str)) = true := by decide +kernel
    wp_walk using wpAny_pyIter_list L1, wpAny_pyIter_list L2
    exact ⟨_, rfl, h⟩
end Zx

/-! Zx12: zip(a, b, strict=True): walked over. -/
namespace Zx
open PySem PySem.Spec PyProof.Rows L2
section
variable {prog : Program} {w : World} {A : Around} {E : Value → Shared → Prop} {s : Shared}
theorem call_strict {a b : Addr} {xs ys : Array Value} {Q : Value → Shared → Prop} (h1 : s.heap.IsList a xs) (h2 : s.heap.IsList b ys)
    (fin : ∀ g, ZipS g (s.heap.objs.size + 4) (s.heap.objs.size + 2) (s.heap.objs.size + 3) .none → IsPair g (s.heap.objs.size + 2) (.ref s.heap.objs.size) (.ref (s.heap.objs.size + 1)) → IsPair g (s.heap.objs.size + 3) .none .none →
      g.IsListIter s.heap.objs.size a 0 → g.IsListIter (s.heap.objs.size + 1) b 0 → (∀ c o, s.heap.get? c = some o → g.get? c = some o) → Q (.ref (s.heap.objs.size + 4)) { s with heap := g }) :
    wpAny (model prog w) A (call (.type "zip") [.ref a, .ref b] [(Str.ofString "strict", .bool true)]) Q E s := by
  refine callType_newKw F.called_zip (by decide) (tc_strict _ _ _) (nc_strict _ _ _) (fun o => ao_strict o _ _ _) F.entry_zip_new (made_strict a b xs ys) ⟨h1, h2, ?_⟩
  have n1 : (zipH1 s.heap a).objs.size = s.heap.objs.size + 1 := Heap.size_push ..
  have n2 : (zipH2 s.heap a b).objs.size = s.heap.objs.size + 2 := by rw [Heap.size_push, n1]
  have n3 : (zipH3 s.heap a b).objs.size = s.heap.objs.size + 3 := by rw [Heap.size_push, n2]
  have n4 : (zipH4 s.heap a b).objs.size = s.heap.objs.size + 4 := by rw [Heap.size_push, n3]
  have u5 : (zh5 s.heap a b).get? (zipH4 s.heap a b).objs.size = some _ := Heap.get?_push_size _ rfl
  have up : ∀ c o, (zipH4 s.heap a b).get? c = some o → (zh5 s.heap a b).get? c = some o := fun c o e => Heap.get?_push_of_some _ e
  have u4 := up (zipH3 s.heap a b).objs.size _ (Heap.get?_push_size _ rfl)
  have u3 := up (zipH2 s.heap a b).objs.size _ (Heap.get?_push_of_some _ (Heap.get?_push_size _ rfl))
  have u2 := up (zipH1 s.heap a).objs.size _ (Heap.get?_push_of_some _ (Heap.get?_push_of_some _ (Heap.get?_push_size _ rfl)))
  have u1 := up s.heap.objs.size _ (Heap.get?_push_of_some _ (Heap.get?_push_of_some _ (Heap.get?_push_of_some _ (Heap.get?_push_size _ rfl))))
  show _ ∧ _
  rw [n2, n3, n4] at u5
  rw [n1, n2] at u3
  rw [n3] at u4
  rw [n1] at u2
  have e4 : (zh s.heap a b).objs.size = s.heap.objs.size + 4 := n4
  rw [e4]
  exact ⟨⟨_, u5, rfl⟩, fin _ u5 u3 u4 ⟨_, u1, rfl, rfl⟩ ⟨_, u2, rfl, rfl⟩ fun c o e => up c o (Heap.get?_push_of_some _ (Heap.get?_push_of_some _ (Heap.get?_push_of_some _ (Heap.get?_push_of_some _ e))))⟩
/-- a built-in class called with keywords -/
theorem with_kwT {M : Model} {B : Around} {R : Value → Shared → Prop} {t : Shared} {env : Env} {pos : Pos} {T : String} {e : Expr} {rest : List Expr} {kws : List Keyword} {Q : Value → Shared → Prop}
    (h : wpAny M B (spliced (backTo pos (starEach (e :: rest) env))) (fun vs t1 => wpAny M B (evalAll ((backToKw pos (keywordEach kws env)).map (·.2))) (fun ks t2 => wpAny M B (call (.type T) vs (((backToKw pos (keywordEach kws env)).filterMap (·.1)).zip ks)) Q R t2) R t1) R t)
    (he : backTo pos (starEach (e :: rest) env) = (false, eval e env) :: backTo pos (starEach rest env)) (hpl : (backTo pos (starEach (e :: rest) env)).any (·.1) = false) (hall : (backToKw pos (keywordEach kws env)).all (·.1.isSome) = true) (hno : (backToKw pos (keywordEach kws env)).any (·.1.isNone) = false) :
    wpAny M B (callWith pos (.type T) [] (backTo pos (starEach (e :: rest) env)) (backToKw pos (keywordEach kws env))) Q R t := by
  unfold callWith
  refine wpAny_bind (wpAny_holding ?_)
  rw [he] at h ⊢
  have h2 : wpAny M B (evalArgs (.type T) true ((false, eval e env) :: backTo pos (starEach rest env)) (backToKw pos (keywordEach kws env))) (fun a t1 => wpAny M B (call (.type T) ([] ++ a.pos) a.kw) Q R t1) R t := evalArgs_kwB hall h
  refine wpAny_mono h2 (fun a t1 h1 => wpAny_bind (wpAny_standAt ?_)) fun _ _ z => z
  rw [he] at hpl
  simp only [hpl, hno, Bool.or_false]
  refine wpAny_bind (wpAny_pure (wpAny_bind (wpAny_mono h1 (fun r t2 hr => wpAny_bind (wpAny_holding (wpAny_point (wpAny_pure hr)))) fun _ _ z => z)))
end
/-- the lists at a and b, of one length, item by item in new pairs -/
def ItS (K : PySem.W.Frag) (a b : Addr) : It := { Itz K a b with stop := fun i H => ∃ xs ys : List V, SqL K H a xs ∧ SqL K H b ys ∧ xs.length ≤ i ∧ ys.length ≤ i }
def StS (z TI TO i1 i2 a b : Addr) (i : Nat) (h : Heap) : Prop := ZipS h z TI TO .none ∧ IsPair h TI (.ref i1) (.ref i2) ∧ (∃ x y, IsPair h TO x y) ∧ h.IsListIter i1 a i ∧ h.IsListIter i2 b i
theorem StS.live {z TI TO i1 i2 a b c : Addr} {i : Nat} {h : Heap} (t : StS z TI TO i1 i2 a b i h) (hc : c ∈ [z, TI, TO, i1, i2]) : ∃ o, h.get? c = some o ∧ ∀ v, o.data ≠ .cell v := by
  obtain ⟨t1, t2, ⟨x, y, t3⟩, ⟨o4, e4, _, d4⟩, ⟨o5, e5, _, d5⟩⟩ := t
  simp only [List.mem_cons, List.not_mem_nil, or_false] at hc
  rcases hc with rfl | rfl | rfl | rfl | rfl
  · exact ⟨_, t1, fun v n => by cases n⟩
  · exact ⟨_, t2, fun v n => by cases n⟩
  · exact ⟨_, t3, fun v n => by cases n⟩
  · exact ⟨o4, e4, fun v n => by rw [d4] at n; cases n⟩
  · exact ⟨o5, e5, fun v n => by rw [d5] at n; cases n⟩
theorem out5 {z TI TO i1 i2 c : Addr} (n : c ∉ [z, TI, TO, i1, i2]) : c ≠ z ∧ c ≠ TI ∧ c ≠ TO ∧ c ≠ i1 ∧ c ≠ i2 := by
  simp only [List.mem_cons, List.not_mem_nil, or_false, not_or] at n
  exact n
theorem turnS {P : Program} {w : World} {K : PySem.W.Frag} {elts : List Expr} {kk : Nat} {tpos : Pos} {a b z TI TO i1 i2 : Addr} (D : ZipApart z TI TO i1 i2 a b) : Turn P w K (.Tuple elts kk tpos) (ItS K a b) [z, TI, TO, i1, i2] z (StS z TI TO i1 i2 a b) where
  mem := List.mem_cons_self
  obj := fun i h t c hc => t.live hc
  keep := fun i h h' ⟨t1, t2, ⟨x, y, t3⟩, t4, t5⟩ k => ⟨k z (by simp) _ t1, k TI (by simp) _ t2, ⟨x, y, k TO (by simp) _ t3⟩, t4.at fun o e => k i1 (by simp) o e, t5.at fun o e => k i2 (by simp) o e⟩
  item := by
    intro X eP eW eK hc i pins s σ H E I hf t hg
    subst eP eW eK
    have lv := fun c hc => t.live (c := c) hc
    obtain ⟨t1, t2, ⟨x0, y0, t3⟩, t4, t5⟩ := t
    obtain ⟨xs, ys, x, y, mx, my, hx, hy⟩ := hg
    obtain ⟨us, rx, px, _⟩ := I.list mx
    obtain ⟨vs, ry, py, _⟩ := I.list my
    obtain ⟨u, eu, ru⟩ := rx.get hx
    obtain ⟨v, ev, rv⟩ := ry.get hy
    have zl : z < s.heap.objs.size := Heap.lt_size t1
    refine ps_item D t1 t2 t3 t4 t5 px.isList py.isList (x := u) (y := v) (by simpa using eu) (by simpa using ev) fun g1 k1 k2 k3 k4 k5 k6 k7 => ⟨_, rfl, zs_go (s := { s with heap := g1 }) k1 fun g2 m1 sb => ?_⟩
    have pr : g2.get? s.heap.objs.size = some { cls := .type "tuple", data := .seq #[u, v] } := (sb.2 _ (Nat.ne_of_gt zl)).trans k5
    have ob : ObjOk X.prog X.w (upd H s.heap.objs.size (.tup [x, y])) g2 s.heap.objs.size (.tup [x, y]) := ⟨by show 2 ≤ sizeLine; decide, [u, v], .cons ru (.cons rv .nil), ⟨_, pr, rfl, _, rfl⟩⟩
    have J : L2.Inv X pins σ (upd H s.heap.objs.size (.tup [x, y])) { s with heap := g2 } := I.turnedNew (t' := s.toks) (ch := [z, TI, TO, i1, i2]) (fun c o n e => by
      obtain ⟨n1, n2, n3, n4, n5⟩ := out5 n
      exact (sb.2 c n1).trans (k7 c o n1 n3 n4 n5 e)) hf (Nat.le_refl _) ob
    refine ⟨.ref s.heap.objs.size, _, J, rfl, ⟨_, x, y, rfl, I.hok.fresh (Nat.le_refl _), rfl, fun l ml => by rw [I.list_inj ml mx]; exact hx, fun l ml => by rw [I.list_inj ml my]; exact hy⟩, ⟨m1, (sb.2 _ D.TIz).trans (k7 _ _ D.TIz D.TITO D.TIi1 D.TIi2 t2), ⟨u, v, (sb.2 _ D.TOz).trans k2⟩, k3.at fun o e => (sb.2 _ D.i1z).trans e, k4.at fun o e => (sb.2 _ D.i2z).trans e⟩, fun c hcm => ?_⟩
    obtain ⟨o, eo, _⟩ := lv c hcm
    rw [upd_ne (Nat.ne_of_lt (Heap.lt_size eo))]
    exact (hf c hcm).1
  done := by
    intro X eP eW eK hc i pins s σ H E I hf t hg
    subst eP eW eK
    obtain ⟨t1, t2, ⟨x0, y0, t3⟩, t4, t5⟩ := t
    obtain ⟨xs, ys, mx, my, e1, e2⟩ := hg
    obtain ⟨us, rx, px, _⟩ := I.list mx
    obtain ⟨vs, ry, py, _⟩ := I.list my
    have l1 := rx.length
    have l2 := ry.length
    refine ps_end (I.ok.hd hc) D t1 t2 t3 t4 t5 px.isList py.isList (by simp; omega) (by simp; omega) fun g k => ⟨rfl, I.turnedL (t' := s.toks) (ch := [z, TI, TO, i1, i2]) (fun c o n e => ?_) hf⟩
    obtain ⟨n1, n2, n3, n4, n5⟩ := out5 n
    exact k c o n1 n3 n4 n5 e
  self := fun A i s Q E t h => zs_iter t.1 h
def iZipS (K : PySem.W.Frag) (ta : TA) : TI := fun σ H R => ta σ H fun vs H1 => ∃ a b xs ys, vs = [.ref a, .ref b] ∧ SqL K H1 a xs ∧ SqL K H1 b ys ∧ R (ItS K a b) H1
theorem pi_zipS {X : Cx} {e e2 : Expr} {ta : TA} {p pos tpos cp kp : Pos} {elts : List Expr} {kk ck : Nat} (hg : Gl X "zip") (hm : X.mg "zip" = none) (ha : PA X [e, e2] ta)
    (he : backTo pos (starEach [e, e2] X.env) = (false, eval e X.env) :: backTo pos (starEach [e2] X.env) := by rfl) (hpl : (backTo pos (starEach [e, e2] X.env)).any (·.1) = false := by rfl) :
    PI X (.Tuple elts kk tpos) (.Call (.Name "zip" p) [e, e2] [⟨some "strict", .Constant (.bool true) ck cp, kp⟩] pos) (iZipS X.K ta) := by
  refine ⟨fun pins s σ H R I h => ?_⟩
  refine wpAny_Call_Name_kw (ld_blt I hg hm PyProof.Rows.boot_zip (with_kwT (thn (ha.run pos pins s σ H _ I h) fun us s1 ⟨vs, H1, I1, r1, q1⟩ => ?_) he hpl rfl rfl))
  obtain ⟨a, b, xs, ys, ex, mx, my, q⟩ := q1
  subst ex
  cases r1 with
  | cons r rr =>
    cases rr with
    | cons r' rr =>
      cases rr
      cases r
      cases r'
      obtain ⟨us, rx, px, _⟩ := I1.list mx
      obtain ⟨ws, ry, py, _⟩ := I1.list my
      refine kws_cons (wpAny_of_eq (a := Value.bool true) rfl (kws_nil ?_))
      refine call_strict px.isList py.isList fun g k1 k2 k3 k4 k5 k6 => zs_iter k1 ?_
      have I2 : L2.Inv X pins σ H1 { s1 with heap := g } := I1.kept (t' := s1.toks) k6
      refine ⟨s1.heap.objs.size + 4, [s1.heap.objs.size + 4, s1.heap.objs.size + 2, s1.heap.objs.size + 3, s1.heap.objs.size, s1.heap.objs.size + 1], _, _, H1, rfl, I2, turnS (PySem.W.ktu_apart s1.heap.objs.size a b px.lt py.lt), ⟨k1, k2, ⟨_, _, k3⟩, k4, k5⟩, fun c hcm => ?_, q⟩
      have hle : s1.heap.objs.size ≤ c := by
        simp only [List.mem_cons, List.not_mem_nil, or_false] at hcm
        rcases hcm with rfl | rfl | rfl | rfl | rfl
        · exact Nat.le_add_right _ _
        · exact Nat.le_add_right _ _
        · exact Nat.le_add_right _ _
        · exact Nat.le_refl _
        · exact Nat.le_add_right _ _
      exact I1.fpOk hle (I1.hok.fresh hle)
end Zx

/-! Dv: a calculus of weakest preconditions over plain data (PyData) above the layer's readings: heaps and addresses stay hidden. G: the part of the heap that holds still (data), H: the whole; F: what stood at the entry and is nobody's here. -/
namespace Dv
open PySem L2

theorem same_upd {H : Hp} {p : Addr} {o : HO} (h : H p = none) : Same H (upd H p o) := fun b x e => by
  rw [upd_ne (ne_of_none e h)]
  exact e
theorem same_upd2 {G H : Hp} {p : Addr} {o : HO} (s : Same G H) (h : G p = none) : Same G (upd H p o) := fun b x e => by
  rw [upd_ne (ne_of_none e h)]
  exact s b x e
theorem same_both {G H : Hp} {p : Addr} {o : HO} (s : Same G H) : Same (upd G p o) (upd H p o) := fun b x e => by
  by_cases hb : b = p
  · subst hb
    rw [upd_same] at e ⊢
    exact e
  · rw [upd_ne hb] at e ⊢
    exact s b x e

/-! ### values that hold data -/
def keyD : Key → PyData
  | .inl i => .int i
  | .inr s => .str s
mutual
inductive Rp (H : Hp) : V → PyData → Prop
  | non : Rp H .non .none
  | bl (b : Bool) : Rp H (.bl b) (.bool b)
  | int (i : Int) : Rp H (.int i) (.int i)
  | str (x : Str) : Rp H (.str x) (.str x)
  | lst {a : Addr} {xs : List V} {ds : List PyData} : H a = some (.lst xs) → RpA H xs ds → Rp H (.ref a) (.list ds)
  | tup {a : Addr} {xs : List V} {ds : List PyData} : H a = some (.tup xs) → RpA H xs ds → Rp H (.ref a) (.tuple ds)
  | dct {a : Addr} {kvs : List (Key × V)} {ds : List (PyData × PyData)} : H a = some (.dK kvs) → RpD H kvs ds → Rp H (.ref a) (.dict ds)
inductive RpA (H : Hp) : List V → List PyData → Prop
  | nil : RpA H [] []
  | cons {v : V} {vs : List V} {d : PyData} {ds : List PyData} : Rp H v d → RpA H vs ds → RpA H (v :: vs) (d :: ds)
inductive RpD (H : Hp) : List (Key × V) → List (PyData × PyData) → Prop
  | nil : RpD H [] []
  | cons {k : Key} {v : V} {kvs : List (Key × V)} {d : PyData} {ds : List (PyData × PyData)} : Rp H v d → RpD H kvs ds → RpD H ((k, v) :: kvs) ((keyD k, d) :: ds)
end
mutual
theorem Rp.mono {G H : Hp} (e : Same G H) : ∀ {d : PyData} {v : V}, Rp G v d → Rp H v d
  | .none, _, h => by cases h; exact .non
  | .bool b, _, h => by cases h; exact .bl b
  | .int b, _, h => by cases h; exact .int b
  | .str b, _, h => by cases h; exact .str b
  | .list ds, _, h => by
    cases h with
    | lst h1 h2 => exact .lst (e _ _ h1) (RpA.mono e h2)
  | .tuple ds, _, h => by
    cases h with
    | tup h1 h2 => exact .tup (e _ _ h1) (RpA.mono e h2)
  | .dict ds, _, h => by
    cases h with
    | dct h1 h2 => exact .dct (e _ _ h1) (RpD.mono e h2)
theorem RpA.mono {G H : Hp} (e : Same G H) : ∀ {ds : List PyData} {vs : List V}, RpA G vs ds → RpA H vs ds
  | [], _, h => by cases h; exact .nil
  | d :: ds, _, h => by
    cases h with
    | cons h1 h2 => exact .cons (Rp.mono e h1) (RpA.mono e h2)
theorem RpD.mono {G H : Hp} (e : Same G H) : ∀ {ds : List (PyData × PyData)} {vs : List (Key × V)}, RpD G vs ds → RpD H vs ds
  | [], _, h => by cases h; exact .nil
  | (_, d) :: ds, _, h => by
    cases h with
    | cons h1 h2 => exact .cons (Rp.mono e h1) (RpD.mono e h2)
end
theorem RpA.len {H : Hp} : ∀ {ds : List PyData} {vs : List V}, RpA H vs ds → vs.length = ds.length
  | [], _, h => by cases h; rfl
  | d :: ds, _, h => by
    cases h with
    | cons h1 h2 => simp [RpA.len h2]
theorem RpA.app {H : Hp} : ∀ {ds es : List PyData} {vs ws : List V}, RpA H vs ds → RpA H ws es → RpA H (vs ++ ws) (ds ++ es)
  | [], _, _, _, h, k => by cases h; exact k
  | d :: ds, _, _, _, h, k => by
    cases h with
    | cons h1 h2 => exact .cons h1 (RpA.app h2 k)
theorem RpA.one {H : Hp} {v : V} {d : PyData} (h : Rp H v d) : RpA H [v] [d] := .cons h .nil
theorem RpA.get {H : Hp} : ∀ {ds : List PyData} {vs : List V} {i : Nat} {d : PyData}, RpA H vs ds → ds[i]? = some d → ∃ v, vs[i]? = some v ∧ Rp H v d
  | [], _, _, _, h, e => by simp at e
  | d :: ds, _, 0, _, h, e => by
    cases h with
    | cons h1 h2 =>
      simp at e
      subst e
      exact ⟨_, rfl, h1⟩
  | d :: ds, _, i + 1, _, h, e => by
    cases h with
    | cons h1 h2 =>
      obtain ⟨v, e1, e2⟩ := RpA.get h2 (i := i) (by simpa using e)
      exact ⟨v, by simpa using e1, e2⟩
theorem RpA.getV {H : Hp} {ds : List PyData} {vs : List V} {i : Nat} {v : V} (h : RpA H vs ds) (e : vs[i]? = some v) : ∃ d, ds[i]? = some d ∧ Rp H v d := by
  have hl := h.len
  have hi : i < ds.length := by
    have := (List.getElem?_eq_some_iff.mp e).1
    omega
  obtain ⟨w, e1, e2⟩ := h.get (List.getElem?_eq_getElem hi)
  rw [e] at e1
  cases e1
  exact ⟨_, List.getElem?_eq_getElem hi, e2⟩
theorem RpA.set {H : Hp} {v : V} {d : PyData} (r : Rp H v d) : ∀ {ds : List PyData} {vs : List V} (i : Nat), RpA H vs ds → RpA H (vs.set i v) (ds.set i d)
  | [], _, _, h => by cases h; exact .nil
  | _ :: _, _, 0, h => by
    cases h with
    | cons h1 h2 => exact .cons r h2
  | _ :: _, _, i + 1, h => by
    cases h with
    | cons h1 h2 => exact .cons h1 (RpA.set r i h2)
theorem RpA.take {H : Hp} : ∀ {ds : List PyData} {vs : List V} (n : Nat), RpA H vs ds → RpA H (vs.take n) (ds.take n)
  | _, _, 0, _ => .nil
  | [], _, n + 1, h => by cases h; exact .nil
  | _ :: _, _, n + 1, h => by
    cases h with
    | cons h1 h2 => exact .cons h1 (RpA.take n h2)
theorem RpA.drop {H : Hp} : ∀ {ds : List PyData} {vs : List V} (n : Nat), RpA H vs ds → RpA H (vs.drop n) (ds.drop n)
  | _, _, 0, h => h
  | [], _, n + 1, h => by cases h; exact .nil
  | _ :: _, _, n + 1, h => by
    cases h with
    | cons h1 h2 => exact RpA.drop n h2
theorem RpA.of_map {H : Hp} {α : Type} {f : α → V} {g : α → PyData} (h : ∀ x, Rp H (f x) (g x)) : ∀ xs : List α, RpA H (xs.map f) (xs.map g)
  | [] => .nil
  | x :: r => .cons (h x) (RpA.of_map h r)
/-- a value of the plain kinds is its data -/
def flat : PyData → Bool
  | .none => true
  | .bool _ => true
  | .int _ => true
  | .str _ => true
  | _ => false
theorem Rp.flat {G H : Hp} {v : V} {d : PyData} (r : Rp G v d) (h : flat d = true) : Rp H v d := by
  cases r with
  | non => exact .non
  | bl b => exact .bl b
  | int i => exact .int i
  | str x => exact .str x
  | lst _ _ => cases h
  | tup _ _ => cases h
  | dct _ _ => cases h

/-! ### growing: new data comes, all else stays -/
structure Grow (G H G' H' : Hp) : Prop where
  g : Same G G'
  h : Same H H'
  gh : Same G' H'
  new : ∀ a o, G' a = some o → H a ≠ none → G a = some o
theorem Grow.refl {G H : Hp} (s : Same G H) : Grow G H G H := ⟨Same.refl G, Same.refl H, s, fun _ _ e _ => e⟩
theorem Grow.trans {G H G1 H1 G2 H2 : Hp} (a : Grow G H G1 H1) (b : Grow G1 H1 G2 H2) : Grow G H G2 H2 :=
  ⟨a.g.trans b.g, a.h.trans b.h, b.gh, fun x o e n => a.new x o (b.new x o e (by
    cases q : H x with
    | none => exact absurd q n
    | some u => rw [a.h x u q]; simp)) n⟩
theorem Grow.laid {G H : Hp} {p : Addr} {o : HO} (s : Same G H) (n : H p = none) : Grow G H (upd G p o) (upd H p o) := by
  have ng : G p = none := by
    cases q : G p with
    | none => rfl
    | some u => rw [s p u q] at n; cases n
  refine ⟨same_upd ng, same_upd n, same_both s, fun a u e na => ?_⟩
  by_cases ha : a = p
  · subst ha
    exact absurd n na
  · rw [upd_ne ha] at e
    exact e

/-! ### slots -/
/-- a thing that may change: the addresses it lies at, what is so of it (it leans on these and on data alone) -/
structure Res where
  fp : List Addr
  ok : Hp → Hp → V → Prop
  mono : ∀ {G H G' H' : Hp} {v : V}, ok G H v → Same G G' → (∀ a ∈ fp, H' a = H a) → ok G' H' v
/-- a list at p whose items are data of which P -/
def lstP (p : Addr) (P : List PyData → Prop) : Res where
  fp := [p]
  ok := fun G H v => v = .ref p ∧ ∃ xs ds, H p = some (.lst xs) ∧ RpA G xs ds ∧ P ds
  mono := by
    rintro G H G' H' v ⟨e, xs, ds, h1, h2, h3⟩ g k
    exact ⟨e, xs, ds, (k p List.mem_cons_self).trans h1, h2.mono g, h3⟩
abbrev lst (p : Addr) (ds : List PyData) : Res := lstP p (fun x => x = ds)
inductive Slot where
  | any
  | val (d : PyData)
  | res (r : Res)
abbrev Rho := List Slot
def SlotOk (F G H : Hp) (x : Option V) : Slot → Prop
  | .any => True
  | .val d => ∃ v, x = some v ∧ Rp G v d
  | .res r => ∃ v, x = some v ∧ r.ok G H v ∧ ∀ a ∈ r.fp, F a = none ∧ G a = none ∧ H a ≠ none
def Slot.fp : Slot → List Addr
  | .res r => r.fp
  | _ => []
/-- the state: slots and heaps -/
structure Sta (F G0 G H : Hp) (σ : L2.St) (ρ : Rho) : Prop where
  fh : Same F H
  gh : Same G H
  g0 : Same G0 G
  new : ∀ a o, G a = some o → F a ≠ none → G0 a = some o
  len : σ.length = ρ.length
  slot : ∀ (i : Nat) (x : Slot), ρ[i]? = some x → SlotOk F G H (σ[i]?.join) x
  apart : ∀ (i j : Nat) (x y : Slot), i < j → ρ[i]? = some x → ρ[j]? = some y → ∀ a ∈ x.fp, a ∉ y.fp
theorem join_set {σ : L2.St} {i : Nat} {x : Option V} (h : i < σ.length) : ((σ.set i x)[i]?).join = x := by
  rw [List.getElem?_set_self h]
  rfl
section
variable {F G0 G H G' H' : Hp} {σ : L2.St} {ρ : Rho}
theorem SlotOk.grow {F G H G' H' : Hp} {x : Option V} {s : Slot} (h : SlotOk F G H x s) (w : Grow G H G' H') : SlotOk F G' H' x s := by
  cases s with
  | any => trivial
  | val d =>
    obtain ⟨v, e, r⟩ := h
    exact ⟨v, e, r.mono w.g⟩
  | res r =>
    obtain ⟨v, e, k, n⟩ := h
    refine ⟨v, e, r.mono k w.g fun a ha => ?_, fun a ha => ?_⟩
    · obtain ⟨_, _, n3⟩ := n a ha
      cases q : H a with
      | none => exact absurd q n3
      | some u => exact w.h a u q
    · obtain ⟨n1, n2, n3⟩ := n a ha
      refine ⟨n1, ?_, ?_⟩
      · cases q : G' a with
        | none => rfl
        | some u =>
          rw [w.new a u q n3] at n2
          cases n2
      · cases q : H a with
        | none => exact absurd q n3
        | some u => rw [w.h a u q]; simp
theorem Sta.grow (s : Sta F G0 G H σ ρ) (w : Grow G H G' H') : Sta F G0 G' H' σ ρ where
  fh := s.fh.trans w.h
  gh := w.gh
  g0 := s.g0.trans w.g
  new := fun a o e n => s.new a o (w.new a o e (by
    cases q : F a with
    | none => exact absurd q n
    | some u => rw [s.fh a u q]; simp)) n
  len := s.len
  slot := fun i x e => (s.slot i x e).grow w
  apart := s.apart
theorem Sta.get (s : Sta F G0 G H σ ρ) {i : Nat} {d : PyData} (h : ρ[i]? = some (.val d)) : ∃ v, σ[i]? = some (some v) ∧ Rp G v d := by
  obtain ⟨v, e, r⟩ := s.slot i _ h
  refine ⟨v, ?_, r⟩
  cases q : σ[i]? with
  | none => rw [q] at e; cases e
  | some z =>
    rw [q] at e
    exact congrArg some e
theorem Sta.getR (s : Sta F G0 G H σ ρ) {i : Nat} {r : Res} (h : ρ[i]? = some (.res r)) : ∃ v, σ[i]? = some (some v) ∧ r.ok G H v ∧ ∀ a ∈ r.fp, F a = none ∧ G a = none ∧ H a ≠ none := by
  obtain ⟨v, e, r⟩ := s.slot i _ h
  refine ⟨v, ?_, r⟩
  cases q : σ[i]? with
  | none => rw [q] at e; cases e
  | some z =>
    rw [q] at e
    exact congrArg some e
/-- a slot gets a value that holds data -/
theorem Sta.setV (s : Sta F G0 G H σ ρ) {i : Nat} {v : V} {d : PyData} (r : Rp G v d) : Sta F G0 G H (σ.set i (some v)) (ρ.set i (.val d)) where
  fh := s.fh
  gh := s.gh
  g0 := s.g0
  new := s.new
  len := by rw [List.length_set, List.length_set, s.len]
  slot := fun j x e => by
    by_cases hj : i = j
    · subst hj
      by_cases hi : i < ρ.length
      · rw [List.getElem?_set_self hi] at e
        cases e
        exact ⟨v, by rw [join_set (by rw [s.len]; exact hi)], r⟩
      · rw [List.getElem?_eq_none (by rw [List.length_set]; omega)] at e
        cases e
    · rw [List.getElem?_set_ne hj] at e ⊢
      exact s.slot j x e
  apart := fun j k x y hjk e1 e2 a ha hb => by
    by_cases hj : i = j
    · subst hj
      by_cases hi : i < ρ.length
      · rw [List.getElem?_set_self hi] at e1
        cases e1
        cases ha
      · rw [List.getElem?_eq_none (by rw [List.length_set]; omega)] at e1
        cases e1
    · rw [List.getElem?_set_ne hj] at e1
      by_cases hk : i = k
      · subst hk
        by_cases hi : i < ρ.length
        · rw [List.getElem?_set_self hi] at e2
          cases e2
          cases hb
        · rw [List.getElem?_eq_none (by rw [List.length_set]; omega)] at e2
          cases e2
      · rw [List.getElem?_set_ne hk] at e2
        exact s.apart j k x y hjk e1 e2 a ha hb
/-- a slot is forgotten -/
theorem Sta.setN (s : Sta F G0 G H σ ρ) {i : Nat} {x : Option V} : Sta F G0 G H (σ.set i x) (ρ.set i .any) where
  fh := s.fh
  gh := s.gh
  g0 := s.g0
  new := s.new
  len := by rw [List.length_set, List.length_set, s.len]
  slot := fun j x e => by
    by_cases hj : i = j
    · subst hj
      by_cases hi : i < ρ.length
      · rw [List.getElem?_set_self hi] at e
        cases e
        trivial
      · rw [List.getElem?_eq_none (by rw [List.length_set]; omega)] at e
        cases e
    · rw [List.getElem?_set_ne hj] at e ⊢
      exact s.slot j x e
  apart := fun j k x y hjk e1 e2 a ha hb => by
    by_cases hj : i = j
    · subst hj
      by_cases hi : i < ρ.length
      · rw [List.getElem?_set_self hi] at e1
        cases e1
        cases ha
      · rw [List.getElem?_eq_none (by rw [List.length_set]; omega)] at e1
        cases e1
    · rw [List.getElem?_set_ne hj] at e1
      by_cases hk : i = k
      · subst hk
        by_cases hi : i < ρ.length
        · rw [List.getElem?_set_self hi] at e2
          cases e2
          cases hb
        · rw [List.getElem?_eq_none (by rw [List.length_set]; omega)] at e2
          cases e2
      · rw [List.getElem?_set_ne hk] at e2
        exact s.apart j k x y hjk e1 e2 a ha hb
/-- a slot gets a thing that lies at new addresses (nobody's so far) -/
theorem Sta.setR (s : Sta F G0 G H σ ρ) {i : Nat} {v : V} {r : Res} (k : r.ok G H v) (n : ∀ a ∈ r.fp, F a = none ∧ G a = none ∧ H a ≠ none) (ap : ∀ (j : Nat) (x : Slot), j ≠ i → ρ[j]? = some x → ∀ a ∈ x.fp, a ∉ r.fp) :
    Sta F G0 G H (σ.set i (some v)) (ρ.set i (.res r)) where
  fh := s.fh
  gh := s.gh
  g0 := s.g0
  new := s.new
  len := by rw [List.length_set, List.length_set, s.len]
  slot := fun j x e => by
    by_cases hj : i = j
    · subst hj
      by_cases hi : i < ρ.length
      · rw [List.getElem?_set_self hi] at e
        cases e
        exact ⟨v, by rw [join_set (by rw [s.len]; exact hi)], k, n⟩
      · rw [List.getElem?_eq_none (by rw [List.length_set]; omega)] at e
        cases e
    · rw [List.getElem?_set_ne hj] at e ⊢
      exact s.slot j x e
  apart := fun j k x y hjk e1 e2 a ha hb => by
    by_cases hj : i = j
    · subst hj
      by_cases hi : i < ρ.length
      · rw [List.getElem?_set_self hi] at e1
        cases e1
        rw [List.getElem?_set_ne (by omega)] at e2
        exact ap k y (by omega) e2 a hb ha
      · rw [List.getElem?_eq_none (by rw [List.length_set]; omega)] at e1
        cases e1
    · rw [List.getElem?_set_ne hj] at e1
      by_cases hk : i = k
      · subst hk
        by_cases hi : i < ρ.length
        · rw [List.getElem?_set_self hi] at e2
          cases e2
          exact ap j x (by omega) e1 a ha hb
        · rw [List.getElem?_eq_none (by rw [List.length_set]; omega)] at e2
          cases e2
      · rw [List.getElem?_set_ne hk] at e2
        exact s.apart j k x y hjk e1 e2 a ha hb
end
end Dv

namespace Dv
open PySem L2

/-! ### what is to be shown -/
def We (te : TE) (ρ : Rho) (Φ : PyData → Rho → Prop) : Prop := ∀ (F G0 G H : Hp) (σ : L2.St), Sta F G0 G H σ ρ → ∀ Q : VK, (∀ v d ρ' G' H', Sta F G0 G' H' σ ρ' → Same G G' → Rp G' v d → Φ d ρ' → Q v H') → te σ H Q
def Wa (ta : TA) (ρ : Rho) (Φ : List PyData → Rho → Prop) : Prop := ∀ (F G0 G H : Hp) (σ : L2.St), Sta F G0 G H σ ρ → ∀ Q : List V → Hp → Prop, (∀ vs ds ρ' G' H', Sta F G0 G' H' σ ρ' → Same G G' → RpA G' vs ds → Φ ds ρ' → Q vs H') → ta σ H Q
def Wt (tt : TT) (ρ : Rho) (Φ : Bool → Rho → Prop) : Prop := ∀ (F G0 G H : Hp) (σ : L2.St), Sta F G0 G H σ ρ → ∀ Q : Bool → Hp → Prop, (∀ b ρ' G' H', Sta F G0 G' H' σ ρ' → Same G G' → Φ b ρ' → Q b H') → tt σ H Q
/-- a new list -/
def Wn (te : TE) (ρ : Rho) (Φ : List PyData → Rho → Prop) : Prop := ∀ (F G0 G H : Hp) (σ : L2.St), Sta F G0 G H σ ρ → ∀ Q : VK, (∀ p xs ds ρ' G' H', Sta F G0 G' H' σ ρ' → Same G G' → H' p = some (.lst xs) → RpA G' xs ds → F p = none → G' p = none → (∀ (j : Nat) (x : Slot), ρ'[j]? = some x → p ∉ x.fp) → Φ ds ρ' → Q (.ref p) H') → te σ H Q
/-- a target -/
def Wg (g : TG) (js : List Nat) (d : PyData) (ρ : Rho) (Φ : Rho → Prop) : Prop := ∀ (F G0 G H : Hp) (σ : L2.St) (v : V), Sta F G0 G H σ ρ → Rp G v d → ∀ Q : L2.St → Hp → Prop, (∀ σ' ρ', Sta F G0 G H σ' ρ' → (σ'.length = σ.length ∧ ∀ k, k ∉ js → σ'[k]? = σ[k]?) → Φ ρ' → Q σ' H) → g v σ H Q
def Wgs (g : TGs) (js : List Nat) (ds : List PyData) (ρ : Rho) (Φ : Rho → Prop) : Prop := ∀ (F G0 G H : Hp) (σ : L2.St) (vs : List V), Sta F G0 G H σ ρ → RpA G vs ds → ∀ Q : L2.St → Hp → Prop, (∀ σ' ρ', Sta F G0 G H σ' ρ' → (σ'.length = σ.length ∧ ∀ k, k ∉ js → σ'[k]? = σ[k]?) → Φ ρ' → Q σ' H) → g vs σ H Q
/-- what is wanted behind a statement -/
structure Outs where
  nx : Rho → Prop
  rt : PyData → Rho → Prop
  bk : Rho → Prop := fun _ => False
  ct : Rho → Prop := fun _ => False
def Ws (F G0 : Hp) (ts : TS) (ρ : Rho) (Ψ : Outs) : Prop := ∀ (G H : Hp) (σ : L2.St), Sta F G0 G H σ ρ → ∀ D : Ends,
  (∀ σ' ρ' G' H', Sta F G0 G' H' σ' ρ' → Same G G' → Ψ.nx ρ' → D.nx σ' H') → (∀ v d σ' ρ' G' H', Sta F G0 G' H' σ' ρ' → Same G G' → Rp G' v d → Ψ.rt d ρ' → D.rt v H') →
  (∀ σ' ρ' G' H', Sta F G0 G' H' σ' ρ' → Same G G' → Ψ.bk ρ' → D.bk σ' H') → (∀ σ' ρ' G' H', Sta F G0 G' H' σ' ρ' → Same G G' → Ψ.ct ρ' → D.ct σ' H') → ts D σ H
/-- by values -/
def Op2 (r : R2) (x y : PyData) (φ : PyData → Prop) : Prop := ∀ (G H : Hp) (v u : V), Same G H → Rp G v x → Rp G u y → ∀ Q : VK, (∀ w z G' H', Grow G H G' H' → Rp G' w z → φ z → Q w H') → r v u H Q
def Op1 (r : V → Hp → VK → Prop) (x : PyData) (φ : PyData → Prop) : Prop := ∀ (G H : Hp) (v : V), Same G H → Rp G v x → ∀ Q : VK, (∀ w z G' H', Grow G H G' H' → Rp G' w z → φ z → Q w H') → r v H Q
def OpC (r : List V → Hp → VK → Prop) (xs : List PyData) (φ : PyData → Prop) : Prop := ∀ (G H : Hp) (vs : List V), Same G H → RpA G vs xs → ∀ Q : VK, (∀ w z G' H', Grow G H G' H' → Rp G' w z → φ z → Q w H') → r vs H Q
/-- a new list, by values -/
def OpN (r : List V → Hp → VK → Prop) (xs : List PyData) (φ : List PyData → Prop) : Prop := ∀ (G H : Hp) (vs : List V), Same G H → RpA G vs xs → ∀ Q : VK, (∀ p ws zs G' H', Grow G H G' H' → H' p = none → RpA G' ws zs → φ zs → Q (.ref p) (upd H' p (.lst ws))) → r vs H Q

section
variable {te ta tb tc : TE} {tt tu : TT} {tas : TA} {ts tsu : TS} {ρ : Rho} {Φ Φ' : PyData → Rho → Prop} {Φb : Bool → Rho → Prop} {Ψ : Outs} {r : R2}
theorem We.imp (h : We te ρ Φ) (k : ∀ d ρ', Φ d ρ' → Φ' d ρ') : We te ρ Φ' := fun F G0 G H σ s Q q => h F G0 G H σ s Q fun v d ρ' G' H' s' g r p => q v d ρ' G' H' s' g r (k d ρ' p)
theorem Wt.imp {Φ Φ' : Bool → Rho → Prop} (h : Wt tt ρ Φ) (k : ∀ d ρ', Φ d ρ' → Φ' d ρ') : Wt tt ρ Φ' := fun F G0 G H σ s Q q => h F G0 G H σ s Q fun d ρ' G' H' s' g p => q d ρ' G' H' s' g (k d ρ' p)
theorem Wn.imp {Φ Φ' : List PyData → Rho → Prop} (h : Wn te ρ Φ) (k : ∀ d ρ', Φ d ρ' → Φ' d ρ') : Wn te ρ Φ' := fun F G0 G H σ s Q q => h F G0 G H σ s Q fun p xs ds ρ' G' H' s' g a b c d e f => q p xs ds ρ' G' H' s' g a b c d e (k ds ρ' f)
theorem Wa.imp {Φ Φ' : List PyData → Rho → Prop} (h : Wa tas ρ Φ) (k : ∀ d ρ', Φ d ρ' → Φ' d ρ') : Wa tas ρ Φ' := fun F G0 G H σ s Q q => h F G0 G H σ s Q fun v d ρ' G' H' s' g r p => q v d ρ' G' H' s' g r (k d ρ' p)
theorem Ws.imp {F G0 : Hp} {Ψ Ψ' : Outs} (h : Ws F G0 ts ρ Ψ) (k1 : ∀ ρ', Ψ.nx ρ' → Ψ'.nx ρ') (k2 : ∀ d ρ', Ψ.rt d ρ' → Ψ'.rt d ρ') (k3 : ∀ ρ', Ψ.bk ρ' → Ψ'.bk ρ') (k4 : ∀ ρ', Ψ.ct ρ' → Ψ'.ct ρ') : Ws F G0 ts ρ Ψ' :=
  fun G H σ s D q1 q2 q3 q4 => h G H σ s D (fun σ' ρ' G' H' a b c => q1 σ' ρ' G' H' a b (k1 _ c)) (fun v d σ' ρ' G' H' a b e c => q2 v d σ' ρ' G' H' a b e (k2 _ _ c)) (fun σ' ρ' G' H' a b c => q3 σ' ρ' G' H' a b (k3 _ c)) (fun σ' ρ' G' H' a b c => q4 σ' ρ' G' H' a b (k4 _ c))

/-! ### leaves -/
theorem we_var {i : Nat} {d : PyData} (h : ρ[i]? = some (.val d)) (q : Φ d ρ) : We (tVar i) ρ Φ := fun F G0 G H σ s Q k => by
  obtain ⟨v, e, r⟩ := s.get h
  exact ⟨v, e, k v d ρ G H s (Same.refl G) r q⟩
theorem we_c {v : V} {d : PyData} (h : ∀ G, Rp G v d) (q : Φ d ρ) : We (tC v) ρ Φ := fun F G0 G H σ s Q k => k v d ρ G H s (Same.refl G) (h G) q
theorem we_int {i : Int} (q : Φ (.int i) ρ) : We (tC (.int i)) ρ Φ := we_c (fun _ => .int i) q
theorem we_bl {i : Bool} (q : Φ (.bool i) ρ) : We (tC (.bl i)) ρ Φ := we_c (fun _ => .bl i) q
theorem we_str {i : Str} (q : Φ (.str i) ρ) : We (tC (.str i)) ρ Φ := we_c (fun _ => .str i) q
theorem we_non (q : Φ .none ρ) : We (tC .non) ρ Φ := we_c (fun _ => .non) q

/-! ### operators -/
theorem we_op (h : We ta ρ fun x ρ1 => We tb ρ1 fun y ρ2 => Op2 r x y fun z => Φ z ρ2) : We (tOp r ta tb) ρ Φ := fun F G0 G H σ s Q k =>
  h F G0 G H σ s _ fun v x ρ1 G1 H1 s1 g1 r1 h1 => h1 F G0 G1 H1 σ s1 _ fun u y ρ2 G2 H2 s2 g2 r2 h2 => h2 G2 H2 v u s2.gh (r1.mono g2) r2 Q fun w z G' H' gr rz p => k w z ρ2 G' H' (s2.grow gr) ((g1.trans g2).trans gr.g) rz p
theorem we_un {r : V → Hp → VK → Prop} (h : We ta ρ fun x ρ1 => Op1 r x fun z => Φ z ρ1) : We (tUn r ta) ρ Φ := fun F G0 G H σ s Q k =>
  h F G0 G H σ s _ fun v x ρ1 G1 H1 s1 g1 r1 h1 => h1 G1 H1 v s1.gh r1 Q fun w z G' H' gr rz p => k w z ρ1 G' H' (s1.grow gr) (g1.trans gr.g) rz p
theorem we_cb {r : List V → Hp → VK → Prop} (h : Wa tas ρ fun xs ρ1 => OpC r xs fun z => Φ z ρ1) : We (tCB r tas) ρ Φ := fun F G0 G H σ s Q k =>
  h F G0 G H σ s _ fun v x ρ1 G1 H1 s1 g1 r1 h1 => h1 G1 H1 v s1.gh r1 Q fun w z G' H' gr rz p => k w z ρ1 G' H' (s1.grow gr) (g1.trans gr.g) rz p
theorem Op2.flat {x y z : PyData} {w : V} {φ : PyData → Prop} (hw : ∀ G, Rp G w z) (h : ∀ (G H : Hp) (v u : V), Rp G v x → Rp G u y → ∀ Q : VK, Q w H → r v u H Q) (q : φ z) : Op2 r x y φ :=
  fun G H v u s r1 r2 Q k => h G H v u r1 r2 Q (k w z G H (.refl s) (hw G) q)
theorem OpC.flat {r : List V → Hp → VK → Prop} {xs : List PyData} {z : PyData} {w : V} {φ : PyData → Prop} (hw : ∀ G, Rp G w z) (h : ∀ (G H : Hp) (vs : List V), Same G H → RpA G vs xs → ∀ Q : VK, Q w H → r vs H Q) (q : φ z) : OpC r xs φ :=
  fun G H v s r1 Q k => h G H v s r1 Q (k w z G H (.refl s) (hw G) q)
theorem op2_I0 {g : Int → Int → Int} {i j : Int} {φ : PyData → Prop} (q : φ (.int (g i j))) : Op2 (rI0 fun i j => .int (g i j)) (.int i) (.int j) φ := .flat (fun _ => .int _) (fun G H v u r1 r2 Q k => by cases r1; cases r2; exact ⟨i, j, rfl, rfl, k⟩) q
theorem op2_I {C : Int → Int → Prop} {g : Int → Int → Int} {i j : Int} {φ : PyData → Prop} (hc : C i j) (q : φ (.int (g i j))) : Op2 (rI C fun i j => .int (g i j)) (.int i) (.int j) φ := .flat (fun _ => .int _) (fun G H v u r1 r2 Q k => by cases r1; cases r2; exact ⟨i, j, rfl, rfl, hc, k⟩) q
theorem op2_B0 {g : Int → Int → Bool} {i j : Int} {φ : PyData → Prop} (q : φ (.bool (g i j))) : Op2 (rI0 fun i j => .bl (g i j)) (.int i) (.int j) φ := .flat (fun _ => .bl _) (fun G H v u r1 r2 Q k => by cases r1; cases r2; exact ⟨i, j, rfl, rfl, k⟩) q
theorem op1_U {g : Int → Int} {i : Int} {φ : PyData → Prop} (q : φ (.int (g i))) : Op1 (rU fun i => .int (g i)) (.int i) φ := fun G H v s r Q k => by
  cases r
  exact ⟨i, rfl, k _ _ G H (.refl s) (.int _) q⟩
/-- one of two rules -/
theorem Op2.orl {r' : R2} {x y : PyData} {φ : PyData → Prop} (h : Op2 r x y φ) : Op2 (fun x y H Q => r x y H Q ∨ r' x y H Q) x y φ := fun G H v u s r1 r2 Q k => .inl (h G H v u s r1 r2 Q k)
theorem Op2.orr {r' : R2} {x y : PyData} {φ : PyData → Prop} (h : Op2 r' x y φ) : Op2 (fun x y H Q => r x y H Q ∨ r' x y H Q) x y φ := fun G H v u s r1 r2 Q k => .inr (h G H v u s r1 r2 Q k)

/-! ### tests -/
theorem wt_test (h : We te ρ fun d ρ' => ∃ b, d = .bool b ∧ Φb b ρ') : Wt (tTest te) ρ Φb := fun F G0 G H σ s Q k =>
  h F G0 G H σ s _ fun v d ρ' G' H' s' g r ⟨b, e, p⟩ => by
    subst e
    cases r
    exact ⟨b, rfl, k b ρ' G' H' s' g p⟩
theorem wt_B (h : We te ρ fun d ρ' => ∃ b, d = .bool b ∧ Φb b ρ') : Wt (tB te) ρ Φb := wt_test h
theorem wt_and (h : Wt tt ρ fun b ρ1 => (b = true → Wt tu ρ1 Φb) ∧ (b = false → Φb false ρ1)) : Wt (tAnd tt tu) ρ Φb := fun F G0 G H σ s Q k =>
  h F G0 G H σ s _ fun b ρ1 G1 H1 s1 g1 ⟨p1, p2⟩ => by
    cases b with
    | true => exact p1 rfl F G0 G1 H1 σ s1 Q fun b ρ' G' H' s' g p => k b ρ' G' H' s' (g1.trans g) p
    | false => exact k false ρ1 G1 H1 s1 g1 (p2 rfl)
theorem wt_or (h : Wt tt ρ fun b ρ1 => (b = true → Φb true ρ1) ∧ (b = false → Wt tu ρ1 Φb)) : Wt (tOr tt tu) ρ Φb := fun F G0 G H σ s Q k =>
  h F G0 G H σ s _ fun b ρ1 G1 H1 s1 g1 ⟨p1, p2⟩ => by
    cases b with
    | false => exact p2 rfl F G0 G1 H1 σ s1 Q fun b ρ' G' H' s' g p => k b ρ' G' H' s' (g1.trans g) p
    | true => exact k true ρ1 G1 H1 s1 g1 (p1 rfl)
theorem wt_not (h : Wt tt ρ fun b ρ1 => Φb (!b) ρ1) : Wt (tNot tt) ρ Φb := fun F G0 G H σ s Q k =>
  h F G0 G H σ s _ fun b ρ1 G1 H1 s1 g1 p => k _ ρ1 G1 H1 s1 g1 p
theorem we_andV (h : We ta ρ fun x ρ1 => ∃ b, x = .bool b ∧ (b = true → We tb ρ1 Φ) ∧ (b = false → Φ (.bool false) ρ1)) : We (tAndV ta tb) ρ Φ := fun F G0 G H σ s Q k =>
  h F G0 G H σ s _ fun v d ρ1 G1 H1 s1 g1 r1 ⟨b, e, p1, p2⟩ => by
    subst e
    cases r1
    refine ⟨b, rfl, ?_⟩
    cases b with
    | true => exact p1 rfl F G0 G1 H1 σ s1 Q fun v d ρ' G' H' s' g r p => k v d ρ' G' H' s' (g1.trans g) r p
    | false => exact k _ _ ρ1 G1 H1 s1 g1 (.bl false) (p2 rfl)
theorem we_orV (h : We ta ρ fun x ρ1 => ∃ b, x = .bool b ∧ (b = true → Φ (.bool true) ρ1) ∧ (b = false → We tb ρ1 Φ)) : We (tOrV ta tb) ρ Φ := fun F G0 G H σ s Q k =>
  h F G0 G H σ s _ fun v d ρ1 G1 H1 s1 g1 r1 ⟨b, e, p1, p2⟩ => by
    subst e
    cases r1
    refine ⟨b, rfl, ?_⟩
    cases b with
    | false => exact p2 rfl F G0 G1 H1 σ s1 Q fun v d ρ' G' H' s' g r p => k v d ρ' G' H' s' (g1.trans g) r p
    | true => exact k _ _ ρ1 G1 H1 s1 g1 (.bl true) (p1 rfl)
theorem we_notV (h : We ta ρ fun x ρ1 => ∃ b, x = .bool b ∧ Φ (.bool (!b)) ρ1) : We (tNotV ta) ρ Φ := fun F G0 G H σ s Q k =>
  h F G0 G H σ s _ fun v d ρ1 G1 H1 s1 g1 r1 ⟨b, e, p⟩ => by
    subst e
    cases r1
    exact ⟨b, rfl, k _ _ ρ1 G1 H1 s1 g1 (.bl _) p⟩
theorem we_if (h : Wt tt ρ fun b ρ1 => (b = true → We ta ρ1 Φ) ∧ (b = false → We tb ρ1 Φ)) : We (tIf tt ta tb) ρ Φ := fun F G0 G H σ s Q k =>
  h F G0 G H σ s _ fun b ρ1 G1 H1 s1 g1 ⟨p1, p2⟩ => by
    cases b with
    | true => exact p1 rfl F G0 G1 H1 σ s1 Q fun v d ρ' G' H' s' g r p => k v d ρ' G' H' s' (g1.trans g) r p
    | false => exact p2 rfl F G0 G1 H1 σ s1 Q fun v d ρ' G' H' s' g r p => k v d ρ' G' H' s' (g1.trans g) r p
/-- truth -/
def Tru : PyData → Bool → Prop
  | .none, b => b = false
  | .bool k, b => b = k
  | .int i, b => b = (i != 0)
  | .str x, b => x.length ≤ sizeLine ∧ b = ((x.length : Int) != 0)
  | .list xs, b => b = !xs.isEmpty
  | .tuple xs, b => b = !xs.isEmpty
  | .dict xs, b => b = !xs.isEmpty
theorem RpD.len {H : Hp} : ∀ {ds : List (PyData × PyData)} {vs : List (Key × V)}, RpD H vs ds → vs.length = ds.length
  | [], _, h => by cases h; rfl
  | _ :: _, _, h => by
    cases h with
    | cons h1 h2 => simp [RpD.len h2]
theorem emp_eq {α β : Type} {xs : List α} {ys : List β} (h : xs.length = ys.length) : xs.isEmpty = ys.isEmpty := by
  cases xs <;> cases ys <;> first | rfl | simp at h
theorem Tru.v {K : PySem.W.Frag} {G H : Hp} {v : V} {d : PyData} {b : Bool} (s : Same G H) (r : Rp G v d) (h : Tru d b) : TruV K v H b := by
  cases r with
  | non => exact h
  | bl k => exact h
  | int i => exact h
  | str x => exact h
  | lst h1 h2 => exact .inl ⟨_, .inl (.inl (s _ _ h1)), by rw [emp_eq h2.len]; exact h⟩
  | tup h1 h2 => exact .inr (.inl ⟨_, .inl (.inl (s _ _ h1)), by rw [emp_eq h2.len]; exact h⟩)
  | dct h1 h2 => exact .inr (.inr ⟨_, s _ _ h1, by rw [emp_eq h2.len]; exact h⟩)
theorem wt_tru {K : PySem.W.Frag} (h : We te ρ fun d ρ' => ∃ b, Tru d b ∧ Φb b ρ') : Wt (fun σ H Q => te σ H fun x H' => ∃ k, TruV K x H' k ∧ Q k H') ρ Φb := fun F G0 G H σ s Q k =>
  h F G0 G H σ s _ fun v d ρ' G' H' s' g r ⟨b, e, p⟩ => ⟨b, e.v s'.gh r, k b ρ' G' H' s' g p⟩
theorem we_orT {K : PySem.W.Frag} (h : We ta ρ fun x ρ1 => ∃ b, Tru x b ∧ (b = true → Φ x ρ1) ∧ (b = false → We tb ρ1 Φ)) : We (tOrT K ta tb) ρ Φ := fun F G0 G H σ s Q k =>
  h F G0 G H σ s _ fun v d ρ1 G1 H1 s1 g1 r1 ⟨b, e, p1, p2⟩ => by
    refine ⟨b, e.v s1.gh r1, ?_⟩
    cases b with
    | false => exact p2 rfl F G0 G1 H1 σ s1 Q fun v d ρ' G' H' s' g r p => k v d ρ' G' H' s' (g1.trans g) r p
    | true => exact k _ _ ρ1 G1 H1 s1 g1 r1 (p1 rfl)
theorem we_andT {K : PySem.W.Frag} (h : We ta ρ fun x ρ1 => ∃ b, Tru x b ∧ (b = true → We tb ρ1 Φ) ∧ (b = false → Φ x ρ1)) : We (tAndT K ta tb) ρ Φ := fun F G0 G H σ s Q k =>
  h F G0 G H σ s _ fun v d ρ1 G1 H1 s1 g1 r1 ⟨b, e, p1, p2⟩ => by
    refine ⟨b, e.v s1.gh r1, ?_⟩
    cases b with
    | true => exact p1 rfl F G0 G1 H1 σ s1 Q fun v d ρ' G' H' s' g r p => k v d ρ' G' H' s' (g1.trans g) r p
    | false => exact k _ _ ρ1 G1 H1 s1 g1 r1 (p2 rfl)
theorem we_notT {K : PySem.W.Frag} (h : We ta ρ fun x ρ1 => ∃ b, Tru x b ∧ Φ (.bool (!b)) ρ1) : We (tNotT K ta) ρ Φ := fun F G0 G H σ s Q k =>
  h F G0 G H σ s _ fun v d ρ1 G1 H1 s1 g1 r1 ⟨b, e, p⟩ => ⟨b, e.v s1.gh r1, k _ _ ρ1 G1 H1 s1 g1 (.bl _) p⟩

/-! ### arguments, tuples, lists -/
theorem wa_nil {Φ : List PyData → Rho → Prop} (q : Φ [] ρ) : Wa tNil ρ Φ := fun F G0 G H σ s Q k => k [] [] ρ G H s (Same.refl G) .nil q
theorem wa_cons {Φ : List PyData → Rho → Prop} (h : We te ρ fun d ρ1 => Wa tas ρ1 fun ds ρ2 => Φ (d :: ds) ρ2) : Wa (tCons te tas) ρ Φ := fun F G0 G H σ s Q k =>
  h F G0 G H σ s _ fun v x ρ1 G1 H1 s1 g1 r1 h1 => h1 F G0 G1 H1 σ s1 _ fun vs ds ρ2 G2 H2 s2 g2 r2 p => k _ _ ρ2 G2 H2 s2 (g1.trans g2) (.cons (r1.mono g2) r2) p
theorem szl {n : Nat} (h : n ≤ 100000) : n ≤ sizeLine := Nat.le_trans h (by decide)
theorem szs {n : Nat} (h : n < 100000) : n < sizeLine := Nat.lt_of_lt_of_le h (by decide)
theorem we_tup (h : Wa tas ρ fun ds ρ1 => ds.length ≤ 100000 ∧ Φ (.tuple ds) ρ1) : We (tTup tas) ρ Φ := fun F G0 G H σ s Q k =>
  h F G0 G H σ s _ fun vs ds ρ1 G1 H1 s1 g1 r1 ⟨hl, p⟩ => ⟨by rw [r1.len]; exact szl hl, fun p' hp => by
    have w : Grow G1 H1 (upd G1 p' (.tup vs)) (upd H1 p' (.tup vs)) := .laid s1.gh hp
    exact k _ _ ρ1 _ _ (s1.grow w) (g1.trans w.g) (.tup upd_same (r1.mono w.g)) p⟩
theorem none_of {G H : Hp} {p : Addr} (s : Same G H) (h : H p = none) : G p = none := by
  cases q : G p with
  | none => rfl
  | some u => rw [s p u q] at h; cases h
/-- something new of nobody's is laid that is no data yet -/
theorem Sta.laid {F G0 G H : Hp} {σ : L2.St} {p : Addr} {o : HO} (s : Sta F G0 G H σ ρ) (n : H p = none) : Sta F G0 G (upd H p o) σ ρ where
  fh := s.fh.trans (same_upd n)
  gh := s.gh.trans (same_upd n)
  g0 := s.g0
  new := s.new
  len := s.len
  slot := fun i x e => by
    have q := s.slot i x e
    cases x with
    | any => trivial
    | val d => exact q
    | res r =>
      obtain ⟨v, e, k, n'⟩ := q
      refine ⟨v, e, r.mono k (Same.refl G) fun a ha => ?_, fun a ha => ?_⟩
      · rw [upd_ne fun z => (n' a ha).2.2 (by rw [z]; exact n)]
      · refine ⟨(n' a ha).1, (n' a ha).2.1, ?_⟩
        rw [upd_ne fun z => (n' a ha).2.2 (by rw [z]; exact n)]
        exact (n' a ha).2.2
  apart := s.apart
theorem Sta.nofp {F G0 G H : Hp} {σ : L2.St} {p : Addr} (s : Sta F G0 G H σ ρ) (n : H p = none) : ∀ (j : Nat) (x : Slot), ρ[j]? = some x → p ∉ x.fp := fun j x e hp => by
  have q := s.slot j x e
  cases x with
  | any => cases hp
  | val d => cases hp
  | res r =>
    obtain ⟨v, e, k, n'⟩ := q
    exact (n' p hp).2.2 n
theorem wn_lst {Φ : List PyData → Rho → Prop} (h : Wa tas ρ fun ds ρ1 => ds.length ≤ 100000 ∧ Φ ds ρ1) : Wn (tLst tas) ρ Φ := fun F G0 G H σ s Q k =>
  h F G0 G H σ s _ fun vs ds ρ1 G1 H1 s1 g1 r1 ⟨hl, p⟩ => ⟨by rw [r1.len]; exact szl hl, fun p' hp =>
    k p' vs ds ρ1 G1 _ (s1.laid hp) g1 upd_same r1 (none_of s1.fh hp) (none_of s1.gh hp) (s1.nofp hp) p⟩
theorem wn_cb {r : List V → Hp → VK → Prop} {Φ : List PyData → Rho → Prop} (h : Wa tas ρ fun xs ρ1 => OpN r xs fun z => Φ z ρ1) : Wn (tCB r tas) ρ Φ := fun F G0 G H σ s Q k =>
  h F G0 G H σ s _ fun v x ρ1 G1 H1 s1 g1 r1 h1 => h1 G1 H1 v s1.gh r1 Q fun p ws zs G' H' gr hp rz q => by
    have s2 := s1.grow gr
    exact k p ws zs ρ1 G' _ (s2.laid hp) (g1.trans gr.g) upd_same rz (none_of s2.fh hp) (none_of s2.gh hp) (s2.nofp hp) q
/-- a new list becomes data -/
theorem Sta.freeze {F G0 G H : Hp} {σ : L2.St} {p : Addr} {xs : List V} (s : Sta F G0 G H σ ρ) (h : H p = some (.lst xs)) (hF : F p = none) (hG : G p = none) (hn : ∀ (j : Nat) (x : Slot), ρ[j]? = some x → p ∉ x.fp) : Sta F G0 (upd G p (.lst xs)) H σ ρ where
  fh := s.fh
  gh := fun a o e => by
    by_cases ha : a = p
    · subst ha
      rw [upd_same] at e
      rw [h]
      exact e
    · rw [upd_ne ha] at e
      exact s.gh a o e
  g0 := s.g0.trans (same_upd hG)
  new := fun a o e n => by
    by_cases ha : a = p
    · subst ha
      exact absurd hF n
    · rw [upd_ne ha] at e
      exact s.new a o e n
  len := s.len
  slot := fun i x e => by
    have q := s.slot i x e
    cases x with
    | any => trivial
    | val d =>
      obtain ⟨v, e, r⟩ := q
      exact ⟨v, e, r.mono (same_upd hG)⟩
    | res r =>
      obtain ⟨v, e', k, n'⟩ := q
      refine ⟨v, e', r.mono k (same_upd hG) fun a ha => rfl, fun a ha => ⟨(n' a ha).1, ?_, (n' a ha).2.2⟩⟩
      rw [upd_ne fun z => hn i _ e (by rw [← z]; exact ha)]
      exact (n' a ha).2.1
  apart := s.apart
theorem we_new (h : Wn te ρ fun ds ρ1 => Φ (.list ds) ρ1) : We te ρ Φ := fun F G0 G H σ s Q k =>
  h F G0 G H σ s Q fun p xs ds ρ' G' H' s' g hp r hF hG hn q => k _ _ ρ' _ H' (s'.freeze hp hF hG hn) (g.trans (same_upd hG)) (.lst upd_same (r.mono (same_upd hG))) q
end
end Dv

namespace Dv
open PySem L2

section
variable {te ta tb tc : TE} {tt tu : TT} {tas : TA} {ts tsu : TS} {ρ : Rho} {Φ Φ' : PyData → Rho → Prop} {Φb : Bool → Rho → Prop} {Ψ : Outs} {K : PySem.W.Frag} {g : TG}

/-! ### targets -/
theorem set_other {σ : L2.St} {j k : Nat} {x : Option V} (h : k ∉ [j]) : (σ.set j x)[k]? = σ[k]? := by
  rw [List.getElem?_set_ne]
  simp at h
  omega
theorem wg_name {j : Nat} {d : PyData} {Φ : Rho → Prop} (q : Φ (ρ.set j (.val d))) : Wg (gName j) [j] d ρ Φ := fun F G0 G H σ v s r Q k =>
  k _ _ (s.setV r) ⟨List.length_set, fun _ h => set_other h⟩ q
theorem wg_any {j : Nat} {d : PyData} {Φ : Rho → Prop} (q : Φ (ρ.set j .any)) : Wg (gName j) [j] d ρ Φ := fun F G0 G H σ v s r Q k =>
  k _ _ s.setN ⟨List.length_set, fun _ h => set_other h⟩ q
theorem wgs_nil {Φ : Rho → Prop} (q : Φ ρ) : Wgs gNil [] [] ρ Φ := fun F G0 G H σ v s r Q k => by
  cases r
  exact ⟨rfl, k _ _ s ⟨rfl, fun _ _ => rfl⟩ q⟩
theorem wgs_cons {t : TG} {u : TGs} {js ks : List Nat} {d : PyData} {ds : List PyData} {Φ : Rho → Prop} (h : Wg t js d ρ fun ρ1 => Wgs u ks ds ρ1 Φ) : Wgs (gCons t u) (js ++ ks) (d :: ds) ρ Φ := fun F G0 G H σ vs s r Q k => by
  cases r with
  | cons r1 r2 =>
    refine ⟨_, _, rfl, h F G0 G H σ _ s r1 _ fun σ1 ρ1 s1 e1 q1 => ?_⟩
    refine q1 F G0 G H σ1 _ s1 r2 Q fun σ2 ρ2 s2 e2 q2 => ?_
    refine k σ2 ρ2 s2 ⟨e2.1.trans e1.1, fun i hi => ?_⟩ q2
    rw [e2.2 i fun z => hi (List.mem_append_right _ z), e1.2 i fun z => hi (List.mem_append_left _ z)]
theorem wg_tup {t : TGs} {js : List Nat} {n : Nat} {ds : List PyData} {Φ : Rho → Prop} (hn : ds.length = n) (h : Wgs t js ds ρ Φ) : Wg (gTup K n t) js (.tuple ds) ρ Φ := fun F G0 G H σ v s r Q k => by
  cases r with
  | tup h1 h2 => exact ⟨_, _, rfl, .inl (.inl (s.gh _ _ h1)), by rw [h2.len, hn], h F G0 G H σ _ s h2 Q k⟩

/-! ### statements -/
theorem ws_seq {F G0 : Hp} (h : Ws F G0 ts ρ { Ψ with nx := fun ρ' => Ws F G0 tsu ρ' Ψ }) : Ws F G0 (tSeq ts tsu) ρ Ψ := fun G H σ s D q1 q2 q3 q4 =>
  h G H σ s { D with nx := tsu D } (fun σ' ρ' G' H' s' g p => p G' H' σ' s' D (fun σ2 ρ2 G2 H2 s2 g2 p2 => q1 σ2 ρ2 G2 H2 s2 (g.trans g2) p2) (fun v d σ2 ρ2 G2 H2 s2 g2 r p2 => q2 v d σ2 ρ2 G2 H2 s2 (g.trans g2) r p2)
    (fun σ2 ρ2 G2 H2 s2 g2 p2 => q3 σ2 ρ2 G2 H2 s2 (g.trans g2) p2) (fun σ2 ρ2 G2 H2 s2 g2 p2 => q4 σ2 ρ2 G2 H2 s2 (g.trans g2) p2)) q2 q3 q4
theorem ws_nx {F G0 : Hp} (q : Ψ.nx ρ) : Ws F G0 tNext ρ Ψ := fun G H σ s D q1 q2 q3 q4 => q1 _ _ G H s (Same.refl G) q
theorem ws_brk {F G0 : Hp} (q : Ψ.bk ρ) : Ws F G0 tBreak ρ Ψ := fun G H σ s D q1 q2 q3 q4 => q3 _ _ G H s (Same.refl G) q
theorem ws_cont {F G0 : Hp} (q : Ψ.ct ρ) : Ws F G0 tCont ρ Ψ := fun G H σ s D q1 q2 q3 q4 => q4 _ _ G H s (Same.refl G) q
theorem ws_drop {F G0 : Hp} (h : We te ρ fun _ ρ1 => Ψ.nx ρ1) : Ws F G0 (tDrop te) ρ Ψ := fun G H σ s D q1 q2 q3 q4 => h F G0 G H σ s _ fun v d ρ1 G1 H1 s1 g1 r1 p => q1 _ _ G1 H1 s1 g1 p
theorem ws_ret {F G0 : Hp} (h : We te ρ fun d ρ1 => Ψ.rt d ρ1) : Ws F G0 (tRet te) ρ Ψ := fun G H σ s D q1 q2 q3 q4 => h F G0 G H σ s _ fun v d ρ1 G1 H1 s1 g1 r1 p => q2 v d _ _ G1 H1 s1 g1 r1 p
theorem ws_retN {F G0 : Hp} (q : Ψ.rt .none ρ) : Ws F G0 tRetN ρ Ψ := fun G H σ s D q1 q2 q3 q4 => q2 _ _ _ _ G H s (Same.refl G) .non q
theorem ws_if {F G0 : Hp} (h : Wt tt ρ fun b ρ1 => (b = true → Ws F G0 ts ρ1 Ψ) ∧ (b = false → Ws F G0 tsu ρ1 Ψ)) : Ws F G0 (tIfS tt ts tsu) ρ Ψ := fun G H σ s D q1 q2 q3 q4 =>
  h F G0 G H σ s _ fun b ρ1 G1 H1 s1 g1 p => by
    have a1 := fun σ2 ρ2 G2 H2 s2 g2 p2 => q1 σ2 ρ2 G2 H2 s2 (g1.trans g2) p2
    have a2 := fun v d σ2 ρ2 G2 H2 s2 g2 r p2 => q2 v d σ2 ρ2 G2 H2 s2 (g1.trans g2) r p2
    have a3 := fun σ2 ρ2 G2 H2 s2 g2 p2 => q3 σ2 ρ2 G2 H2 s2 (g1.trans g2) p2
    have a4 := fun σ2 ρ2 G2 H2 s2 g2 p2 => q4 σ2 ρ2 G2 H2 s2 (g1.trans g2) p2
    cases b with
    | true => exact p.1 rfl G1 H1 σ s1 D a1 a2 a3 a4
    | false => exact p.2 rfl G1 H1 σ s1 D a1 a2 a3 a4
theorem ws_asg {F G0 : Hp} {js : List Nat} (h : We te ρ fun d ρ1 => Wg g js d ρ1 Ψ.nx) : Ws F G0 (tAsg te g) ρ Ψ := fun G H σ s D q1 q2 q3 q4 =>
  h F G0 G H σ s _ fun v d ρ1 G1 H1 s1 g1 r1 p => p F G0 G1 H1 σ v s1 r1 _ fun σ2 ρ2 s2 e2 p2 => q1 σ2 ρ2 G1 H1 s2 g1 p2
theorem ws_set {F G0 : Hp} {i : Nat} (h : We te ρ fun d ρ1 => Ψ.nx (ρ1.set i (.val d))) : Ws F G0 (tAsg te (gName i)) ρ Ψ := ws_asg (h.imp fun _ _ q => wg_name q)
/-- name = a new list that will be changed -/
theorem ws_setN {F G0 : Hp} {i : Nat} (h : Wn te ρ fun ds ρ1 => ∀ p, Ψ.nx (ρ1.set i (.res (lst p ds)))) : Ws F G0 (tAsg te (gName i)) ρ Ψ := fun G H σ s D q1 q2 q3 q4 =>
  h F G0 G H σ s _ fun p xs ds ρ1 G1 H1 s1 g1 hp r1 hF hG hn q => q1 _ _ G1 H1 (s1.setR (v := .ref p) (r := lst p ds) ⟨rfl, xs, ds, hp, r1, rfl⟩ (fun a ha => by
      have e : a = p := by simpa [lst, lstP] using ha
      subst e
      exact ⟨hF, hG, by rw [hp]; simp⟩) (fun j x _ e a ha hb => by
      have e' : a = p := by simpa [lst, lstP] using hb
      subst e'
      exact hn j x e ha)) g1 (q p)
theorem ws_par {F G0 : Hp} {i j : Nat} (h : Wa tas ρ fun ds ρ1 => ∃ x y, ds = [x, y] ∧ Ψ.nx ((ρ1.set i (.val x)).set j (.val y))) : Ws F G0 (tPar i j tas) ρ Ψ := fun G H σ s D q1 q2 q3 q4 =>
  h F G0 G H σ s _ fun vs ds ρ1 G1 H1 s1 g1 r1 ⟨x, y, e, p⟩ => by
    subst e
    cases r1 with
    | cons ra rb =>
      cases rb with
      | cons rb rc =>
        cases rc
        exact ⟨_, _, rfl, q1 _ _ G1 H1 ((s1.setV ra).setV rb) g1 p⟩
/-- a list of nobody's is held while more is reckoned -/
theorem Sta.hold {F G0 G H : Hp} {σ : L2.St} {p : Addr} {xs : List V} (s : Sta F G0 G H σ ρ) (h : H p = some (.lst xs)) (hF : F p = none) (hG : G p = none) (hn : ∀ (j : Nat) (x : Slot), ρ[j]? = some x → p ∉ x.fp) : Sta (upd F p (.lst xs)) G0 G H σ ρ where
  fh := fun a o e => by
    by_cases ha : a = p
    · subst ha
      rw [upd_same] at e
      rw [h]
      exact e
    · rw [upd_ne ha] at e
      exact s.fh a o e
  gh := s.gh
  g0 := s.g0
  new := fun a o e n => by
    by_cases ha : a = p
    · subst ha
      rw [hG] at e
      cases e
    · rw [upd_ne ha] at n
      exact s.new a o e n
  len := s.len
  slot := fun i x e => by
    have q := s.slot i x e
    cases x with
    | any => trivial
    | val d => exact q
    | res r =>
      obtain ⟨v, e', k, n'⟩ := q
      refine ⟨v, e', k, fun a ha => ⟨?_, (n' a ha).2⟩⟩
      rw [upd_ne fun z => hn i _ e (by rw [← z]; exact ha)]
      exact (n' a ha).1
  apart := s.apart
theorem Sta.unhold {F G0 G H : Hp} {σ : L2.St} {p : Addr} {xs : List V} (s : Sta (upd F p (.lst xs)) G0 G H σ ρ) (hF : F p = none) (hG0 : G0 p = none) : Sta F G0 G H σ ρ ∧ H p = some (.lst xs) ∧ G p = none ∧ ∀ (j : Nat) (x : Slot), ρ[j]? = some x → p ∉ x.fp := by
  have hp : H p = some (.lst xs) := s.fh p _ upd_same
  refine ⟨⟨fun a o e => s.fh a o ?_, s.gh, s.g0, fun a o e n => s.new a o e ?_, s.len, fun i x e => ?_, s.apart⟩, hp, ?_, fun j x e hx => ?_⟩
  · rw [upd_ne fun z => by rw [z, hF] at e; cases e]
    exact e
  · rw [upd_ne fun z => n (by rw [z]; exact hF)]
    exact n
  · have q := s.slot i x e
    cases x with
    | any => trivial
    | val d => exact q
    | res r =>
      obtain ⟨v, e', k, n'⟩ := q
      refine ⟨v, e', k, fun a ha => ⟨?_, (n' a ha).2⟩⟩
      have z := (n' a ha).1
      by_cases hap : a = p
      · rw [hap]
        exact hF
      · rw [upd_ne hap] at z
        exact z
  · cases q : G p with
    | none => rfl
    | some o =>
      have z := s.new p o q (by rw [upd_same]; simp)
      rw [hG0] at z
      cases z
  · have q := s.slot j x e
    cases x with
    | any => cases hx
    | val d => cases hx
    | res r =>
      obtain ⟨v, e', k, n'⟩ := q
      have z := (n' p hx).1
      rw [upd_same] at z
      cases z
/-- a, b = [..], y: the first one a new list -/
theorem ws_parN {F G0 : Hp} {i j : Nat} (h : Wn ta ρ fun ds ρ1 => We tb ρ1 fun y ρ2 => ∀ p, Ψ.nx ((ρ2.set i (.res (lst p ds))).set j (.val y))) : Ws F G0 (tPar i j (tCons ta (tCons tb tNil))) ρ Ψ := fun G H σ s D q1 q2 q3 q4 =>
  h F G0 G H σ s _ fun p xs ds ρ1 G1 H1 s1 g1 hp r1 hF hG hn q =>
    q _ _ _ _ _ (s1.hold hp hF hG hn) _ fun v y ρ2 G2 H2 s2 g2 r2 k => by
      obtain ⟨s3, hp2, hG2, hn2⟩ := s2.unhold hF (none_of s1.g0 hG)
      refine ⟨_, _, rfl, q1 _ _ G2 H2 (Sta.setV (s3.setR (v := .ref p) (r := lst p ds) ⟨rfl, xs, ds, hp2, r1.mono g2, rfl⟩ (fun a ha => ?_) (fun j x _ e a ha hb => ?_)) r2) (g1.trans g2) (k p)⟩
      · have e : a = p := by simpa [lst, lstP] using ha
        subst e
        exact ⟨hF, hG2, by rw [hp2]; simp⟩
      · have e' : a = p := by simpa [lst, lstP] using hb
        subst e'
        exact hn2 j x e ha
/-- a, b = x, [..]: the second one a new list -/
theorem ws_parM {F G0 : Hp} {i j : Nat} (h : We ta ρ fun x ρ1 => Wn tb ρ1 fun ds ρ2 => ∀ p, Ψ.nx ((ρ2.set i (.val x)).set j (.res (lst p ds)))) : Ws F G0 (tPar i j (tCons ta (tCons tb tNil))) ρ Ψ := fun G H σ s D q1 q2 q3 q4 =>
  h F G0 G H σ s _ fun v x ρ1 G1 H1 s1 g1 r1 q => q F G0 G1 H1 σ s1 _ fun p xs ds ρ2 G2 H2 s2 g2 hp r2 hF hG hn k => by
      refine ⟨_, _, rfl, q1 _ _ G2 H2 (Sta.setR (s2.setV (r1.mono g2)) (v := .ref p) (r := lst p ds) ⟨rfl, xs, ds, hp, r2, rfl⟩ (fun a ha => ?_) (fun l z hl e a ha hb => ?_)) (g1.trans g2) (k p)⟩
      · have e : a = p := by simpa [lst, lstP] using ha
        subst e
        exact ⟨hF, hG, by rw [hp]; simp⟩
      · have e' : a = p := by simpa [lst, lstP] using hb
        subst e'
        by_cases hi : i = l
        · subst hi
          by_cases hlt : i < ρ2.length
          · rw [List.getElem?_set_self hlt] at e
            cases e
            cases ha
          · rw [List.getElem?_eq_none (by rw [List.length_set]; omega)] at e
            cases e
        · rw [List.getElem?_set_ne hi] at e
          exact hn l z e ha
theorem ws_aug {F G0 : Hp} {i : Nat} {x : PyData} {ti : TIp} (h0 : ρ[i]? = some (.val x)) (h : We te ρ fun y ρ1 => Op2 ti x y fun z => Ψ.nx (ρ1.set i (.val z))) : Ws F G0 (tAug i te ti) ρ Ψ := fun G H σ s D q1 q2 q3 q4 => by
  obtain ⟨v, e, r⟩ := s.get h0
  refine ⟨v, e, h F G0 G H σ s _ fun u y ρ1 G1 H1 s1 g1 r1 p => ?_⟩
  exact p G1 H1 v u s1.gh (r.mono g1) r1 _ fun w z G2 H2 gr rz p2 => q1 _ _ G2 H2 ((s1.grow gr).setV rz) (g1.trans gr.g) p2

/-! ### a list that changes -/
theorem Sta.upd {F G0 G H : Hp} {σ : L2.St} {i : Nat} {p : Addr} {P : List PyData → Prop} (s : Sta F G0 G H σ ρ) (h0 : ρ[i]? = some (.res (lstP p P))) {xs : List V} {ds : List PyData} {P' : List PyData → Prop} (r : RpA G xs ds) (hP : P' ds) : Sta F G0 G (L2.upd H p (.lst xs)) σ (ρ.set i (.res (lstP p P'))) := by
  obtain ⟨v, e1, ⟨hv, _⟩, hfp⟩ := s.getR h0
  have hin : p ∈ (lstP p P).fp := List.mem_cons_self
  obtain ⟨nF, nG, nH⟩ := hfp p hin
  have hi : i < ρ.length := (List.getElem?_eq_some_iff.mp h0).1
  refine ⟨fun a o e => ?_, fun a o e => ?_, s.g0, s.new, by rw [List.length_set, s.len], fun j x e => ?_, fun j k x y hjk ej ek a ha hb => ?_⟩
  · rw [upd_ne fun z => by rw [z, nF] at e; cases e]
    exact s.fh a o e
  · rw [upd_ne fun z => by rw [z, nG] at e; cases e]
    exact s.gh a o e
  · by_cases hj : i = j
    · subst hj
      rw [List.getElem?_set_self hi] at e
      cases e
      refine ⟨v, by rw [e1]; rfl, ⟨hv, xs, ds, upd_same, r, hP⟩, fun a ha => ?_⟩
      have e' : a = p := by simpa [lstP] using ha
      subst e'
      exact ⟨nF, nG, by rw [upd_same]; simp⟩
    · rw [List.getElem?_set_ne hj] at e
      have q := s.slot j x e
      cases x with
      | any => trivial
      | val d => exact q
      | res r' =>
        obtain ⟨v', e', k, n'⟩ := q
        have hne : ∀ a ∈ r'.fp, a ≠ p := fun a ha z => by
          rcases Nat.lt_or_ge i j with hl | hl
          · exact s.apart i j _ _ hl h0 e p hin (by rw [← z]; exact ha)
          · exact s.apart j i _ _ (by omega) e h0 a ha (by rw [z]; exact hin)
        refine ⟨v', e', r'.mono k (Same.refl G) fun a ha => upd_ne (hne a ha), fun a ha => ⟨(n' a ha).1, (n' a ha).2.1, ?_⟩⟩
        rw [upd_ne (hne a ha)]
        exact (n' a ha).2.2
  · by_cases hj : i = j
    · subst hj
      rw [List.getElem?_set_self hi] at ej
      cases ej
      rw [List.getElem?_set_ne (by omega)] at ek
      exact s.apart i k _ y hjk h0 ek a ha hb
    · rw [List.getElem?_set_ne hj] at ej
      by_cases hk : i = k
      · subst hk
        rw [List.getElem?_set_self hi] at ek
        cases ek
        exact s.apart j i x _ hjk ej h0 a ha hb
      · rw [List.getElem?_set_ne hk] at ek
        exact s.apart j k x y hjk ej ek a ha hb
theorem ws_app {F G0 : Hp} {i : Nat} {p : Addr} {ds0 : List PyData} (h0 : ρ[i]? = some (.res (lst p ds0))) (h : We te ρ fun d ρ1 => ∃ ds, ρ1[i]? = some (.res (lst p ds)) ∧ ds.length < 100000 ∧ Ψ.nx (ρ1.set i (.res (lst p (ds ++ [d]))))) :
    Ws F G0 (tDrop (tBM K "list" rAppend (tVar i) (tCons te tNil))) ρ Ψ := fun G H σ s D q1 q2 q3 q4 => by
  obtain ⟨v, e, ⟨rfl, xs0, _, hp0, _, _⟩, _⟩ := s.getR h0
  refine ⟨_, e, .inl ⟨rfl, xs0, .inl (.inl hp0)⟩, h F G0 G H σ s _ fun u d ρ1 G1 H1 s1 g1 r1 ⟨ds, k1, hl, k2⟩ => ?_⟩
  obtain ⟨v1, e1, ⟨rfl, xs, ds', hp, ra, rfl⟩, _⟩ := s1.getR k1
  refine ⟨p, xs, u, rfl, rfl, hp, by rw [ra.len]; exact szs hl, q1 _ _ G1 _ (s1.upd k1 (P' := fun x => x = ds' ++ [d]) (ra.app (.one r1)) rfl) g1 k2⟩
/-- l[i] = e -/
theorem ws_setI {F G0 : Hp} {i : Nat} {p : Addr} {ds0 : List PyData} {ti : TE} (h : We te ρ fun d ρ1 => ∃ ds1, ρ1[i]? = some (.res (lst p ds1)) ∧ We ti ρ1 fun k ρ2 => ∃ ds n j, ρ2[i]? = some (.res (lst p ds)) ∧ k = .int n ∧ ixN ds.length n = some j ∧ Ψ.nx (ρ2.set i (.res (lst p (ds.set j d))))) :
    Ws F G0 (tAsg te (gSub (tVar i) ti rSetL)) ρ Ψ := fun G H σ s D q1 q2 q3 q4 =>
  h F G0 G H σ s _ fun u d ρ1 G1 H1 s1 g1 r1 ⟨ds1, k1, hi⟩ => by
    obtain ⟨v1, e1, ⟨rfl, xs1, _, hp1, _, _⟩, _⟩ := s1.getR k1
    refine ⟨_, e1, hi F G0 G1 H1 σ s1 _ fun w k ρ2 G2 H2 s2 g2 r2 ⟨ds, n, j, k2, e2, ej, q⟩ => ?_⟩
    subst e2
    cases r2
    obtain ⟨v2, e2, ⟨_, xs, _, hp, ra, rfl⟩, _⟩ := s2.getR k2
    exact ⟨p, xs, n, j, rfl, rfl, hp, by rw [ra.len]; exact ej, q1 _ _ G2 _ (s2.upd k2 (P' := fun x => x = List.set _ j d) (ra.set (r1.mono g2) j) rfl) (g1.trans g2) q⟩
/-- the list's slot is read: it is data from now on -/
theorem we_varR {i : Nat} {p : Addr} {ds : List PyData} (h : ρ[i]? = some (.res (lst p ds))) (q : Φ (.list ds) (ρ.set i (.val (.list ds)))) : We (tVar i) ρ Φ := fun F G0 G H σ s Q k => by
  obtain ⟨v, e, ⟨rfl, xs, ds', hp, ra, rfl⟩, hfp⟩ := s.getR h
  have hin : p ∈ (lst p ds').fp := List.mem_cons_self
  obtain ⟨nF, nG, nH⟩ := hfp p hin
  have hi : i < ρ.length := (List.getElem?_eq_some_iff.mp h).1
  have s1 : Sta F G0 G H (σ.set i (some (.ref p))) (ρ.set i .any) := s.setN
  have eσ : σ.set i (some (.ref p)) = σ := by
    have hl : i < σ.length := by rw [s.len]; exact hi
    have e2 := e
    rw [List.getElem?_eq_getElem hl] at e2
    rw [← Option.some.inj e2]
    exact List.set_getElem_self hl
  rw [eσ] at s1
  have s2 := s1.freeze hp nF nG (fun j x ej hx => by
    by_cases hj : i = j
    · subst hj
      rw [List.getElem?_set_self hi] at ej
      cases ej
      cases hx
    · rw [List.getElem?_set_ne hj] at ej
      rcases Nat.lt_or_ge i j with hl | hl
      · exact s.apart i j _ _ hl h ej p hin hx
      · exact s.apart j i _ _ (by omega) ej h p hx hin)
  have rp : Rp (L2.upd G p (.lst xs)) (.ref p) (.list ds') := .lst upd_same (ra.mono (same_upd nG))
  have s3 := s2.setV (i := i) rp
  rw [eσ, List.set_set] at s3
  exact ⟨_, e, k _ _ _ _ H s3 (same_upd nG) rp q⟩
/-- by values, the heap as it is -/
def OpF2 (r : R2) (x y : PyData) (φ : PyData → Prop) : Prop := ∀ (G H : Hp) (v u : V), Same G H → Rp G v x → Rp G u y → ∀ Q : VK, (∀ w z, (∀ G', Rp G' w z) → φ z → Q w H) → r v u H Q
def OpFC (r : List V → Hp → VK → Prop) (xs : List PyData) (φ : PyData → Prop) : Prop := ∀ (G H : Hp) (vs : List V), Same G H → RpA G vs xs → ∀ Q : VK, (∀ w z, (∀ G', Rp G' w z) → φ z → Q w H) → r vs H Q
theorem OpF2.op {r : R2} {x y : PyData} {φ : PyData → Prop} (h : OpF2 r x y φ) : Op2 r x y φ := fun G H v u s r1 r2 Q k => h G H v u s r1 r2 Q fun w z hw p => k w z G H (.refl s) (hw G) p
theorem OpFC.op {r : List V → Hp → VK → Prop} {xs : List PyData} {φ : PyData → Prop} (h : OpFC r xs φ) : OpC r xs φ := fun G H v s r1 Q k => h G H v s r1 Q fun w z hw p => k w z G H (.refl s) (hw G) p
/-- the data of a list's slot, for a look -/
theorem Sta.look {F G0 G H : Hp} {σ : L2.St} {i : Nat} {p : Addr} {ds : List PyData} (s : Sta F G0 G H σ ρ) (h : ρ[i]? = some (.res (lst p ds))) : ∃ xs, σ[i]? = some (some (.ref p)) ∧ H p = some (.lst xs) ∧ G p = none ∧ RpA G xs ds ∧ Same (L2.upd G p (.lst xs)) H := by
  obtain ⟨v, e, ⟨rfl, xs, ds', hp, ra, rfl⟩, hfp⟩ := s.getR h
  have hin : p ∈ (lst p ds').fp := List.mem_cons_self
  obtain ⟨nF, nG, nH⟩ := hfp p hin
  refine ⟨xs, e, hp, nG, ra, fun a o ea => ?_⟩
  by_cases ha : a = p
  · subst ha
    rw [upd_same] at ea
    rw [hp]
    exact ea
  · rw [upd_ne ha] at ea
    exact s.gh a o ea
theorem we_opRL {r : R2} {i : Nat} {p : Addr} {ds0 : List PyData} (h : ρ[i]? = some (.res (lst p ds0))) (q : We tb ρ fun y ρ1 => ∃ ds, ρ1[i]? = some (.res (lst p ds)) ∧ OpF2 r (.list ds) y fun z => Φ z ρ1) : We (tOp r (tVar i) tb) ρ Φ := fun F G0 G H σ s Q k => by
  obtain ⟨xs, e, _⟩ := s.look h
  refine ⟨_, e, q F G0 G H σ s _ fun u y ρ1 G1 H1 s1 g1 r1 ⟨ds, h1, op⟩ => ?_⟩
  obtain ⟨ys, e1, hp, nG, ra, sm⟩ := s1.look h1
  exact op (L2.upd G1 p (.lst ys)) H1 _ _ sm (.lst upd_same (ra.mono (same_upd nG))) (r1.mono (same_upd nG)) Q fun w z hw pz => k w z ρ1 G1 H1 s1 g1 (hw G1) pz
theorem we_cbR {r : List V → Hp → VK → Prop} {i : Nat} {p : Addr} {ds : List PyData} (h : ρ[i]? = some (.res (lst p ds))) (op : OpFC r [.list ds] fun z => Φ z ρ) : We (tCB r (tCons (tVar i) tNil)) ρ Φ := fun F G0 G H σ s Q k => by
  obtain ⟨xs, e, hp, nG, ra, sm⟩ := s.look h
  exact ⟨_, e, op (L2.upd G p (.lst xs)) H _ sm (.cons (.lst upd_same (ra.mono (same_upd nG))) .nil) Q fun w z hw pz => k w z ρ G H s (Same.refl G) (hw G) pz⟩
theorem we_ixR {i : Nat} {p : Addr} {ds0 : List PyData} (h : ρ[i]? = some (.res (lst p ds0))) (q : We tb ρ fun y ρ1 => ∃ ds n d, ρ1[i]? = some (.res (lst p ds)) ∧ y = .int n ∧ atI ds n = some d ∧ Φ d ρ1) : We (tOp (rIx K) (tVar i) tb) ρ Φ := fun F G0 G H σ s Q k => by
  obtain ⟨xs, e, _⟩ := s.look h
  refine ⟨_, e, q F G0 G H σ s _ fun u y ρ1 G1 H1 s1 g1 r1 ⟨ds, n, d, h1, ey, ed, pz⟩ => ?_⟩
  subst ey
  cases r1
  obtain ⟨ys, e1, hp, nG, ra, sm⟩ := s1.look h1
  obtain ⟨j, ej, ed⟩ : ∃ j, ixN ds.length n = some j ∧ ds[j]? = some d := by
    unfold atI at ed
    cases q : ixN ds.length n with
    | none => rw [q] at ed; cases ed
    | some j => rw [q] at ed; exact ⟨j, rfl, ed⟩
  obtain ⟨w, ew, rw'⟩ := ra.get ed
  exact .inl ⟨p, ys, n, w, rfl, rfl, .inl (.inl hp), by unfold atI; rw [ra.len, ej]; exact ew, k w d ρ1 G1 H1 s1 g1 rw' pz⟩
end
end Dv

namespace Dv
open PySem L2

/-! ### promises -/
/-- a def that tells data of data and changes nothing -/
def SpD (pre : List PyData → (PyData → Prop) → Prop) : Sp := fun vs H Q _ => ∃ G ds φ, Same G H ∧ RpA G vs ds ∧ pre ds φ ∧ ∀ v d G' H', Grow G H G' H' → Rp G' v d → φ d → Q v H'
/-- growing, but for what lies at p -/
structure GrowP (p : Addr) (G H G' H' : Hp) : Prop where
  g : Same G G'
  h : ∀ a o, a ≠ p → H a = some o → H' a = some o
  gh : Same G' H'
  new : ∀ a o, G' a = some o → H a ≠ none → G a = some o
/-- a def whose first argument is a list that it changes (a purse): P n tells its items, n what was drawn so far at most -/
def SpZ (P : Nat → List PyData → Prop) (pre : Nat → List PyData → (Nat → PyData → Prop) → Prop) : Sp := fun vs H Q _ => ∃ G p ws ds n φ, vs = .ref p :: ws ∧ (lstP p (P n)).ok G H (.ref p) ∧ G p = none ∧ Same G H ∧ RpA G ws ds ∧ pre n ds φ ∧
  ∀ v d n' G' H', GrowP p G H G' H' → (lstP p (P n')).ok G' H' (.ref p) → Rp G' v d → φ n' d → Q v H'
def delH (H : Hp) (p : Addr) : Hp := fun a => if a = p then none else H a
theorem delH_same {H : Hp} {p : Addr} : delH H p p = none := if_pos rfl
theorem delH_ne {H : Hp} {p a : Addr} (h : a ≠ p) : delH H p a = H a := if_neg h
/-- the slots at a def's start -/
def slots0 (N : Nat) (ds : List PyData) : Rho := ds.map .val ++ List.replicate (N - ds.length) .any
theorem start_get {N : List Str} {vs : List V} {i : Nat} {v : V} (h : vs[i]? = some v) : (L2.start N vs)[i]? = some (some v) := by
  have hi : i < vs.length := (List.getElem?_eq_some_iff.mp h).1
  unfold L2.start
  rw [List.getElem?_append_left (by rw [List.length_map]; exact hi), List.getElem?_map, h]
  rfl
theorem slots0_get {N : Nat} {ds : List PyData} {i : Nat} {x : Slot} (h : (slots0 N ds)[i]? = some x) : (∃ d, x = .val d ∧ ds[i]? = some d) ∨ x = .any := by
  unfold slots0 at h
  by_cases hi : i < ds.length
  · rw [List.getElem?_append_left (by rw [List.length_map]; exact hi), List.getElem?_map, List.getElem?_eq_getElem hi] at h
    simp only [Option.map_some, Option.some.injEq] at h
    exact .inl ⟨_, h.symm, List.getElem?_eq_getElem hi⟩
  · rw [List.getElem?_append_right (by rw [List.length_map]; omega)] at h
    have h2 := List.getElem?_eq_some_iff.mp h
    obtain ⟨h3, h4⟩ := h2
    rw [List.getElem_replicate] at h4
    exact .inr h4.symm
theorem sta_start {G H : Hp} {N : List Str} {vs : List V} {ds : List PyData} (s : Same G H) (r : RpA G vs ds) (hN : vs.length ≤ N.length) : Sta H G G H (L2.start N vs) (slots0 N.length ds) where
  fh := Same.refl H
  gh := s
  g0 := Same.refl G
  new := fun a o e _ => e
  len := by
    unfold L2.start slots0
    have := r.len
    simp
    omega
  slot := fun i x e => by
    rcases slots0_get e with ⟨d, rfl, h⟩ | rfl
    · obtain ⟨v, e1, e2⟩ := r.get h
      exact ⟨v, by rw [start_get e1]; rfl, e2⟩
    · trivial
  apart := fun i j x y _ e1 e2 a ha hb => by
    rcases slots0_get e1 with ⟨d, rfl, h⟩ | rfl
    · cases ha
    · cases ha
/-- the body of a pure def -/
theorem fn_pure {pre : List PyData → (PyData → Prop) → Prop} {t : TS} {N : List Str} {n : Nat} (hn : n ≤ N.length) (hl : ∀ ds φ, pre ds φ → ds.length = n)
    (h : ∀ F G0 ds φ, pre ds φ → Ws F G0 t (slots0 N.length ds) { nx := fun _ => φ .none, rt := fun d _ => φ d }) {vs : List V} {H : Hp} {Q : VK} {E : XK} (hs : SpD pre vs H Q E) : t { nx := fun _ H' => Q .non H', rt := Q } (L2.start N vs) H := by
  obtain ⟨G, ds, φ, s, r, p, k⟩ := hs
  have hv : vs.length ≤ N.length := by rw [r.len, hl ds φ p]; exact hn
  have fin : ∀ (v : V) (d : PyData) (σ' : L2.St) (ρ' : Rho) (G' H' : Hp), Sta H G G' H' σ' ρ' → Same G G' → Rp G' v d → φ d → Q v H' := fun v d σ' ρ' G' H' s' g r' q => k v d G' H' ⟨g, s'.fh, s'.gh, s'.new⟩ r' q
  exact h H G ds φ p G H _ (sta_start s r hv) _ (fun σ' ρ' G' H' s' g q => fin .non .none σ' ρ' G' H' s' g .non q) (fun v d σ' ρ' G' H' s' g r' q => fin v d σ' ρ' G' H' s' g r' q) (fun _ _ _ _ _ _ q => q.elim) (fun _ _ _ _ _ _ q => q.elim)
theorem sp_len {pre : List PyData → (PyData → Prop) → Prop} {n : Nat} (hl : ∀ ds φ, pre ds φ → ds.length = n) : ∀ vs H Q E, SpD pre vs H Q E → vs.length = n := fun vs H Q E ⟨G, ds, φ, s, r, p, k⟩ => by rw [r.len, hl ds φ p]
/-- the body of a def with a purse -/
def slotsZ (N : Nat) (r : Res) (ds : List PyData) : Rho := .res r :: slots0 (N - 1) ds
theorem fn_z {P : Nat → List PyData → Prop} {pre : Nat → List PyData → (Nat → PyData → Prop) → Prop} {t : TS} {N : List Str} {n : Nat} (hn : n + 1 ≤ N.length) (hl : ∀ m ds φ, pre m ds φ → ds.length = n)
    (h : ∀ F G0 p m ds φ, pre m ds φ → Ws F G0 t (slotsZ N.length (lstP p (P m)) ds) { nx := fun ρ' => ∃ m', ρ'[0]? = some (.res (lstP p (P m'))) ∧ φ m' .none, rt := fun d ρ' => ∃ m', ρ'[0]? = some (.res (lstP p (P m'))) ∧ φ m' d })
    {vs : List V} {H : Hp} {Q : VK} {E : XK} (hs : SpZ P pre vs H Q E) : t { nx := fun _ H' => Q .non H', rt := Q } (L2.start N vs) H := by
  obtain ⟨G, p, ws, ds, m, φ, e, hok, hG, s, r, hp, k⟩ := hs
  subst e
  have hv : ws.length + 1 ≤ N.length := by rw [r.len, hl m ds φ hp]; exact hn
  obtain ⟨_, xs, es, hx, rx, hP⟩ := id hok
  have st : Sta (delH H p) G G H (L2.start N (.ref p :: ws)) (slotsZ N.length (lstP p (P m)) ds) := by
    refine ⟨fun a o e => ?_, s, Same.refl G, fun a o e _ => e, ?_, fun i x e => ?_, fun i j x y hij e1 e2 a ha hb => ?_⟩
    · by_cases hap : a = p
      · rw [hap, delH_same] at e
        cases e
      · rw [delH_ne hap] at e
        exact e
    · unfold L2.start slotsZ slots0
      have := r.len
      simp
      omega
    · cases i with
      | zero =>
        simp only [slotsZ, List.getElem?_cons_zero, Option.some.injEq] at e
        subst e
        refine ⟨.ref p, rfl, hok, fun a ha => ?_⟩
        have e' : a = p := by simpa [lstP] using ha
        subst e'
        exact ⟨delH_same, hG, by rw [hx]; simp⟩
      | succ i =>
        simp only [slotsZ, List.getElem?_cons_succ] at e
        rcases slots0_get e with ⟨d, rfl, h⟩ | rfl
        · obtain ⟨v, e1, e2⟩ := r.get h
          exact ⟨v, by rw [start_get (show (V.ref p :: ws)[i + 1]? = some v by simpa using e1)]; rfl, e2⟩
        · trivial
    · cases j with
      | zero => omega
      | succ j =>
        simp only [slotsZ, List.getElem?_cons_succ] at e2
        rcases slots0_get e2 with ⟨d, rfl, h⟩ | rfl
        · cases hb
        · cases hb
  have fin : ∀ (v : V) (d : PyData) (σ' : L2.St) (ρ' : Rho) (G' H' : Hp), Sta (delH H p) G G' H' σ' ρ' → Same G G' → Rp G' v d → (∃ m', ρ'[0]? = some (.res (lstP p (P m'))) ∧ φ m' d) → Q v H' := fun v d σ' ρ' G' H' s' g r' ⟨m', e, q⟩ => by
    obtain ⟨v0, e0, ⟨hv0, ys, fs, hy, ry, hP'⟩, hfp⟩ := s'.getR e
    have nG := (hfp p List.mem_cons_self).2.1
    refine k v d m' G' H' ⟨g, fun a o ha e => s'.fh a o (by rw [delH_ne ha]; exact e), s'.gh, fun a o e n => ?_⟩ ⟨rfl, ys, fs, hy, ry, hP'⟩ r' q
    refine s'.new a o e ?_
    rw [delH_ne (fun z => by rw [z, nG] at e; cases e)]
    exact n
  exact h _ G p m ds φ hp G H _ st _ (fun σ' ρ' G' H' s' g q => fin .non .none σ' ρ' G' H' s' g .non q) (fun v d σ' ρ' G' H' s' g r' q => fin v d σ' ρ' G' H' s' g r' q) (fun _ _ _ _ _ _ q => q.elim) (fun _ _ _ _ _ _ q => q.elim)
theorem spz_len {P : Nat → List PyData → Prop} {pre : Nat → List PyData → (Nat → PyData → Prop) → Prop} {n : Nat} (hl : ∀ m ds φ, pre m ds φ → ds.length = n) : ∀ vs H Q E, SpZ P pre vs H Q E → vs.length = n + 1 :=
  fun vs H Q E ⟨G, p, ws, ds, m, φ, e, hok, hG, s, r, hp, k⟩ => by rw [e, List.length_cons, r.len, hl m ds φ hp]

section
variable {te ta tb tc : TE} {tt tu : TT} {tas : TA} {ts tsu : TS} {ρ : Rho} {Φ Φ' : PyData → Rho → Prop} {Φb : Bool → Rho → Prop} {Ψ : Outs} {K : PySem.W.Frag} {g : TG} {wi : TI}
/-! ### calls -/
theorem we_call {pre : List PyData → (PyData → Prop) → Prop} {E : XK} (h : Wa tas ρ fun ds ρ1 => pre ds fun d => Φ d ρ1) : We (tCall (SpD pre) [] E tas) ρ Φ := fun F G0 G H σ s Q k =>
  h F G0 G H σ s _ fun vs ds ρ1 G1 H1 s1 g1 r1 p => ⟨G1, ds, _, s1.gh, by rw [List.append_nil]; exact r1, p, fun v d G' H' gr r q => k v d ρ1 G' H' (s1.grow gr) (g1.trans gr.g) r q⟩
/-- with defaults -/
theorem we_callD {pre : List PyData → (PyData → Prop) → Prop} {E : XK} {dvs : List V} {dd : List PyData} (hd : ∀ G, RpA G dvs dd) (h : Wa tas ρ fun ds ρ1 => pre (ds ++ dd) fun d => Φ d ρ1) : We (tCall (SpD pre) dvs E tas) ρ Φ := fun F G0 G H σ s Q k =>
  h F G0 G H σ s _ fun vs ds ρ1 G1 H1 s1 g1 r1 p => ⟨G1, ds ++ dd, _, s1.gh, r1.app (hd G1), p, fun v d G' H' gr r q => k v d ρ1 G' H' (s1.grow gr) (g1.trans gr.g) r q⟩
theorem Sta.growP {F G0 G H G' H' : Hp} {σ : L2.St} {i : Nat} {p : Addr} {P P' : List PyData → Prop} (s : Sta F G0 G H σ ρ) (h0 : ρ[i]? = some (.res (lstP p P))) (w : GrowP p G H G' H') (ok : (lstP p P').ok G' H' (.ref p)) : Sta F G0 G' H' σ (ρ.set i (.res (lstP p P'))) := by
  obtain ⟨v, e1, ⟨hv, _⟩, hfp⟩ := s.getR h0
  have hin : p ∈ (lstP p P).fp := List.mem_cons_self
  obtain ⟨nF, nG, nH⟩ := hfp p hin
  have hi : i < ρ.length := (List.getElem?_eq_some_iff.mp h0).1
  have nG' : G' p = none := by
    cases q : G' p with
    | none => rfl
    | some u => rw [w.new p u q nH] at nG; cases nG
  have hne : ∀ (j : Nat) (r' : Res), i ≠ j → ρ[j]? = some (.res r') → ∀ a ∈ r'.fp, a ≠ p := fun j r' hj e a ha z => by
    rcases Nat.lt_or_ge i j with hl | hl
    · exact s.apart i j _ _ hl h0 e p hin (by rw [← z]; exact ha)
    · exact s.apart j i _ _ (by omega) e h0 a ha (by rw [z]; exact hin)
  refine ⟨fun a o e => w.h a o (fun z => by rw [z, nF] at e; cases e) (s.fh a o e), w.gh, s.g0.trans w.g, fun a o e n => s.new a o (w.new a o e ?_) n, by rw [List.length_set, s.len], fun j x e => ?_, fun j k x y hjk ej ek a ha hb => ?_⟩
  · cases q : F a with
    | none => exact absurd q n
    | some u => rw [s.fh a u q]; simp
  · by_cases hj : i = j
    · subst hj
      rw [List.getElem?_set_self hi] at e
      cases e
      refine ⟨v, by rw [e1]; rfl, by rw [hv]; exact ok, fun a ha => ?_⟩
      have e' : a = p := by simpa [lstP] using ha
      subst e'
      obtain ⟨_, ys, fs, hy, _⟩ := ok
      exact ⟨nF, nG', by rw [hy]; simp⟩
    · rw [List.getElem?_set_ne hj] at e
      have q := s.slot j x e
      cases x with
      | any => trivial
      | val d =>
        obtain ⟨v', e', r⟩ := q
        exact ⟨v', e', r.mono w.g⟩
      | res r' =>
        obtain ⟨v', e', k, n'⟩ := q
        have hh : ∀ a ∈ r'.fp, H' a = H a := fun a ha => by
          cases q : H a with
          | none => exact absurd q (n' a ha).2.2
          | some u => exact w.h a u (hne j r' hj e a ha) q
        refine ⟨v', e', r'.mono k w.g hh, fun a ha => ⟨(n' a ha).1, ?_, by rw [hh a ha]; exact (n' a ha).2.2⟩⟩
        cases q : G' a with
        | none => rfl
        | some u => rw [← w.new a u q (n' a ha).2.2]; exact (n' a ha).2.1
  · by_cases hj : i = j
    · subst hj
      rw [List.getElem?_set_self hi] at ej
      cases ej
      rw [List.getElem?_set_ne (by omega)] at ek
      exact s.apart i k _ y hjk h0 ek a ha hb
    · rw [List.getElem?_set_ne hj] at ej
      by_cases hk : i = k
      · subst hk
        rw [List.getElem?_set_self hi] at ek
        cases ek
        exact s.apart j i x _ hjk ej h0 a ha hb
      · rw [List.getElem?_set_ne hk] at ek
        exact s.apart j k x y hjk ej ek a ha hb
theorem we_callZ {P : Nat → List PyData → Prop} {pre : Nat → List PyData → (Nat → PyData → Prop) → Prop} {E : XK} {i : Nat} {p : Addr} {n0 : Nat} (h0 : ρ[i]? = some (.res (lstP p (P n0))))
    (h : Wa tas ρ fun ds ρ1 => ∃ n, ρ1[i]? = some (.res (lstP p (P n))) ∧ pre n ds fun n' d => Φ d (ρ1.set i (.res (lstP p (P n'))))) : We (tCall (SpZ P pre) [] E (tCons (tVar i) tas)) ρ Φ := fun F G0 G H σ s Q k => by
  obtain ⟨v, e, ⟨hv, _⟩, _⟩ := s.getR h0
  subst hv
  refine ⟨_, e, h F G0 G H σ s _ fun vs ds ρ1 G1 H1 s1 g1 r1 ⟨n, e1, hp⟩ => ?_⟩
  obtain ⟨v1, e1', ok1, hfp⟩ := s1.getR e1
  have ev : v1 = .ref p := by
    obtain ⟨z, _⟩ := ok1
    exact z
  subst ev
  exact ⟨G1, p, vs, ds, n, _, by rw [List.append_nil], ok1, (hfp p List.mem_cons_self).2.1, s1.gh, r1, hp, fun v d n' G' H' gr ok r q => k v d _ G' H' (s1.growP e1 gr ok) (g1.trans gr.g) r q⟩

/-! ### what is walked -/
/-- J gives the data ds one by one, wherever G stands -/
def WalkD (J : It) (ds : List PyData) (G : Hp) : Prop := ∀ G2 H2 : Hp, Same G G2 → Same G2 H2 → J.stop ds.length H2 ∧ ∀ i d, ds[i]? = some d → J.go i H2 ∧ ∀ x H', J.yld i H2 x H' → ∃ G3, Grow G2 H2 G3 H' ∧ Rp G3 x d
def Wi (wi : TI) (ρ : Rho) (Φ : List PyData → Rho → Prop) : Prop := ∀ (F G0 G H : Hp) (σ : L2.St), Sta F G0 G H σ ρ → ∀ R : It → Hp → Prop, (∀ J ds ρ' G' H', Sta F G0 G' H' σ ρ' → Same G G' → WalkD J ds G' → Φ ds ρ' → R J H') → wi σ H R
theorem wi_list {Φ : List PyData → Rho → Prop} (h : We te ρ fun d ρ1 => ∃ ds, d = .list ds ∧ Φ ds ρ1) : Wi (iList K te) ρ Φ := fun F G0 G H σ s R k =>
  h F G0 G H σ s _ fun v d ρ1 G1 H1 s1 g1 r1 ⟨ds, e, q⟩ => by
    subst e
    cases r1 with
    | lst h1 h2 =>
      rename_i a xs
      refine ⟨a, rfl, ⟨xs, .inl (.inl (s1.gh _ _ h1))⟩, k _ ds ρ1 G1 H1 s1 g1 (fun G2 H2 s2 s3 => ?_) q⟩
      have hq : SqL K H2 a xs := .inl (.inl (s3 _ _ (s2 _ _ h1)))
      refine ⟨⟨xs, hq, by rw [h2.len]; exact Nat.le_refl _⟩, fun i d e => ?_⟩
      obtain ⟨v, ev, rv⟩ := h2.get e
      refine ⟨⟨xs, v, hq, ev⟩, fun x H' y => ?_⟩
      obtain ⟨eH, y⟩ := y
      subst eH
      have ex := y xs hq
      rw [ev] at ex
      cases ex
      exact ⟨G2, .refl s3, rv.mono s2⟩
theorem wi_tup {Φ : List PyData → Rho → Prop} (h : We te ρ fun d ρ1 => ∃ ds, d = .tuple ds ∧ Φ ds ρ1) : Wi (iTup K te) ρ Φ := fun F G0 G H σ s R k =>
  h F G0 G H σ s _ fun v d ρ1 G1 H1 s1 g1 r1 ⟨ds, e, q⟩ => by
    subst e
    cases r1 with
    | tup h1 h2 =>
      rename_i a xs
      refine ⟨a, rfl, ⟨xs, .inl (.inl (s1.gh _ _ h1))⟩, k _ ds ρ1 G1 H1 s1 g1 (fun G2 H2 s2 s3 => ?_) q⟩
      have hq : SqT K H2 a xs := .inl (.inl (s3 _ _ (s2 _ _ h1)))
      refine ⟨⟨xs, hq, by rw [h2.len]; exact Nat.le_refl _⟩, fun i d e => ?_⟩
      obtain ⟨v, ev, rv⟩ := h2.get e
      refine ⟨⟨xs, v, hq, ev⟩, fun x H' y => ?_⟩
      obtain ⟨eH, y⟩ := y
      subst eH
      have ex := y xs hq
      rw [ev] at ex
      cases ex
      exact ⟨G2, .refl s3, rv.mono s2⟩
def inz (lo : Int) (n : Nat) : List PyData := (List.range n).map fun (i : Nat) => .int (lo + i)
theorem inz_get {lo : Int} {n i : Nat} {d : PyData} (h : (inz lo n)[i]? = some d) : i < n ∧ d = .int (lo + i) := by
  unfold inz at h
  rw [List.getElem?_map] at h
  by_cases hi : i < n
  · rw [List.getElem?_range hi] at h
    exact ⟨hi, (Option.some.inj h).symm⟩
  · rw [List.getElem?_eq_none (by rw [List.length_range]; omega)] at h
    cases h
theorem inz_len {lo : Int} {n : Nat} : (inz lo n).length = n := by simp [inz]
theorem walk_rng {lo : Int} {n : Nat} {G : Hp} : WalkD (Itr lo n) (inz lo n) G := fun G2 H2 s2 s3 =>
  ⟨by rw [inz_len]; exact Nat.le_refl _, fun i d e => by
    obtain ⟨hi, rfl⟩ := inz_get e
    exact ⟨hi, fun x H' y => by obtain ⟨rfl, rfl⟩ := y; exact ⟨G2, .refl s3, .int _⟩⟩⟩
theorem wi_rng1 {Φ : List PyData → Rho → Prop} (h : Wa tas ρ fun ds ρ1 => ∃ j : Int, ds = [.int j] ∧ -(2 ^ 62) ≤ j ∧ j < 2 ^ 62 ∧ Φ (inz 0 j.toNat) ρ1) : Wi (iRng1 tas) ρ Φ := fun F G0 G H σ s R k =>
  h F G0 G H σ s _ fun vs ds ρ1 G1 H1 s1 g1 r1 ⟨j, e, b1, b2, q⟩ => by
    subst e
    cases r1 with
    | cons ra rb =>
      cases ra
      cases rb
      exact ⟨j, rfl, b1, b2, k _ _ ρ1 G1 H1 s1 g1 walk_rng q⟩
theorem wi_rng2 {Φ : List PyData → Rho → Prop} (h : Wa tas ρ fun ds ρ1 => ∃ i j : Int, ds = [.int i, .int j] ∧ (-(2 ^ 62) ≤ i ∧ i < 2 ^ 62 ∧ -(2 ^ 62) ≤ j ∧ j < 2 ^ 62) ∧ Φ (inz i (j - i).toNat) ρ1) : Wi (iRng2 tas) ρ Φ := fun F G0 G H σ s R k =>
  h F G0 G H σ s _ fun vs ds ρ1 G1 H1 s1 g1 r1 ⟨i, j, e, b, q⟩ => by
    subst e
    cases r1 with
    | cons ra rb =>
      cases rb with
      | cons rb rc =>
        cases ra
        cases rb
        cases rc
        exact ⟨i, j, rfl, b, k _ _ ρ1 G1 H1 s1 g1 walk_rng q⟩
def signs (z : Str) : List PyData := z.cps.toList.map fun c => .str ⟨#[c]⟩
theorem wi_str {Φ : List PyData → Rho → Prop} (h : We te ρ fun d ρ1 => ∃ z, d = .str z ∧ Φ (signs z) ρ1) : Wi (iStr te) ρ Φ := fun F G0 G H σ s R k =>
  h F G0 G H σ s _ fun v d ρ1 G1 H1 s1 g1 r1 ⟨z, e, q⟩ => by
    subst e
    cases r1
    refine ⟨z, rfl, k _ _ ρ1 G1 H1 s1 g1 (fun G2 H2 s2 s3 => ⟨?_, fun i d e => ?_⟩) q⟩
    · show z.cps.size ≤ (signs z).length
      simp [signs]
    · unfold signs at e
      rw [List.getElem?_map] at e
      cases q : z.cps.toList[i]? with
      | none => rw [q] at e; cases e
      | some c =>
        rw [q] at e
        obtain rfl := (Option.some.inj e).symm
        have hi : i < z.cps.size := by
          have := (List.getElem?_eq_some_iff.mp q).1
          simpa using this
        refine ⟨hi, fun x H' y => ?_⟩
        obtain ⟨rfl, c', hc, rfl⟩ := y
        have e2 : z.cps[i]? = some c := by simpa using q
        rw [e2] at hc
        cases hc
        exact ⟨G2, .refl s3, .str _⟩
/-- a new pair each turn -/
theorem grow_pair {G2 H2 : Hp} {T : Addr} {x y : V} {a b : PyData} (s : Same G2 H2) (n : H2 T = none) (r1 : Rp G2 x a) (r2 : Rp G2 y b) : Grow G2 H2 (upd G2 T (.tup [x, y])) (upd H2 T (.tup [x, y])) ∧ Rp (upd G2 T (.tup [x, y])) (.ref T) (.tuple [a, b]) := by
  have w : Grow G2 H2 (upd G2 T (.tup [x, y])) (upd H2 T (.tup [x, y])) := .laid s n
  exact ⟨w, .tup upd_same (.cons (r1.mono w.g) (.cons (r2.mono w.g) .nil))⟩
def pairs (ds es : List PyData) : List PyData := List.zipWith (fun a b => .tuple [a, b]) ds es
theorem wi_zip {Φ : List PyData → Rho → Prop} (h : Wa tas ρ fun vs ρ1 => ∃ ds es, vs = [.list ds, .list es] ∧ Φ (pairs ds es) ρ1) : Wi (iZip K tas) ρ Φ := fun F G0 G H σ s R k =>
  h F G0 G H σ s _ fun vs ls ρ1 G1 H1 s1 g1 r1 ⟨ds, es, e, q⟩ => by
    subst e
    cases r1 with
    | cons ra rb =>
      cases rb with
      | cons rb rc =>
        cases rc
        cases ra with
        | lst h1 h2 =>
          cases rb with
          | lst h3 h4 =>
            rename_i a xs b ys
            refine ⟨a, b, xs, ys, rfl, .inl (.inl (s1.gh _ _ h1)), .inl (.inl (s1.gh _ _ h3)), k _ _ ρ1 G1 H1 s1 g1 (fun G2 H2 s2 s3 => ?_) q⟩
            have hq : SqL K H2 a xs := .inl (.inl (s3 _ _ (s2 _ _ h1)))
            have hq' : SqL K H2 b ys := .inl (.inl (s3 _ _ (s2 _ _ h3)))
            have e1 := h2.len
            have e2 := h4.len
            refine ⟨⟨xs, ys, hq, hq', by simp [pairs]; omega⟩, fun i d e => ?_⟩
            unfold pairs at e
            rw [List.getElem?_zipWith] at e
            cases qa : ds[i]? with
            | none => rw [qa] at e; cases e
            | some da =>
              cases qb : es[i]? with
              | none => rw [qa, qb] at e; cases e
              | some db =>
                rw [qa, qb] at e
                obtain rfl := (Option.some.inj e).symm
                obtain ⟨v, ev, rv⟩ := h2.get qa
                obtain ⟨u, eu, ru⟩ := h4.get qb
                refine ⟨⟨xs, ys, v, u, hq, hq', ev, eu⟩, fun x H' y => ?_⟩
                obtain ⟨T, x1, x2, rfl, nT, rfl, f1, f2⟩ := y
                have z1 := f1 _ hq
                have z2 := f2 _ hq'
                rw [ev] at z1
                rw [eu] at z2
                cases z1
                cases z2
                exact ⟨_, grow_pair s3 nT (rv.mono s2) (ru.mono s2)⟩
def enumd (ds : List PyData) : List PyData := List.zipWith (fun a b => .tuple [a, b]) (inz 0 ds.length) ds
theorem wi_enum {Φ : List PyData → Rho → Prop} (h : Wa tas ρ fun vs ρ1 => ∃ ds, vs = [.list ds] ∧ Φ (enumd ds) ρ1) : Wi (iEnum K tas) ρ Φ := fun F G0 G H σ s R k =>
  h F G0 G H σ s _ fun vs ls ρ1 G1 H1 s1 g1 r1 ⟨ds, e, q⟩ => by
    subst e
    cases r1 with
    | cons ra rb =>
      cases rb
      cases ra with
      | lst h1 h2 =>
        rename_i a xs
        refine ⟨a, xs, rfl, .inl (.inl (s1.gh _ _ h1)), k _ _ ρ1 G1 H1 s1 g1 (fun G2 H2 s2 s3 => ?_) q⟩
        have hq : SqL K H2 a xs := .inl (.inl (s3 _ _ (s2 _ _ h1)))
        have e1 := h2.len
        refine ⟨⟨xs, hq, by simp [enumd, inz_len]; omega⟩, fun i d e => ?_⟩
        unfold enumd at e
        rw [List.getElem?_zipWith] at e
        cases qa : ds[i]? with
        | none =>
          rw [qa] at e
          cases qb : (inz 0 ds.length)[i]? <;> rw [qb] at e <;> cases e
        | some da =>
          cases qb : (inz 0 ds.length)[i]? with
          | none => rw [qb] at e; cases e
          | some db =>
            rw [qa, qb] at e
            obtain rfl := (Option.some.inj e).symm
            obtain ⟨hi, rfl⟩ := inz_get qb
            obtain ⟨v, ev, rv⟩ := h2.get qa
            refine ⟨⟨xs, v, hq, ev⟩, fun x H' y => ?_⟩
            obtain ⟨T, x1, rfl, nT, rfl, f1⟩ := y
            have z1 := f1 _ hq
            rw [ev] at z1
            cases z1
            refine ⟨_, grow_pair s3 nT ?_ (rv.mono s2)⟩
            rw [Int.zero_add]
            exact .int _

/-! ### for, while -/
theorem ws_for {F G0 : Hp} {js : List Nat} (h : Wi wi ρ fun ds ρ1 => ∃ Iv : Nat → Rho → Prop, Iv 0 ρ1 ∧ (∀ i d ρ', ds[i]? = some d → Iv i ρ' → Wg g js d ρ' fun ρ2 => Ws F G0 ts ρ2 { nx := Iv (i + 1), ct := Iv (i + 1), bk := Ψ.nx, rt := Ψ.rt }) ∧ ∀ ρ', Iv ds.length ρ' → Ψ.nx ρ') :
    Ws F G0 (tFor wi g ts) ρ Ψ := fun G H σ s D q1 q2 q3 q4 =>
  h F G0 G H σ s _ fun J ds ρ1 G1 H1 s1 g1 wk ⟨Iv, i0, turn, fin⟩ => by
    refine ⟨fun i m σ' H' => m = ds.length - i ∧ i ≤ ds.length ∧ ∃ ρ' G', Sta F G0 G' H' σ' ρ' ∧ Same G1 G' ∧ Iv i ρ', ⟨ds.length, by omega, Nat.zero_le _, ρ1, G1, s1, Same.refl G1, i0⟩, ?_⟩
    rintro i m σ' H' ⟨rfl, hi, ρ', G', s', g', iv⟩
    obtain ⟨w1, w2⟩ := wk G' H' g' s'.gh
    by_cases hlt : i < ds.length
    · have ed : ds[i]? = some ds[i] := List.getElem?_eq_getElem hlt
      obtain ⟨v1, v2⟩ := w2 i _ ed
      refine .inr ⟨v1, fun σ2 H2 => ∃ ρ2 G2, Sta F G0 G2 H2 σ2 ρ2 ∧ Same G1 G2 ∧ Iv (i + 1) ρ2, fun σ2 H2 ⟨ρ2, G2, a, b, c⟩ => ⟨ds.length - (i + 1), by omega, rfl, hlt, ρ2, G2, a, b, c⟩, fun x H2 y => ?_⟩
      obtain ⟨G3, gr, rx⟩ := v2 x H2 y
      have s3 := s'.grow gr
      refine turn i _ ρ' ed iv F G0 G3 H2 σ' x s3 rx _ fun σ4 ρ4 s4 _ p4 => ?_
      have gg : Same G1 G3 := g'.trans gr.g
      exact p4 G3 H2 σ4 s4 _ (fun σ5 ρ5 G5 H5 s5 g5 p5 => ⟨ρ5, G5, s5, gg.trans g5, p5⟩) (fun v d σ5 ρ5 G5 H5 s5 g5 r5 p5 => q2 v d σ5 ρ5 G5 H5 s5 ((g1.trans gg).trans g5) r5 p5) (fun σ5 ρ5 G5 H5 s5 g5 p5 => q1 σ5 ρ5 G5 H5 s5 ((g1.trans gg).trans g5) p5) (fun σ5 ρ5 G5 H5 s5 g5 p5 => ⟨ρ5, G5, s5, gg.trans g5, p5⟩)
    · have e : i = ds.length := by omega
      subst e
      exact .inl ⟨w1, q1 σ' ρ' G' H' s' (g1.trans g') (fin ρ' iv)⟩
theorem ws_while {F G0 : Hp} (Iv : Nat → Rho → Prop) {m0 : Nat} (i0 : Iv m0 ρ) (turn : ∀ m ρ', Iv m ρ' → Wt tt ρ' fun b ρ1 => (b = true → Ws F G0 ts ρ1 { nx := fun ρ2 => ∃ m', m' < m ∧ Iv m' ρ2, ct := fun ρ2 => ∃ m', m' < m ∧ Iv m' ρ2, bk := Ψ.nx, rt := Ψ.rt }) ∧ (b = false → Ψ.nx ρ1)) :
    Ws F G0 (tWhile tt ts) ρ Ψ := fun G H σ s D q1 q2 q3 q4 => by
  refine ⟨fun m σ' H' => ∃ ρ' G', Sta F G0 G' H' σ' ρ' ∧ Same G G' ∧ Iv m ρ', ⟨m0, ρ, G, s, Same.refl G, i0⟩, ?_⟩
  rintro m σ' H' ⟨ρ', G', s', g', iv⟩
  refine turn m ρ' iv F G0 G' H' σ' s' _ fun b ρ1 G1 H1 s1 g1 p => ?_
  cases b with
  | true =>
    refine ⟨fun σ2 H2 => ∃ m', m' < m ∧ ∃ ρ' G', Sta F G0 G' H2 σ2 ρ' ∧ Same G G' ∧ Iv m' ρ', fun σ2 H2 h => h, ?_⟩
    exact p.1 rfl G1 H1 σ' s1 _ (fun σ5 ρ5 G5 H5 s5 g5 ⟨m', hm, p5⟩ => ⟨m', hm, ρ5, G5, s5, (g'.trans g1).trans g5, p5⟩) (fun v d σ5 ρ5 G5 H5 s5 g5 r5 p5 => q2 v d σ5 ρ5 G5 H5 s5 ((g'.trans g1).trans g5) r5 p5) (fun σ5 ρ5 G5 H5 s5 g5 p5 => q1 σ5 ρ5 G5 H5 s5 ((g'.trans g1).trans g5) p5) (fun σ5 ρ5 G5 H5 s5 g5 ⟨m', hm, p5⟩ => ⟨m', hm, ρ5, G5, s5, (g'.trans g1).trans g5, p5⟩)
  | false => exact q1 σ' ρ1 G1 H1 s1 (g'.trans g1) (p.2 rfl)
end
end Dv

namespace Dv
open PySem L2

/-! ### comprehensions -/
def wipeR (ρ : Rho) : List Nat → Rho
  | [] => ρ
  | v :: vs => (wipeR ρ vs).set v .any
def keepV : Option Slot → Slot
  | some (.val d) => .val d
  | _ => .any
def mergeR (ρ1 ρ : Rho) : List Nat → Rho
  | [] => ρ
  | v :: vs => (mergeR ρ1 ρ vs).set v (keepV ρ1[v]?)
theorem wipe_out {σ : L2.St} {k : Nat} : ∀ {vs : List Nat}, k ∉ vs → (wipe σ vs)[k]? = σ[k]?
  | [], _ => rfl
  | v :: vs, h => by
    simp only [List.mem_cons, not_or] at h
    unfold wipe
    rw [List.getElem?_set_ne (fun z => h.1 z.symm), wipe_out h.2]
theorem wipe_in {σ : L2.St} {k : Nat} : ∀ {vs : List Nat}, k ∈ vs → k < σ.length → (wipe σ vs)[k]? = some none
  | v :: vs, h, hk => by
    unfold wipe
    by_cases hv : v = k
    · subst hv
      rw [List.getElem?_set_self (by rw [wipe_length]; exact hk)]
    · rw [List.getElem?_set_ne hv]
      refine wipe_in ?_ hk
      rcases List.mem_cons.mp h with z | z
      · exact absurd z.symm hv
      · exact z
theorem wipe_eq {σ1 σ2 : L2.St} {vs : List Nat} (hl : σ1.length = σ2.length) (h : ∀ k, k ∉ vs → σ1[k]? = σ2[k]?) : wipe σ1 vs = wipe σ2 vs := by
  refine List.ext_getElem? fun k => ?_
  by_cases hk : k ∈ vs
  · by_cases hlt : k < σ1.length
    · rw [wipe_in hk hlt, wipe_in hk (by omega)]
    · rw [List.getElem?_eq_none (by rw [wipe_length]; omega), List.getElem?_eq_none (by rw [wipe_length]; omega)]
  · rw [wipe_out hk, wipe_out hk, h k hk]
theorem wipe_wipe {σ : L2.St} {vs : List Nat} : wipe (wipe σ vs) vs = wipe σ vs := wipe_eq (wipe_length σ vs) fun k hk => wipe_out hk
section
variable {F G0 G H G1 H1 : Hp} {σ : L2.St} {ρ ρ1 : Rho}
theorem Sta.wipe (s : Sta F G0 G H σ ρ) : ∀ vs : List Nat, Sta F G0 G H (L2.wipe σ vs) (wipeR ρ vs)
  | [] => s
  | v :: vs => (s.wipe vs).setN
theorem wipeR_len (ρ : Rho) : ∀ vs : List Nat, (wipeR ρ vs).length = ρ.length
  | [] => rfl
  | v :: vs => by unfold wipeR; rw [List.length_set, wipeR_len ρ vs]
theorem mergeR_len (ρ1 ρ : Rho) : ∀ vs : List Nat, (mergeR ρ1 ρ vs).length = ρ.length
  | [] => rfl
  | v :: vs => by unfold mergeR; rw [List.length_set, mergeR_len ρ1 ρ vs]
theorem mergeR_get {k : Nat} {x : Slot} : ∀ {vs : List Nat}, (mergeR ρ1 ρ vs)[k]? = some x → (k ∉ vs ∧ ρ[k]? = some x) ∨ x = keepV ρ1[k]?
  | [], h => .inl ⟨by simp, h⟩
  | v :: vs, h => by
    unfold mergeR at h
    by_cases hv : v = k
    · subst hv
      by_cases hl : v < (mergeR ρ1 ρ vs).length
      · rw [List.getElem?_set_self hl] at h
        exact .inr (Option.some.inj h).symm
      · rw [List.getElem?_eq_none (by rw [List.length_set]; omega)] at h
        cases h
    · rw [List.getElem?_set_ne hv] at h
      rcases mergeR_get h with ⟨h1, h2⟩ | h1
      · exact .inl ⟨by simp only [List.mem_cons, not_or]; exact ⟨fun z => hv z.symm, h1⟩, h2⟩
      · exact .inr h1
theorem keepV_fp {x : Option Slot} : (keepV x).fp = [] := by
  unfold keepV
  split <;> rfl
/-- behind a comprehension the slots are as they were -/
theorem Sta.merge (s : Sta F G0 G H (L2.wipe σ vs) ρ) (s1 : Sta F G0 G1 H1 σ ρ1) (g : Same G1 G) : Sta F G0 G H σ (mergeR ρ1 ρ vs) where
  fh := s.fh
  gh := s.gh
  g0 := s.g0
  new := s.new
  len := by
    have := s.len
    rw [wipe_length] at this
    rw [mergeR_len, this]
  slot := fun k x e => by
    rcases mergeR_get e with ⟨h1, h2⟩ | rfl
    · have q := s.slot k x h2
      rw [wipe_out h1] at q
      exact q
    · cases q : ρ1[k]? with
      | none => trivial
      | some y =>
        have z := s1.slot k y q
        cases y with
        | any => trivial
        | res r => trivial
        | val d =>
          obtain ⟨v, e1, e2⟩ := z
          exact ⟨v, e1, e2.mono g⟩
  apart := fun i j x y hij e1 e2 a ha hb => by
    rcases mergeR_get e1 with ⟨h1, h2⟩ | rfl
    · rcases mergeR_get e2 with ⟨h3, h4⟩ | rfl
      · exact s.apart i j x y hij h2 h4 a ha hb
      · rw [keepV_fp] at hb
        cases hb
    · rw [keepV_fp] at ha
      cases ha
/-- a list of nobody's changes -/
theorem Sta.put {p : Addr} {o : HO} (s : Sta F G0 G H σ ρ) (hF : F p = none) (hG : G p = none) (hn : ∀ (j : Nat) (x : Slot), ρ[j]? = some x → p ∉ x.fp) : Sta F G0 G (L2.upd H p o) σ ρ where
  fh := fun a u e => by
    rw [upd_ne fun z => by rw [z, hF] at e; cases e]
    exact s.fh a u e
  gh := fun a u e => by
    rw [upd_ne fun z => by rw [z, hG] at e; cases e]
    exact s.gh a u e
  g0 := s.g0
  new := s.new
  len := s.len
  slot := fun i x e => by
    have q := s.slot i x e
    cases x with
    | any => trivial
    | val d => exact q
    | res r =>
      obtain ⟨v, e', k, n'⟩ := q
      have hne : ∀ a ∈ r.fp, a ≠ p := fun a ha z => hn i _ e (by rw [← z]; exact ha)
      refine ⟨v, e', r.mono k (Same.refl G) fun a ha => upd_ne (hne a ha), fun a ha => ⟨(n' a ha).1, (n' a ha).2.1, ?_⟩⟩
      rw [upd_ne (hne a ha)]
      exact (n' a ha).2.2
  apart := s.apart
theorem wipeR_get {k : Nat} {x : Slot} : ∀ {vs : List Nat}, (wipeR ρ vs)[k]? = some x → ρ[k]? = some x ∨ x = .any
  | [], h => .inl h
  | v :: vs, h => by
    unfold wipeR at h
    by_cases hv : v = k
    · subst hv
      by_cases hl : v < (wipeR ρ vs).length
      · rw [List.getElem?_set_self hl] at h
        exact .inr (Option.some.inj h).symm
      · rw [List.getElem?_eq_none (by rw [List.length_set]; omega)] at h
        cases h
    · rw [List.getElem?_set_ne hv] at h
      exact wipeR_get h
end
section
variable {te ta tb tc : TE} {tt tu : TT} {tas : TA} {ts tsu : TS} {ρ : Rho} {K : PySem.W.Frag} {g : TG} {wi : TI}
theorem wn_lc {vs js : List Nat} {Φ : List PyData → Rho → Prop} (hj : ∀ k ∈ js, k ∈ vs)
    (h : Wi wi ρ fun ds ρ1 => ds.length < 100000 ∧ ∃ Iv : Nat → List PyData → Rho → Prop, Iv 0 [] (wipeR ρ1 vs) ∧
      (∀ i d acc ρ', ds[i]? = some d → acc.length ≤ i → Iv i acc ρ' → Wg g js d ρ' fun ρ2 => Wt tt ρ2 fun b ρ3 => (b = true → We te ρ3 fun y ρ4 => Iv (i + 1) (acc ++ [y]) (wipeR ρ4 vs)) ∧ (b = false → Iv (i + 1) acc (wipeR ρ3 vs))) ∧
      ∀ acc ρ', Iv ds.length acc ρ' → Φ acc (mergeR ρ1 ρ' vs)) : Wn (tLc wi g tt te vs) ρ Φ := fun F G0 G H σ s Q k =>
  h F G0 G H σ s _ fun J ds ρ1 G1 H1 s1 g1 wk ⟨hl, Iv, i0, turn, fin⟩ => by
    intro D nD
    have nF : F D = none := none_of s1.fh nD
    have st0 : Sta F G0 G1 (L2.upd H1 D (.lst [])) (L2.wipe σ vs) (wipeR ρ1 vs) := (s1.laid nD).wipe vs
    have fp0 : ∀ (j : Nat) (x : Slot), (wipeR ρ1 vs)[j]? = some x → D ∉ x.fp := fun j x e => by
      rcases wipeR_get e with e | rfl
      · exact s1.nofp nD j x e
      · intro z
        cases z
    refine ⟨fun i m H' => m = ds.length - i ∧ i ≤ ds.length ∧ ∃ ρ' G' acc as, Sta F G0 G' H' (L2.wipe σ vs) ρ' ∧ Same G1 G' ∧ H' D = some (.lst acc) ∧ RpA G' acc as ∧ G' D = none ∧ (∀ (j : Nat) (x : Slot), ρ'[j]? = some x → D ∉ x.fp) ∧ as.length ≤ i ∧ Iv i as ρ',
      ⟨ds.length, by omega, Nat.zero_le _, _, G1, [], [], st0, Same.refl G1, upd_same, .nil, none_of s1.gh nD, fp0, Nat.le_refl _, i0⟩, ?_⟩
    rintro i m H' ⟨rfl, hi, ρ', G', acc, as, s', g', hD, ra, nG, fp', hal, iv⟩
    obtain ⟨w1, w2⟩ := wk G' H' g' s'.gh
    by_cases hlt : i < ds.length
    · have ed : ds[i]? = some ds[i] := List.getElem?_eq_getElem hlt
      obtain ⟨v1, v2⟩ := w2 i _ ed
      refine .inr ⟨v1, fun H2 => ∃ ρ2 G2 acc as, Sta F G0 G2 H2 (L2.wipe σ vs) ρ2 ∧ Same G1 G2 ∧ H2 D = some (.lst acc) ∧ RpA G2 acc as ∧ G2 D = none ∧ (∀ (j : Nat) (x : Slot), ρ2[j]? = some x → D ∉ x.fp) ∧ as.length ≤ i + 1 ∧ Iv (i + 1) as ρ2,
        fun H2 ⟨ρ2, G2, acc, as, q⟩ => ⟨ds.length - (i + 1), by omega, rfl, hlt, ρ2, G2, acc, as, q⟩, fun x H2 y => ?_⟩
      obtain ⟨G3, gr, rx⟩ := v2 x H2 y
      have s3 := (s'.hold hD nF nG fp').grow gr
      have nG0 : G0 D = none := none_of s'.g0 nG
      refine turn i _ as ρ' ed hal iv (L2.upd F D (.lst acc)) G0 G3 H2 (L2.wipe σ vs) x s3 rx _ fun σ4 ρ4 s4 e4 p4 => ?_
      have el : σ4.length = (L2.wipe σ vs).length := e4.1
      have ew : L2.wipe σ4 vs = L2.wipe σ vs := by
        rw [← wipe_wipe (σ := σ)]
        exact wipe_eq el fun k hk => e4.2 k fun z => hk (hj k z)
      refine ⟨ew, p4 _ _ _ _ _ s4 _ fun b ρ5 G5 H5 s5 g5 p5 => ?_⟩
      cases b with
      | true =>
        show te σ4 H5 _
        refine p5.1 rfl _ _ _ _ _ s5 _ fun u y ρ6 G6 H6 s6 g6 r6 p6 => ?_
        obtain ⟨s7, hD7, nG7, fp7⟩ := s6.unhold nF nG0
        have ra7 := ra.mono ((gr.g.trans g5).trans g6)
        refine ⟨acc, hD7, by rw [ra.len]; exact szs (by omega), wipeR ρ6 vs, G6, acc ++ [u], as ++ [y], ?_, ((g'.trans gr.g).trans g5).trans g6, upd_same, ra7.app (.one r6), nG7, fun j x e => ?_, by rw [List.length_append]; exact Nat.succ_le_succ hal, p6⟩
        · rw [← ew]
          exact (s7.put nF nG7 fp7).wipe vs
        · rcases wipeR_get e with e | rfl
          · exact fp7 j x e
          · intro z
            cases z
      | false =>
        show ∃ _, _
        obtain ⟨s7, hD7, nG7, fp7⟩ := s5.unhold nF nG0
        refine ⟨wipeR ρ5 vs, G5, acc, as, ?_, (g'.trans gr.g).trans g5, hD7, ra.mono (gr.g.trans g5), nG7, fun j x e => ?_, by omega, p5.2 rfl⟩
        · rw [← ew]
          exact s7.wipe vs
        · rcases wipeR_get e with e | rfl
          · exact fp7 j x e
          · intro z
            cases z
    · have e : i = ds.length := by omega
      subst e
      refine .inl ⟨w1, k D acc as (mergeR ρ1 ρ' vs) G' H' (s'.merge s1 g') (g1.trans g') hD ra nF nG (fun j x e => ?_) (fin as ρ' iv)⟩
      rcases mergeR_get e with ⟨_, e⟩ | rfl
      · exact fp' j x e
      · rw [keepV_fp]
        intro z
        cases z
/-- each item by itself: f tells the element, c the test; nothing else changes -/
theorem wn_lcP {vs js : List Nat} {Φ : List PyData → Rho → Prop} (hj : ∀ k ∈ js, k ∈ vs)
    (h : Wi wi ρ fun ds ρ1 => ds.length < 100000 ∧ mergeR ρ1 (wipeR ρ1 vs) vs = ρ1 ∧ ∃ (c : PyData → Bool) (f : PyData → PyData),
      (∀ d, d ∈ ds → Wg g js d (wipeR ρ1 vs) fun ρ2 => wipeR ρ2 vs = wipeR ρ1 vs ∧ Wt tt ρ2 fun b ρ3 => ρ3 = ρ2 ∧ b = c d ∧ (b = true → We te ρ2 fun y ρ4 => ρ4 = ρ2 ∧ y = f d)) ∧ Φ ((ds.filter c).map f) ρ1) : Wn (tLc wi g tt te vs) ρ Φ := by
  refine wn_lc hj (fun F G0 G H σ s R k => h F G0 G H σ s R fun J ds ρ1 G' H' s' g' w ⟨hl, hm, c, f, turn, fin⟩ => k J ds ρ1 G' H' s' g' w ⟨hl, fun i acc ρ' => acc = ((ds.take i).filter c).map f ∧ ρ' = wipeR ρ1 vs, ⟨rfl, rfl⟩, ?_, ?_⟩)
  · rintro i d acc ρ' ed _ ⟨rfl, rfl⟩
    have q := turn d (List.mem_of_getElem? ed)
    have et : ds.take (i + 1) = ds.take i ++ [d] := by rw [List.take_add_one, ed]; rfl
    refine fun F G0 G H σ v s r Q k => q F G0 G H σ v s r Q fun σ' ρ2 s2 e2 ⟨hw, p⟩ => k σ' ρ2 s2 e2 (p.imp ?_)
    rintro b ρ3 ⟨rfl, rfl, p2⟩
    refine ⟨fun hc => (p2 hc).imp ?_, fun hc => ⟨?_, hw⟩⟩
    · rintro y ρ4 ⟨rfl, rfl⟩
      refine ⟨?_, hw⟩
      rw [et, List.filter_append, List.map_append, List.filter_cons, hc]
      rfl
    · rw [et, List.filter_append, List.map_append, List.filter_cons, hc]
      simp
  · rintro acc ρ' ⟨rfl, rfl⟩
    rw [List.take_length, hm]
    exact fin
end
end Dv

namespace Dv
open PySem L2 PyProof.Rows

/-! ### defs that run where no container is being shown (so repr of a list may be told) -/
structure FnG (P : Program) (w : World) (K : PySem.W.Frag) (mg : Str → Option Value) (base : Heap) (cx : CXT) (k : Nat) (f : Addr) (fd : FuncData) (ps : List Str) (sp : Sp) : Prop where
  len : ∀ vs H Q E, sp vs H Q E → vs.length = ps.length
  run : ∀ (A : Around) (outer : List PySem.Env) (s : Shared) (H : Hp) (args : Args) (us : List Value) (vs : List V) (Q : VK) (E : XK), Room k A → A.guards = some [] →
    Env0 P w K mg base A outer s H → BindsTo s fd args (ps.zip us) → Vals vs us → sp vs H Q E → codeAny (model P w) A (.call (.ref f) args) (CR cx outer P w H s Q E) s
section
variable {P : Program} {w : World} {K : PySem.W.Frag} {mg : Str → Option Value} {base : Heap} {cx : CXT} {f : Addr} {ps : List Str} {sp : Sp}
theorem FnG.mono {j k : Nat} {fd : FuncData} (F : FnG P w K mg base cx j f fd ps sp) (h : j ≤ k) : FnG P w K mg base cx k f fd ps sp :=
  ⟨F.len, fun A outer s H args us vs Q E r => F.run A outer s H args us vs Q E (r.mono h)⟩
theorem FnG.imp {k : Nat} {fd : FuncData} {sp' : Sp} (F : FnG P w K mg base cx k f fd ps sp) (h : ∀ vs H Q E, sp' vs H Q E → sp vs H Q E) : FnG P w K mg base cx k f fd ps sp' :=
  ⟨fun vs H Q E q => F.len vs H Q E (h vs H Q E q), fun A outer s H args us vs Q E r g e b v q => F.run A outer s H args us vs Q E r g e b v (h vs H Q E q)⟩
/-- a def of the text by its body -/
theorem FnG.of {k : Nat} {name qual : Str} {params : Arguments} {body : List Stmt} {scope : Scope} {dV kV doc pm cdv ct oc : Value} {an od : Option Addr} {osl : Array (Option Value)} {N : List Str}
    (lk : K.lookup f = some ⟨oc, od, .func (PySem.W.fnOf name qual params body scope dV kV doc pm an cdv ct), osl⟩) (hcd : PySem.W.codeIn K cdv qual = true) (S : FnScope N ps scope)
    (len : ∀ vs H Q E, sp vs H Q E → vs.length = ps.length)
    (hb : ∀ (A : Around) (outer : List PySem.Env) (s : Shared) (H : Hp) (vs : List V) (Q : VK) (E : XK), Room k (A.deeper (envOfC qual scope s.heap.objs.size f cdv)) →
      (cxOf cx P w K mg base N qual scope f cdv A outer s H E).A.guards = some [] → sp vs H Q E →
      ∃ t, PSs (cxOf cx P w K mg base N qual scope f cdv A outer s H E) body t ∧ t { nx := fun _ H' => Q .non H', rt := Q } (L2.start N vs) H) :
    FnG P w K mg base cx (k + 1) f (PySem.W.fnOf name qual params body scope dV kV doc pm an cdv ct) ps sp where
  len := len
  run := by
    intro A outer s H args us vs Q E hr hg e0 hbind rv hsp
    have hin : ∀ b o, base.get? b = some o → s.heap.get? b = some o := fun b o e => (e0.bs b o e).1
    have KX : K.In s.heap := e0.mod.kin.keeps hin
    have kinds : ∀ y ∈ ps.zip us, scope.names.lookup y.1 = some .local ∨ (scope.names.lookup y.1 = some .cell ∧ ((cellsFrom (s.heap.objs.size + 1) scope.names []).lookup y.1).isSome = true) := by
      rintro ⟨n, v⟩ hy
      have hp : n ∈ ps := (List.of_mem_zip hy).1
      cases S.par n hp with
      | inl q => exact Or.inl q
      | inr q => exact Or.inr ⟨q, PySem.W.cellsFrom_some _ _ _ (.inl q)⟩
    refine codeAny_call_function hr.depth (KX _ _ lk) rfl S.co S.gen rfl (PySem.W.codeRec_of KX hcd) (hbind _ _ _ _ ?_)
    refine wpAny_newFunctionEnv_cells S.kind kinds fun env he s1 x => ?_
    subst he
    refine ⟨(e0.mod.nolimit.keeps hin).keeps x.toInCall.keep, codeAny_func ?_⟩
    obtain ⟨t, ht, hq⟩ := hb A outer s H vs Q E (hr.deeper _) hg hsp
    have I : L2.Inv (cxOf cx P w K mg base N qual scope f cdv A outer s H E) [] (L2.start N vs) H s1 := inv_start S hr.hd e0 (len _ _ _ _ hsp) rv x
    refine wpAny_mono (ht.run [] s1 _ H _ I hq) ?_ fun _ _ h => h
    intro fl s' h
    cases fl with
    | next =>
      obtain ⟨σ', H', J, q⟩ := h
      exact ⟨.non, H', J.os, J.bare, J.base, J.hok, rfl, q⟩
    | ret u =>
      obtain ⟨v, σ', H', J, r, q⟩ := h
      exact ⟨v, H', J.os, J.bare, J.base, J.hok, r, q⟩
    | brk =>
      obtain ⟨_, _, _, q⟩ := h
      exact q.elim
    | cont =>
      obtain ⟨_, _, _, q⟩ := h
      exact q.elim
end

/-! ### calls of such defs -/
section
variable {X : Cx} {cx : CXT} {k : Nat} {f : Addr} {fd : FuncData} {ps ks : List Str} {sp : Sp} {dvs : List V} {ds : List Value} {E : XK} {x : Str} {p pos : Pos} {e : Expr} {es : List Expr} {kws : List Keyword} {t tk : TA}
theorem run_g {args : Args} {pins : List (Addr × Obj)} {σ : L2.St} {H : Hp} {s : Shared} {Q : VK} {us : List Value} {vs : List V} (F : FnG X.prog X.w X.K X.mg X.base cx k f fd ps sp) (hr : Room k X.A) (hg : X.A.guards = some []) (hx : Passes cx X E) (I : L2.Inv X pins σ H s)
    (hb : BindsTo s fd args (ps.zip us)) (r : Vals vs us) (h : sp vs H Q E) : codeAny (model X.prog X.w) X.A (.call (.ref f) args) (fun r s' => match r with
      | .ok (.ret u) => EP X pins σ Q u s'
      | .ok _ => False
      | .error e => X.xe e s') s := by
  refine codeAny_mono (F.run X.A X.stack s H args us vs Q E hr hg I.env0 hb r h) ?_
  intro r s' hq
  cases r with
  | error e => exact hx pins σ H s e s' I hq
  | ok fl =>
    cases fl with
    | ret u => exact I.after hq
    | next => exact hq.elim
    | brk => exact hq.elim
    | cont => exact hq.elim
theorem call_g {kw : List (Str × Value)} {pins : List (Addr × Obj)} {σ : L2.St} {H : Hp} {s : Shared} {Q : VK} {us0 us : List Value} {vs : List V} (F : FnG X.prog X.w X.K X.mg X.base cx k f fd ps sp) (hr : Room k X.A) (hg : X.A.guards = some []) (hx : Passes cx X E) (I : L2.Inv X pins σ H s)
    (hb : BindsTo s fd ⟨us0, kw⟩ (ps.zip us)) (r : Vals vs us) (h : sp vs H Q E) : wpAny (model X.prog X.w) X.A (call (.ref f) us0 kw) (EP X pins σ Q) X.xe s := by
  refine wpAny_call (codeAny_mono (run_g F hr hg hx I hb r h) ?_)
  intro r s' hq
  cases r with
  | error e => exact hq
  | ok fl =>
    cases fl with
    | ret u => exact hq
    | next => exact hq.elim
    | brk => exact hq.elim
    | cont => exact hq.elim
/-- f(e, ..) -/
theorem pe_cg (F : FnG X.prog X.w X.K X.mg X.base cx k f fd ps sp) (hr : Room k X.A) (hgd : X.A.guards = some []) (hg : Gl X x) (hm : X.mg x = some (.ref f)) (hk : PySem.W.keepIn X.K (.ref f) = true) (hb : Binds X.K fd ps ds) (hd : Vals dvs ds) (hx : Passes cx X E)
    (ha : PA X (e :: es) t) (hdb : (x == ("__debug__" : Str)) = false := by decide) (he : starEach (e :: es) X.env = (false, eval e X.env) :: starEach es X.env := by rfl) (hpl : (backTo pos (starEach es X.env)).any (·.1) = false := by rfl) :
    PE X (.Call (.Name x p) (e :: es) [] pos) (tCall sp dvs E t) where
  run := by
    intro pins s σ H Q I h
    refine wpAny_Call_Name_kw (ld_glob I hg hm ?_ hdb)
    refine PySem.W.callWith_K (h₀ := X.base) I.ok.mod.kin hk (thn (ha.run pos pins s σ H _ I h) ?_) he hpl
    rintro us s1 ⟨vs, H1, I1, r, q⟩
    have r2 := r.append hd
    exact ⟨I1.kIn, call_g F hr hgd hx I1 (hb s1 us I1.kIn (by rw [← r2.length]; exact F.len _ _ _ _ q)) r2 q⟩
/-- f() -/
theorem pe_cg0 (F : FnG X.prog X.w X.K X.mg X.base cx k f fd ps sp) (hr : Room k X.A) (hgd : X.A.guards = some []) (hg : Gl X x) (hm : X.mg x = some (.ref f)) (hk : PySem.W.keepIn X.K (.ref f) = true) (hb : Binds X.K fd ps ds) (hd : Vals dvs ds) (hx : Passes cx X E)
    (hdb : (x == ("__debug__" : Str)) = false := by decide) : PE X (.Call (.Name x p) [] [] pos) (tCall sp dvs E tNil) where
  run := by
    intro pins s σ H Q I h
    refine wpAny_Call_Name_kw (ld_glob I hg hm ?_ hdb)
    have r2 : Vals ([] ++ dvs) ([] ++ ds) := Vals.append .nil hd
    exact PySem.W.callWith_K0 I.kIn hk (call_g F hr hgd hx I (hb s [] I.kIn (by rw [← r2.length]; exact F.len _ _ _ _ h)) r2 h)
/-- f(k = v, ..), f(e, .., k = v, ..): gV puts the values in the parameters' order -/
theorem pe_cgK (F : FnG X.prog X.w X.K X.mg X.base cx k f fd ps sp) (hr : Room k X.A) (hgd : X.A.guards = some []) (hg : Gl X x) (hm : X.mg x = some (.ref f)) (hk : PySem.W.keepIn X.K (.ref f) = true) {g : List Value → List Value → List Value} {gV : List V → List V → List V} (hb : KBinds X.K fd ps ks g gV) (hx : Passes cx X E)
    (ha : PA X (e :: es) t) (hkw : PK X kws tk) (hall : (backToKw pos (keywordEach kws X.env)).all (·.1.isSome) = true := by rfl) (hks : (backToKw pos (keywordEach kws X.env)).filterMap (·.1) = ks := by rfl)
    (hdb : (x == ("__debug__" : Str)) = false := by decide) (he : starEach (e :: es) X.env = (false, eval e X.env) :: starEach es X.env := by rfl)
    (hpl : ((backTo pos (starEach (e :: es) X.env)).any (·.1) || (backToKw pos (keywordEach kws X.env)).any (·.1.isNone)) = false := by rfl) :
    PE X (.Call (.Name x p) (e :: es) kws pos) (tCallK sp gV E t tk) where
  run := by
    intro pins s σ H Q I h
    refine wpAny_Call_Name_kw (ld_glob I hg hm ?_ hdb)
    refine PySem.W.callWith_KW (h₀ := X.base) I.ok.mod.kin hk hall (thn (ha.run pos pins s σ H _ I h) ?_) hpl he
    rintro us s1 ⟨vs, H1, I1, r, q⟩
    refine thn (hkw.run pos pins s1 σ H1 _ I1 q) ?_
    rintro ws s2 ⟨zs, H2, I2, rz, q2⟩
    have r2 := hb.rel r rz
    rw [hks]
    exact ⟨I2.kIn, call_g F hr hgd hx I2 (hb.to s2 us ws I2.kIn (by rw [← r2.length]; exact F.len _ _ _ _ q2)) r2 q2⟩
theorem pe_cgK0 (F : FnG X.prog X.w X.K X.mg X.base cx k f fd ps sp) (hr : Room k X.A) (hgd : X.A.guards = some []) (hg : Gl X x) (hm : X.mg x = some (.ref f)) (hk : PySem.W.keepIn X.K (.ref f) = true) {g : List Value → List Value → List Value} {gV : List V → List V → List V} (hb : KBinds X.K fd ps ks g gV) (hx : Passes cx X E)
    (hkw : PK X kws tk) (hall : (backToKw pos (keywordEach kws X.env)).all (·.1.isSome) = true := by rfl) (hks : (backToKw pos (keywordEach kws X.env)).filterMap (·.1) = ks := by rfl)
    (hdb : (x == ("__debug__" : Str)) = false := by decide) (hpl : ((backTo pos (starEach [] X.env)).any (·.1) || (backToKw pos (keywordEach kws X.env)).any (·.1.isNone)) = false := by rfl) :
    PE X (.Call (.Name x p) [] kws pos) (tCallK sp gV E tNil tk) where
  run := by
    intro pins s σ H Q I h
    refine wpAny_Call_Name_kw (ld_glob I hg hm ?_ hdb)
    refine PySem.W.callWith_KW0 (h₀ := X.base) I.ok.mod.kin hk hall ?_ hpl
    refine thn (hkw.run pos pins s σ H _ I h) ?_
    rintro ws s2 ⟨zs, H2, I2, rz, q2⟩
    have r2 := hb.rel (vs := []) (us := []) .nil rz
    rw [hks]
    exact ⟨I2.kIn, call_g F hr hgd hx I2 (hb.to s2 [] ws I2.kIn (by rw [← r2.length]; exact F.len _ _ _ _ q2)) r2 q2⟩
end

/-! ### the law's own call -/
theorem law_callG {P : Program} {w : World} {K : PySem.W.Frag} {mg mb : Str → Option Value} {cx : CXT} {k : Nat} {fa a : Addr} {fd : FuncData} {x : Str} {sp : Sp} {s1 : Shared} {vs : List Value} {ns : List Int}
    (KX : K.In s1.heap) (hns : s1.heap.Ns mainGlobals mg) (hb : s1.heap.Ns builtinsNs mb) (hbb : ∀ x : Str, x ≠ "__name__" → mb x = bootBuiltins x) (hlim : s1.heap.NoLimit) (hgen : s1.gens = #[])
    (ha : s1.heap.get? a = some { cls := .type "list", data := .seq vs.toArray }) (hi : IntsAre vs ns) (hl : ns.length ≤ sizeLine) (hr : Room k callerA)
    (F : ∀ base : Heap, K.In base → base.Ns mainGlobals mg → FnG P w K mg base cx k fa fd [x] sp) (hbind : ∀ (s : Shared) (u : Value), BindsTo s fd ⟨[u], []⟩ [(x, u)])
    (hsp : ∀ H : Hp, Only H → SqL K H a (ns.map V.int) → sp [.ref a] H (fun v _ => v = .bl true) fun _ _ _ => False)
    (hcx : ∀ H e s', cx [] H s1 (fun _ _ _ => False) e s' → False) :
    codeAny (model P w) callerA (.call (.ref fa) ⟨[.ref a], []⟩) (fun r s' => r = .ok (.ret (.bool true)) ∧ OldK s1.heap s'.heap ∧ s'.os = s1.os ∧ AllBare s'.gens) s1 := by
  have rv := vals_ints hi
  have hlen := hi.length
  -- H tells the script at most
  have go : ∀ H : Hp, Only H → SqL K H a (ns.map V.int) → HOk P w H s1.heap → (∀ b, H b ≠ none → b = a) → (H a ≠ none → K.lookup a = none) →
      codeAny (model P w) callerA (.call (.ref fa) ⟨[.ref a], []⟩) (fun r s' => r = .ok (.ret (.bool true)) ∧ OldK s1.heap s'.heap ∧ s'.os = s1.os ∧ AllBare s'.gens) s1 := by
    intro H hO hS hok hA hKa
    have isA : ∀ {b : Addr} {u : HO}, H b = some u → b = a := fun {b u} e => hA b (by rw [e]; exact fun z => nomatch z)
    have noD : ∀ {b : Addr} {o : Obj} {es : Array DictEntry} {ep : Nat}, s1.heap.get? b = some o → o.data = .dict es ep → H b = none := by
      intro b o es ep e d
      match q : H b with
      | none => rfl
      | some u =>
        rw [isA q, ha] at e
        cases e
        exact absurd (show Data.seq vs.toArray _ = Data.dict es ep from d) (fun z => nomatch z)
    have nsH : ∀ {b : Addr} {m : Str → Option Value}, s1.heap.Ns b m → (hidT s1.heap H).Ns b m := by
      rintro b m ⟨o, es, ep, e, d, r⟩
      exact ⟨o, es, ep, hidT_get e (noD e d), d, r⟩
    have kin : K.In (hidT s1.heap H) := by
      intro b o e
      refine hidT_get (KX b o e) ?_
      match q : H b with
      | none => rfl
      | some u =>
        have z := isA q
        subst z
        rw [hKa (by rw [q]; exact fun z => nomatch z)] at e
        cases e
    obtain ⟨mc, lim1, lim2⟩ := hlim
    have M : Mod K mg (hidT s1.heap H) := ⟨kin, nsH hns, ⟨mb, nsH hb, hbb⟩, mc, nsH lim1, lim2⟩
    have e0 : Env0 P w K mg (hidT s1.heap H) callerA [] s1 H :=
      ⟨rfl, M, fun b o e => of_hidT e, Nat.le_of_eq (hidT_size _ _), trivial, fun b hb => absurd (show b ∈ ([] : List Addr) from hb) List.not_mem_nil, hok, .of_eq hgen⟩
    refine codeAny_mono ((F _ kin (nsH hns)).run callerA [] s1 H ⟨[.ref a], []⟩ [.ref a] [.ref a] _ _ hr rfl e0 (hbind s1 (.ref a)) (.cons rfl .nil) (hsp H hO hS)) ?_
    intro r s' h
    match r, h with
    | .error e, h => exact (hcx H e s' h).elim
    | .ok .next, h => exact h.elim
    | .ok .brk, h => exact h.elim
    | .ok .cont, h => exact h.elim
    | .ok (.ret u), h =>
      obtain ⟨v, H', hos, bare, un, hok', rvu, qv⟩ := h
      have qv' : v = .bl true := qv
      subst qv'
      have ru : u = Value.bool true := rvu
      subst ru
      refine ⟨rfl, OldK.of_keep fun b o e => ?_, hos, bare⟩
      match q : H b with
      | none => exact un.keep b o e q (fun z => absurd (show b ∈ ([] : List Addr) from z) List.not_mem_nil) List.not_mem_nil
      | some u =>
        match hO b with
        | .inl z => rw [q] at z; cases z
        | .inr ⟨ob, xs, z⟩ =>
          obtain ⟨e1, _⟩ := hok b _ z
          obtain ⟨e2, _⟩ := hok' b _ (un.frzs b ob _ z)
          rw [e] at e1
          cases e1
          exact e2
  match hk : K.lookup a with
  | some o =>
    have e := KX a o hk
    rw [ha] at e
    cases e
    refine go (fun _ => none) (fun _ => .inl rfl) (.inr ⟨_, vs.toArray, _, hk, rfl, rfl, rfl, ?_, ?_⟩) (fun b u z => absurd (show (none : Option HO) = some u from z) fun z => nomatch z) (fun b z => absurd rfl z) fun z => absurd rfl z
    · rw [List.size_toArray, hlen]
      exact hl
    · simpa using rv
  | none =>
    let o : Obj := { cls := .type "list", data := .seq vs.toArray }
    let Hs : Hp := fun b => if b = a then some (.frz o (.lst (ns.map V.int))) else none
    have h1 : Hs a = some (.frz o (.lst (ns.map V.int))) := if_pos rfl
    have h2 : ∀ b, b ≠ a → Hs b = none := fun b hb => if_neg hb
    have h3 : ∀ b, Hs b ≠ none → b = a := fun b hb => Decidable.byContradiction fun z => hb (h2 b z)
    refine go Hs (fun b => ?_) (.inl (.inr ⟨o, h1⟩)) (fun b u z => ?_) h3 fun _ => hk
    · by_cases hb : b = a
      · subst hb
        exact .inr ⟨_, _, h1⟩
      · exact .inl (h2 b hb)
    · have hb := h3 b (by rw [z]; exact fun z => nomatch z)
      subst hb
      rw [h1] at z
      cases z
      exact ⟨ha, by rw [List.length_map]; exact hl, vs, _, rv, ha⟩
theorem walk_ofG {l : PySem.W.OpenLaw} {n k : Nat} {q : Program} {loose : List Str} {XP : (Str → Option Value) → Heap → Prop} {YP : World → Heap → Prop} {d : DefRec} {K : Params → PySem.W.Frag} {cx : World → CXT} {sp : World → Sp} {x : Str}
    (hn : l.most = some n) (hn2 : n ≤ sizeLine) (hdf : d.params.defaults = []) (hr : Room k callerA)
    (hY : ∀ (w : World) (h : Heap), YP w h → (K w.params).In h)
    (F : ∀ (w : World) (mg : Str → Option Value) (fa : Addr) (h : Heap), (K w.params).In h → h.Ns mainGlobals mg → mg d.name = some (.ref fa) →
      ∃ fd : FuncData, (∀ (s : Shared) (u : Value), BindsTo s fd ⟨[u], []⟩ [(x, u)]) ∧
        ∀ base : Heap, (K w.params).In base → base.Ns mainGlobals mg → FnG l.prog w (K w.params) mg base (cx w) k fa fd [x] (sp w))
    (hsp : ∀ (w : World) (H : Hp) (a : Addr) (ns : List Int), ns.length ≤ n → Only H → SqL (K w.params) H a (ns.map V.int) → sp w [.ref a] H (fun v _ => v = .bl true) fun _ _ _ => False)
    (hcx : ∀ (w : World) (H : Hp) (s : Shared) (e : Value) (s' : Shared), cx w [] H s (fun _ _ _ => False) e s' → False) :
    PySem.W.WalkO q loose XP YP l.row.toRowW d [] (fun f vs => PySem.call f vs) := by
  refine Att.attach_call hn hdf fun w s0 s1 mg mb fa o pm cd doc a vs ns G Y ho hd hcd hmg hobj hints hlen hgen => ?_
  obtain ⟨fd, hb, hF⟩ := F w mg fa _ (hY w _ Y) G.T.g hmg
  exact law_callG (hY w _ Y) G.T.g G.T.b G.T.builtins G.T.nolimit hgen hobj hints (Nat.le_trans hlen hn2) hr hF hb (fun H hO hS => hsp w H a ns hlen hO hS) fun H e s' => hcx w H s1 e s'
end Dv

namespace Dv
open PySem L2 PyProof.Rows

/-! ### data without dicts, for the library's rules on data -/
mutual
theorem Rp.dp {K : PySem.W.Frag} {H : Hp} : ∀ {d : PyData} {v : V}, d.hasDict = false → Rp H v d → L2.Dp K H v d
  | .none, _, _, h => by cases h; exact .non
  | .bool b, _, _, h => by cases h; exact .bl b
  | .int b, _, _, h => by cases h; exact .int b
  | .str b, _, _, h => by cases h; exact .str b
  | .list ds, _, n, h => by
    cases h with
    | lst h1 h2 => exact .lst (.inl (.inl h1)) (RpA.dp (by simpa only [PyData.hasDict] using n) h2)
  | .tuple ds, _, n, h => by
    cases h with
    | tup h1 h2 => exact .tup (.inl (.inl h1)) (RpA.dp (by simpa only [PyData.hasDict] using n) h2)
  | .dict ds, _, n, h => by simp [PyData.hasDict] at n
theorem RpA.dp {K : PySem.W.Frag} {H : Hp} : ∀ {ds : List PyData} {vs : List V}, PyData.hasDictAll ds = false → RpA H vs ds → L2.DpAll K H vs ds
  | [], _, _, h => by cases h; exact .nil
  | d :: ds, _, n, h => by
    cases h with
    | cons h1 h2 =>
      simp only [PyData.hasDictAll, Bool.or_eq_false_iff] at n
      exact .cons (Rp.dp n.1 h1) (RpA.dp n.2 h2)
end
/-- what == and repr may look at -/
structure Okd (d : PyData) : Prop where
  nd : d.hasDict = false
  sh : SeqAt.shaped d = true
structure Oks (d : PyData) : Prop where
  nd : d.hasDict = false
  sh : d.showable = true
  dp : d.depth ≤ 60
  sz : d.shown.length ≤ sizeLine

section
variable {X : Cx} {K : PySem.W.Frag} {φ : PyData → Prop}
/-! ### operators -/
def rAddS : R2 := fun x y H Q => ∃ i j, x = .str i ∧ y = .str j ∧ i.length + j.length ≤ sizeLine ∧ Q (.str (i ++ j)) H
def rAdd1 : R2 := fun x y H Q => rI0 (fun i j => .int (i + j)) x y H Q ∨ rAddS x y H Q
def rAddL (K : PySem.W.Frag) : R2 := fun x y H Q => rCat x y H Q ∨ rCatA K x y H Q
def rAddU (K : PySem.W.Frag) : R2 := fun x y H Q => rAdd1 x y H Q ∨ rAddL K x y H Q
theorem op_addU : OpR X (binaryOp .Add) (rAddU X.K) := (op_add.or op_add_str).or (op_cat.or op_catA)
theorem op2_addI {i j : Int} (q : φ (.int (i + j))) : Op2 (rAddU K) (.int i) (.int j) φ := .orl (.orl (op2_I0 q))
theorem op2_addS {i j : Str} (h : i.length + j.length ≤ sizeLine) (q : φ (.str (i ++ j))) : Op2 (rAddU K) (.str i) (.str j) φ := .orl (.orr (.flat (fun _ => .str _) (fun G H v u r1 r2 Q k => by cases r1; cases r2; exact ⟨i, j, rfl, rfl, h, k⟩) q))
theorem op2_addL {xs ys : List PyData} (h : xs.length + ys.length ≤ 100000) (q : φ (.list (xs ++ ys))) : Op2 (rAddU K) (.list xs) (.list ys) φ := fun G H v u s r1 r2 Q k => by
  cases r1 with
  | lst h1 h2 =>
    cases r2 with
    | lst h3 h4 =>
      refine .inr (.inl ⟨_, _, _, _, rfl, rfl, s _ _ h1, s _ _ h3, by rw [h2.len, h4.len]; exact szl h, fun p hp => ?_⟩)
      have ng := none_of s hp
      refine k _ _ (upd G p (.lst _)) _ (.laid s hp) (.lst upd_same ((h2.app h4).mono (same_upd ng))) q
theorem op2_addT {xs ys : List PyData} (h : xs.length + ys.length ≤ 100000) (q : φ (.tuple (xs ++ ys))) : Op2 (rAddU K) (.tuple xs) (.tuple ys) φ := fun G H v u s r1 r2 Q k => by
  cases r1 with
  | tup h1 h2 =>
    cases r2 with
    | tup h3 h4 =>
      refine .inr (.inr ⟨_, _, _, _, rfl, rfl, .inl (.inl (s _ _ h1)), .inl (.inl (s _ _ h3)), by rw [h2.len, h4.len]; exact szl h, fun e => ?_, fun e e2 => ?_, fun e e2 p hp => ?_⟩)
      · subst e
        cases h2
        exact k _ _ G H (.refl s) (.tup h3 h4) (by simpa using q)
      · subst e2
        cases h4
        exact k _ _ G H (.refl s) (.tup h1 h2) (by simpa using q)
      · have ng := none_of s hp
        refine k _ _ (upd G p (.tup _)) _ (.laid s hp) (.tup upd_same ((h2.app h4).mono (same_upd ng))) q
/-- - of ints -/
theorem op2_sub {i j : Int} (q : φ (.int (i - j))) : Op2 (rI0 fun i j => .int (i - j)) (.int i) (.int j) φ := op2_I0 q

/-! * -/
theorem tooLong_no {n : Nat} (h : n ≤ 16777216) : Builtin.Str.tooLong n = false := by
  unfold Builtin.Str.tooLong
  rw [decide_eq_false_iff_not, sizeLine_eq]
  omega
def repS (z : Str) (n : Nat) : Str := ⟨(List.replicate n z.cps.toList).flatten.toArray⟩
theorem fold_app {α : Type} (xs : Array α) : ∀ (n : Nat) (acc : Array α), (List.replicate n xs).foldl (· ++ ·) acc = (acc.toList ++ (List.replicate n xs.toList).flatten).toArray
  | 0, acc => by simp
  | n + 1, acc => by
    rw [List.replicate_succ, List.foldl_cons, fold_app xs n, List.replicate_succ]
    simp
theorem repS_len {z : Str} {n : Nat} : (repS z n).length = z.length * n := by
  show ((List.replicate n z.cps.toList).flatten.toArray).size = z.cps.size * n
  simp [Nat.mul_comm]
def rMulS : R2 := fun x y H Q => ∃ (z : Str) (n : Int), x = .str z ∧ y = .int n ∧ -(2 ^ 40) < n ∧ n < 2 ^ 40 ∧ z.length * n.toNat ≤ 16777216 ∧ Q (.str (repS z n.toNat)) H
theorem op_mulS : OpR X (binaryOp .Mult) rMulS := by
  intro pins s σ H x y v u Q I r1 r2 h
  obtain ⟨z, n, rfl, rfl, h0, h1, h2, q⟩ := h
  obtain ⟨t, rfl⟩ := r1
  obtain ⟨t', rfl⟩ := r2
  by_cases hn : n < 1
  · have e : repS z n.toNat = Str.empty := by
      rw [show n.toNat = 0 by omega]
      rfl
    rw [e] at q
    exact PySem.P.mul_str_none hn (by omega) ⟨.str _, H, I.tok _, ⟨_, rfl⟩, q⟩
  · have hb : (z.length : Int) ≤ (2 ^ 63 - 1) / n := by
      rw [Int.le_ediv_iff_mul_le (by omega)]
      have e : n = (n.toNat : Int) := by omega
      have h3 : ((z.length * n.toNat : Nat) : Int) ≤ 16777216 := Int.ofNat_le.mpr h2
      rw [Int.natCast_mul, ← e] at h3
      omega
    refine PySem.P.mul_str ?_ (fun _ _ => by omega) (fun _ _ => tooLong_no h2) ?_
    · rw [decide_eq_false (by omega : ¬ n < -(2 ^ 63 : Int)), decide_eq_false (by omega : ¬ n ≥ 2 ^ 63)]
      rfl
    · rw [if_neg hn]
      by_cases hc : (n == 1 || z.length == 0) = true
      · rw [if_pos hc]
        have e : repS z n.toNat = z := by
          simp only [Bool.or_eq_true, beq_iff_eq] at hc
          rcases hc with hc | hc
          · subst hc
            show (⟨(List.replicate 1 z.cps.toList).flatten.toArray⟩ : Str) = z
            simp
          · have e0 : z.cps = #[] := Array.eq_empty_of_size_eq_zero hc
            unfold repS
            cases z
            simp at e0
            subst e0
            simp
        rw [e] at q
        exact ⟨.str _, H, I, ⟨_, rfl⟩, q⟩
      · rw [if_neg hc]
        have e : (⟨(List.replicate n.toNat z.cps).foldl (· ++ ·) #[]⟩ : Str) = repS z n.toNat := by
          rw [fold_app]
          simp [repS]
        rw [e]
        exact ⟨by rw [repS_len, sizeLine_eq]; exact h2, .str _, H, I.tok _, ⟨_, rfl⟩, q⟩
def rMulU : R2 := fun x y H Q => (rI CMul (fun i j => .int (i * j)) x y H Q ∨ rMulS x y H Q) ∨ rRep x y H Q
theorem op_mulU : OpR X (binaryOp .Mult) rMulU := (op_mul.or op_mulS).or op_rep
theorem op2_mulI {i j : Int} (h : CMul i j) (q : φ (.int (i * j))) : Op2 rMulU (.int i) (.int j) φ := .orl (.orl (op2_I h q))
theorem op2_mulS {z : Str} {n : Int} (h0 : -(2 ^ 40) < n) (h1 : n < 2 ^ 40) (h2 : z.length * n.toNat ≤ 16777216) (q : φ (.str (repS z n.toNat))) : Op2 rMulU (.str z) (.int n) φ :=
  .orl (.orr (.flat (fun _ => .str _) (fun G H v u r1 r2 Q k => by cases r1; cases r2; exact ⟨z, n, rfl, rfl, h0, h1, h2, k⟩) q))
def CPowW (i j : Int) : Prop := 0 ≤ j ∧ (Builtin.Int.intBits i : Int) * j ≤ 2 ^ 27
theorem op_powW : OpR X (binaryOp .Pow) (rI CPowW fun i j => .int (i ^ j.toNat)) := opI fun _ _ _ _ _ _ _ hc q => pow_int hc.1 hc.2 q
theorem powW_ok {i : Int} {j n : Nat} (h : i.natAbs < 2 ^ n) (hj : n * j ≤ 134217728) : CPowW i j := by
  refine ⟨by omega, ?_⟩
  have b := intBits_le h
  have h3 : (Builtin.Int.intBits i : Int) * (j : Int) ≤ (n : Int) * j := Int.mul_le_mul_of_nonneg_right (by omega) (by omega)
  have h4 : ((n * j : Nat) : Int) ≤ 134217728 := Int.ofNat_le.mpr hj
  rw [Int.natCast_mul] at h4
  have e : (2 : Int) ^ 27 = 134217728 := by decide
  omega

/-! ### comparisons -/
def rEqU (K : PySem.W.Frag) : R2 := fun x y H Q => rEq x y H Q ∨ rEqD K x y H Q
def rNeU (K : PySem.W.Frag) : R2 := fun x y H Q => rNe x y H Q ∨ rNeD K x y H Q
theorem op_eqU (hu : X.A.units + 64 < cLine) : OpR X (compareOp .Eq) (rEqU X.K) := op_eq.or (op_eqD hu)
theorem op_neU (hu : X.A.units + 64 < cLine) : OpR X (compareOp .NotEq) (rNeU X.K) := op_ne.or (op_neD hu)
theorem op2_eqI {i j : Int} (q : φ (.bool (i == j))) : OpF2 (rEqU K) (.int i) (.int j) φ := fun G H v u s r1 r2 Q k => by
  cases r1
  cases r2
  refine .inl ⟨rfl, ?_⟩
  rw [dec_int]
  exact k _ _ (fun _ => .bl _) q
theorem op2_neI {i j : Int} (q : φ (.bool (!(i == j)))) : OpF2 (rNeU K) (.int i) (.int j) φ := fun G H v u s r1 r2 Q k => by
  cases r1
  cases r2
  refine .inl ⟨rfl, ?_⟩
  rw [dec_int]
  exact k _ _ (fun _ => .bl _) q
theorem op2_eqS {i j : Str} (q : φ (.bool (i == j))) : OpF2 (rEqU K) (.str i) (.str j) φ := fun G H v u s r1 r2 Q k => by
  cases r1
  cases r2
  refine .inl ⟨rfl, ?_⟩
  rw [dec_str]
  exact k _ _ (fun _ => .bl _) q
theorem op2_neS {i j : Str} (q : φ (.bool (!(i == j)))) : OpF2 (rNeU K) (.str i) (.str j) φ := fun G H v u s r1 r2 Q k => by
  cases r1
  cases r2
  refine .inl ⟨rfl, ?_⟩
  rw [dec_str]
  exact k _ _ (fun _ => .bl _) q
theorem op2_eqB {i j : Bool} (q : φ (.bool (i == j))) : OpF2 (rEqU K) (.bool i) (.bool j) φ := fun G H v u s r1 r2 Q k => by
  cases r1
  cases r2
  refine .inl ⟨rfl, ?_⟩
  rw [dec_bl]
  exact k _ _ (fun _ => .bl _) q
theorem op2_neB {i j : Bool} (q : φ (.bool (!(i == j)))) : OpF2 (rNeU K) (.bool i) (.bool j) φ := fun G H v u s r1 r2 Q k => by
  cases r1
  cases r2
  refine .inl ⟨rfl, ?_⟩
  rw [dec_bl]
  exact k _ _ (fun _ => .bl _) q
theorem op2_eqD {x y : PyData} (hx : Okd x) (hy : Okd y) (q : φ (.bool (PyData.eqv x y))) : OpF2 (rEqU K) x y φ := fun G H v u s r1 r2 Q k =>
  .inr ⟨x, y, (r1.mono s).dp hx.nd, (r2.mono s).dp hy.nd, hx.sh, hy.sh, k _ _ (fun _ => .bl _) q⟩
theorem op2_neD {x y : PyData} (hx : Okd x) (hy : Okd y) (q : φ (.bool (!PyData.eqv x y))) : OpF2 (rNeU K) x y φ := fun G H v u s r1 r2 Q k =>
  .inr ⟨x, y, (r1.mono s).dp hx.nd, (r2.mono s).dp hy.nd, hx.sh, hy.sh, k _ _ (fun _ => .bl _) q⟩
def isN : PyData → Bool
  | .none => true
  | _ => false
def rIsN : R2 := fun x y H Q => y = .non ∧ Q (.bl (decide (x = .non))) H
def rNotN : R2 := fun x y H Q => y = .non ∧ Q (.bl (!decide (x = .non))) H
theorem op_isN' : OpR X (compareOp .Is) rIsN := op_isN
theorem op_notN' : OpR X (compareOp .IsNot) rNotN := op_notN
theorem isN_v {G : Hp} {v : V} {x : PyData} (r : Rp G v x) : decide (v = .non) = isN x := by
  cases r <;> rfl
theorem op2_isN {x : PyData} (q : φ (.bool (isN x))) : OpF2 rIsN x .none φ := fun G H v u s r1 r2 Q k => by
  cases r2
  refine ⟨rfl, ?_⟩
  rw [isN_v r1]
  exact k _ _ (fun _ => .bl _) q
theorem op2_notN {x : PyData} (q : φ (.bool (!isN x))) : OpF2 rNotN x .none φ := fun G H v u s r1 r2 Q k => by
  cases r2
  refine ⟨rfl, ?_⟩
  rw [isN_v r1]
  exact k _ _ (fun _ => .bl _) q
/-- is True, is False, of anything -/
def isB (b : Bool) : PyData → Bool
  | .bool a => a == b
  | _ => false
def rIsBl : R2 := fun x y H Q => ∃ (b : Bool) (d : PyData) (G : Hp), y = .bl b ∧ Rp G x d ∧ Q (.bl (isB b d)) H
theorem op_isBl' : OpR X (compareOp .Is) rIsBl := by
  intro pins s σ H x y v u Q I rx ry h
  obtain ⟨b, d, G, rfl, rd, q⟩ := h
  cases (show u = Value.bool b from ry)
  cases rd with
  | bl a =>
    cases (show v = Value.bool a from rx)
    by_cases e : a = b
    · subst e
      exact wpAny_is_self rfl ⟨.bl true, H, I, rfl, by simpa [isB] using q⟩
    · exact wpAny_is_other rfl (fun z => e (Value.bool.inj z)) ⟨.bl false, H, I, rfl, (show isB b (.bool a) = false from beq_false_of_ne e) ▸ q⟩
  | non =>
    cases (show v = Value.none from rx)
    exact wpAny_is_other rfl (fun z => nomatch z) ⟨.bl false, H, I, rfl, q⟩
  | int i =>
    obtain ⟨t, rfl⟩ := rx
    exact wpAny_is_other rfl (fun z => nomatch z) ⟨.bl false, H, I, rfl, q⟩
  | str i =>
    obtain ⟨t, rfl⟩ := rx
    exact wpAny_is_other rfl (fun z => nomatch z) ⟨.bl false, H, I, rfl, q⟩
  | lst h1 h2 =>
    cases rx
    exact wpAny_is_other rfl (fun z => nomatch z) ⟨.bl false, H, I, rfl, q⟩
  | tup h1 h2 =>
    cases rx
    exact wpAny_is_other rfl (fun z => nomatch z) ⟨.bl false, H, I, rfl, q⟩
  | dct h1 h2 =>
    cases rx
    exact wpAny_is_other rfl (fun z => nomatch z) ⟨.bl false, H, I, rfl, q⟩
theorem op2_isB {x : PyData} {b : Bool} (q : φ (.bool (isB b x))) : OpF2 rIsBl x (.bool b) φ := fun G H v u s r1 r2 Q k => by
  cases r2
  exact ⟨b, x, G, rfl, r1, k _ _ (fun _ => .bl _) q⟩
end
end Dv

namespace Dv
open PySem L2 PyProof.Rows

section
variable {X : Cx} {K : PySem.W.Frag} {φ : PyData → Prop} {te ta tb tc : TE} {tas : TA} {ρ : Rho} {Φ : PyData → Rho → Prop} {r : R2}
/-! ### isinstance -/
def tyN : PyData → String
  | .none => "NoneType"
  | .bool _ => "bool"
  | .int _ => "int"
  | .str _ => "str"
  | .list _ => "list"
  | .tuple _ => "tuple"
  | .dict _ => "dict"
def isT (T : String) (d : PyData) : Bool := (kitB (tyN d) T).getD false
theorem ty_of {G H : Hp} {v : V} {d : PyData} (s : Same G H) (r : Rp G v d) : TyX K H v (.type (tyN d)) := by
  cases r with
  | non => exact .base .non
  | bl b => exact .base (.bl b)
  | int i => exact .base (.int i)
  | str x => exact .base (.str x)
  | lst h1 h2 => exact .base (.lst (s _ _ h1))
  | tup h1 h2 => exact .base (.tup (s _ _ h1))
  | dct h1 h2 => exact .base (.dK (s _ _ h1))
theorem kit_all {T : String} (hT : ((["NoneType", "bool", "int", "str", "list", "tuple", "dict"].all fun a => (kitB a T).isSome)) = true) (d : PyData) : kitB (tyN d) T = some (isT T d) := by
  have h : ∀ a ∈ ["NoneType", "bool", "int", "str", "list", "tuple", "dict"], (kitB a T).isSome = true := List.all_eq_true.mp hT
  have hm : tyN d ∈ ["NoneType", "bool", "int", "str", "list", "tuple", "dict"] := by cases d <;> simp [tyN]
  have q := h _ hm
  unfold isT
  cases e : kitB (tyN d) T with
  | none => rw [e] at q; cases q
  | some b => rfl
/-- isinstance(x, T), T the name of a built-in class -/
theorem we_isi {T : String} (hT : ((["NoneType", "bool", "int", "str", "list", "tuple", "dict"].all fun a => (kitB a T).isSome)) = true) (h : We ta ρ fun d ρ1 => Φ (.bool (isT T d)) ρ1) :
    We (tCB (rIsi K) (tCons ta (tCons (tC (.ty T)) tNil))) ρ Φ := fun F G0 G H σ s Q k =>
  h F G0 G H σ s _ fun v d ρ1 G1 H1 s1 g1 r1 p => ⟨v, .ty T, _, _, _, rfl, .ty T, ty_of s1.gh r1, kit_ty (kit_all hT d), k _ _ ρ1 G1 H1 s1 g1 (.bl _) p⟩
/-- isinstance(x, (S, T)) -/
theorem we_isi2 {S T : String} (hS : ((["NoneType", "bool", "int", "str", "list", "tuple", "dict"].all fun a => (kitB a S).isSome)) = true) (hT : ((["NoneType", "bool", "int", "str", "list", "tuple", "dict"].all fun a => (kitB a T).isSome)) = true)
    (h : We ta ρ fun d ρ1 => Φ (.bool (isT S d || isT T d)) ρ1) : We (tCB (rIsiT K) (tCons ta (tCons (tTup (tCons (tC (.ty S)) (tCons (tC (.ty T)) tNil))) tNil))) ρ Φ := fun F G0 G H σ s Q k =>
  h F G0 G H σ s _ fun v d ρ1 G1 H1 s1 g1 r1 p => ⟨by show 2 ≤ sizeLine; decide, fun q hq => by
    have s2 := s1.laid (o := .tup [.ty S, .ty T]) hq
    refine ⟨v, q, [.ty S, .ty T], _, [.type S, .type T], isT S d || isT T d, rfl, upd_same, .cons (.ty S) (.cons (.ty T) .nil), ty_of s2.gh r1, ?_, k _ _ ρ1 G1 _ s2 g1 (.bl _) p⟩
    refine kitAny_cons (kit_ty (kit_all hS d)) (fun e => ?_) (fun e => by rw [e]; rfl)
    refine kitAny_cons (kit_ty (kit_all hT d)) (fun e2 => ?_) (fun e2 => by rw [e2, Bool.or_true])
    rw [e, e2]
    rfl⟩

/-! ### built-ins -/
theorem map_bl : ∀ {bs : List Bool} {H : Hp} {vs : List V}, RpA H vs (bs.map PyData.bool) → vs = bs.map V.bl
  | [], _, _, h => by cases h; rfl
  | b :: bs, _, _, h => by
    cases h with
    | cons h1 h2 =>
      cases h1
      rw [map_bl h2]
      rfl
theorem map_int : ∀ {bs : List Int} {H : Hp} {vs : List V}, RpA H vs (bs.map PyData.int) → vs = bs.map V.int
  | [], _, _, h => by cases h; rfl
  | b :: bs, _, _, h => by
    cases h with
    | cons h1 h2 =>
      cases h1
      rw [map_int h2]
      rfl
theorem map_str : ∀ {bs : List Str} {H : Hp} {vs : List V}, RpA H vs (bs.map PyData.str) → vs = bs.map V.str
  | [], _, _, h => by cases h; rfl
  | b :: bs, _, _, h => by
    cases h with
    | cons h1 h2 =>
      cases h1
      rw [map_str h2]
      rfl
theorem opc_all {bs : List Bool} (q : φ (.bool (bs.all id))) : OpFC (rAll K) [.list (bs.map .bool)] φ := fun G H vs s r Q k => by
  cases r with
  | cons r1 r2 =>
    cases r2
    cases r1 with
    | lst h1 h2 =>
      have e := map_bl h2
      subst e
      exact ⟨_, bs, rfl, .inl (.inl (s _ _ h1)), k _ _ (fun _ => .bl _) q⟩
theorem opc_any {bs : List Bool} (q : φ (.bool (bs.any id))) : OpFC (rAny K) [.list (bs.map .bool)] φ := fun G H vs s r Q k => by
  cases r with
  | cons r1 r2 =>
    cases r2
    cases r1 with
    | lst h1 h2 =>
      have e := map_bl h2
      subst e
      exact ⟨_, bs, rfl, .inl (.inl (s _ _ h1)), k _ _ (fun _ => .bl _) q⟩
theorem opc_sum {ns : List Int} (q : φ (.int ns.sum)) : OpFC (rSum K) [.list (ns.map .int)] φ := fun G H vs s r Q k => by
  cases r with
  | cons r1 r2 =>
    cases r2
    cases r1 with
    | lst h1 h2 =>
      have e := map_int h2
      subst e
      exact ⟨_, ns, rfl, .inl (.inl (s _ _ h1)), k _ _ (fun _ => .int _) q⟩
theorem opc_max {ns : List Int} (hn : 0 < ns.length) (q : ∀ m, m ∈ ns → (∀ y, y ∈ ns → y ≤ m) → φ (.int m)) : OpFC (rMax K) [.list (ns.map .int)] φ := fun G H vs s r Q k => by
  cases r with
  | cons r1 r2 =>
    cases r2
    cases r1 with
    | lst h1 h2 =>
      have e := map_int h2
      subst e
      exact ⟨_, ns, rfl, .inl (.inl (s _ _ h1)), hn, fun m h3 h4 => k _ _ (fun _ => .int _) (q m h3 h4)⟩
theorem opc_min {ns : List Int} (hn : 0 < ns.length) (q : ∀ m, m ∈ ns → (∀ y, y ∈ ns → m ≤ y) → φ (.int m)) : OpFC (rMin K) [.list (ns.map .int)] φ := fun G H vs s r Q k => by
  cases r with
  | cons r1 r2 =>
    cases r2
    cases r1 with
    | lst h1 h2 =>
      have e := map_int h2
      subst e
      exact ⟨_, ns, rfl, .inl (.inl (s _ _ h1)), hn, fun m h3 h4 => k _ _ (fun _ => .int _) (q m h3 h4)⟩
def rMax2' : List V → Hp → VK → Prop := fun xs H Q => ∃ i j, xs = [.int i, .int j] ∧ Q (.int (if j > i then j else i)) H
def rMin2' : List V → Hp → VK → Prop := fun xs H Q => ∃ i j, xs = [.int i, .int j] ∧ Q (.int (if j < i then j else i)) H
def rAbs' : List V → Hp → VK → Prop := fun xs H Q => ∃ i, xs = [.int i] ∧ Q (.int (if i < 0 then -i else i)) H
def rInt1 : List V → Hp → VK → Prop := fun xs H Q => (∃ i, xs = [.int i] ∧ Q (.int i) H) ∨ ∃ k, xs = [.bl k] ∧ Q (.int (if k then 1 else 0)) H
def rLen (K : PySem.W.Frag) : List V → Hp → VK → Prop := fun xs H Q => ∃ x n, xs = [x] ∧ LenV K x H n ∧ Q (.int n) H
theorem call_max2' (hc : X.calm = true) : CallR X (.builtin "max") rMax2' := call_max2 hc
theorem call_min2' (hc : X.calm = true) : CallR X (.builtin "min") rMin2' := call_min2 hc
theorem call_abs' : CallR X (.builtin "abs") rAbs' := call_abs
theorem call_int1' : CallR X (.type "int") rInt1 := call_int1
theorem call_len' : CallR X (.builtin "len") (rLen X.K) := call_len
theorem opc_max2 {i j : Int} (q : φ (.int (max i j))) : OpFC rMax2' [.int i, .int j] φ := fun G H vs s r Q k => by
  cases r with
  | cons r1 r2 =>
    cases r2 with
    | cons r2 r3 =>
      cases r1
      cases r2
      cases r3
      refine ⟨i, j, rfl, k _ _ (fun _ => .int _) ?_⟩
      rw [show (if j > i then j else i) = max i j by omega]
      exact q
theorem opc_min2 {i j : Int} (q : φ (.int (min i j))) : OpFC rMin2' [.int i, .int j] φ := fun G H vs s r Q k => by
  cases r with
  | cons r1 r2 =>
    cases r2 with
    | cons r2 r3 =>
      cases r1
      cases r2
      cases r3
      refine ⟨i, j, rfl, k _ _ (fun _ => .int _) ?_⟩
      rw [show (if j < i then j else i) = min i j by omega]
      exact q
theorem opc_abs {i : Int} (q : φ (.int (if i < 0 then -i else i))) : OpFC rAbs' [.int i] φ := fun G H vs s r Q k => by
  cases r with
  | cons r1 r2 =>
    cases r1
    cases r2
    exact ⟨i, rfl, k _ _ (fun _ => .int _) q⟩
theorem opc_int {i : Int} (q : φ (.int i)) : OpFC rInt1 [.int i] φ := fun G H vs s r Q k => by
  cases r with
  | cons r1 r2 =>
    cases r1
    cases r2
    exact .inl ⟨i, rfl, k _ _ (fun _ => .int _) q⟩
theorem opc_intB {b : Bool} (q : φ (.int (if b then 1 else 0))) : OpFC rInt1 [.bool b] φ := fun G H vs s r Q k => by
  cases r with
  | cons r1 r2 =>
    cases r1
    cases r2
    exact .inr ⟨b, rfl, k _ _ (fun _ => .int _) q⟩
theorem opc_lenL {ds : List PyData} (q : φ (.int ds.length)) : OpFC (rLen K) [.list ds] φ := fun G H vs s r Q k => by
  cases r with
  | cons r1 r2 =>
    cases r2
    cases r1 with
    | lst h1 h2 => exact ⟨_, ds.length, rfl, .inl ⟨_, .inl (.inl (s _ _ h1)), h2.len.symm⟩, k _ _ (fun _ => .int _) q⟩
theorem opc_lenT {ds : List PyData} (q : φ (.int ds.length)) : OpFC (rLen K) [.tuple ds] φ := fun G H vs s r Q k => by
  cases r with
  | cons r1 r2 =>
    cases r2
    cases r1 with
    | tup h1 h2 => exact ⟨_, ds.length, rfl, .inr ⟨_, .inl (.inl (s _ _ h1)), h2.len.symm⟩, k _ _ (fun _ => .int _) q⟩
theorem opc_lenS {z : Str} (h : z.length ≤ 100000) (q : φ (.int z.length)) : OpFC (rLen K) [.str z] φ := fun G H vs s r Q k => by
  cases r with
  | cons r1 r2 =>
    cases r2
    cases r1
    exact ⟨_, z.length, rfl, ⟨szl h, rfl⟩, k _ _ (fun _ => .int _) q⟩
/-- x.bit_length() -/
theorem we_bits (h : We te ρ fun d ρ1 => ∃ i, d = .int i ∧ Φ (.int (Builtin.Int.intBits i : Nat)) ρ1) : We (tBits te) ρ Φ := fun F G0 G H σ s Q k =>
  h F G0 G H σ s _ fun v d ρ1 G1 H1 s1 g1 r1 ⟨i, e, p⟩ => by
    subst e
    cases r1
    exact ⟨i, rfl, k _ _ ρ1 G1 H1 s1 g1 (.int _) p⟩

/-! ### items -/
theorem atI_some {α : Type} {xs : List α} {n : Int} {d : α} (h : atI xs n = some d) : ∃ j, ixN xs.length n = some j ∧ xs[j]? = some d := by
  unfold atI at h
  cases q : ixN xs.length n with
  | none => rw [q] at h; cases h
  | some j => rw [q] at h; exact ⟨j, rfl, h⟩
theorem RpA.atI {H : Hp} {vs : List V} {ds : List PyData} {n : Int} {d : PyData} (r : RpA H vs ds) (h : L2.atI ds n = some d) : ∃ v, L2.atI vs n = some v ∧ Rp H v d := by
  obtain ⟨j, e1, e2⟩ := atI_some h
  obtain ⟨v, e3, e4⟩ := r.get e2
  exact ⟨v, by unfold L2.atI; rw [r.len, e1]; exact e3, e4⟩
theorem op2_ixL {ds : List PyData} {n : Int} {d : PyData} (h : atI ds n = some d) (q : φ d) : Op2 (rIx K) (.list ds) (.int n) φ := fun G H v u s r1 r2 Q k => by
  cases r2
  cases r1 with
  | lst h1 h2 =>
    obtain ⟨w, e1, e2⟩ := h2.atI h
    exact .inl ⟨_, _, n, w, rfl, rfl, .inl (.inl (s _ _ h1)), e1, k w d G H (.refl s) e2 q⟩
theorem op2_ixT {ds : List PyData} {n : Int} {d : PyData} (h : atI ds n = some d) (q : φ d) : Op2 (rIx K) (.tuple ds) (.int n) φ := fun G H v u s r1 r2 Q k => by
  cases r2
  cases r1 with
  | tup h1 h2 =>
    obtain ⟨w, e1, e2⟩ := h2.atI h
    exact .inr (.inl ⟨_, _, n, w, rfl, rfl, .inl (.inl (s _ _ h1)), e1, k w d G H (.refl s) e2 q⟩)
theorem op2_ixS {z : Str} {n : Int} {c : Nat} (hz : z.length ≤ 100000) (h : atI z.cps.toList n = some c) (q : φ (.str ⟨#[c]⟩)) : Op2 (rIx K) (.str z) (.int n) φ := fun G H v u s r1 r2 Q k => by
  cases r2
  cases r1
  exact .inr (.inr ⟨z, n, c, rfl, rfl, szl hz, h, k _ _ G H (.refl s) (.str _) q⟩)

/-! ### slices -/
def Wo (to : TO) (ρ : Rho) (Φ : Option Int → Rho → Prop) : Prop := ∀ (F G0 G H : Hp) (σ : L2.St), Sta F G0 G H σ ρ → ∀ Q : Option Int → Hp → Prop, (∀ o ρ' G' H', Sta F G0 G' H' σ ρ' → Same G G' → Φ o ρ' → Q o H') → to σ H Q
theorem wo_none {Φ : Option Int → Rho → Prop} (q : Φ none ρ) : Wo tNoPart ρ Φ := fun F G0 G H σ s Q k => k none ρ G H s (Same.refl G) q
theorem wo_some {Φ : Option Int → Rho → Prop} (h : We te ρ fun d ρ1 => ∃ i, d = .int i ∧ Φ (some i) ρ1) : Wo (tPart te) ρ Φ := fun F G0 G H σ s Q k =>
  h F G0 G H σ s _ fun v d ρ1 G1 H1 s1 g1 r1 ⟨i, e, p⟩ => by
    subst e
    cases r1
    exact ⟨i, rfl, k _ ρ1 G1 H1 s1 g1 p⟩
def rSlU (K : PySem.W.Frag) : V → Option Int → Option Int → Hp → VK → Prop := fun x lo hi H Q => (rSlL K x lo hi H Q ∨ rSlS x lo hi H Q) ∨ rSlA K x lo hi H Q
theorem sl_U : SlR X (rSlU X.K) := (sl_list.or sl_str).or sl_tupA
def cutD {α : Type} (xs : List α) (lo hi : Option Int) : List α := (xs.drop (HT.sIx xs.length 0 lo)).take (HT.sIx xs.length xs.length hi - HT.sIx xs.length 0 lo)
theorem RpA.cut {H : Hp} {vs : List V} {ds : List PyData} {lo hi : Option Int} (r : RpA H vs ds) : RpA H (cutV vs lo hi) (cutD ds lo hi) := by
  unfold cutV cutD
  rw [r.len]
  exact (r.drop _).take _
theorem wn_sl {tl th : TO} {Φ : List PyData → Rho → Prop} (h : We te ρ fun x ρ1 => Wo tl ρ1 fun lo ρ2 => Wo th ρ2 fun hi ρ3 => ∃ ds, x = .list ds ∧ Φ (cutD ds lo hi) ρ3) : Wn (tSl (rSlU K) te tl th) ρ Φ := fun F G0 G H σ s Q k =>
  h F G0 G H σ s _ fun v x ρ1 G1 H1 s1 g1 r1 p1 => p1 F G0 G1 H1 σ s1 _ fun lo ρ2 G2 H2 s2 g2 p2 => p2 F G0 G2 H2 σ s2 _ fun hi ρ3 G3 H3 s3 g3 ⟨ds, e, q⟩ => by
    subst e
    cases r1 with
    | lst h1 h2 =>
      have m := g2.trans g3
      exact .inl (.inl ⟨_, _, rfl, .inl (.inl (s3.gh _ _ (m _ _ h1))), fun p hp => k p _ _ ρ3 G3 _ (s3.laid hp) (g1.trans m) upd_same (h2.mono m).cut (none_of s3.fh hp) (none_of s3.gh hp) (s3.nofp hp) q⟩)
theorem we_slS {tl th : TO} (h : We te ρ fun x ρ1 => Wo tl ρ1 fun lo ρ2 => Wo th ρ2 fun hi ρ3 => ∃ z, x = .str z ∧ z.length ≤ 100000 ∧ Φ (.str (cutS z lo hi)) ρ3) : We (tSl (rSlU K) te tl th) ρ Φ := fun F G0 G H σ s Q k =>
  h F G0 G H σ s _ fun v x ρ1 G1 H1 s1 g1 r1 p1 => p1 F G0 G1 H1 σ s1 _ fun lo ρ2 G2 H2 s2 g2 p2 => p2 F G0 G2 H2 σ s2 _ fun hi ρ3 G3 H3 s3 g3 ⟨z, e, hz, q⟩ => by
    subst e
    cases r1
    exact .inl (.inr ⟨z, rfl, szl hz, k _ _ ρ3 G3 H3 s3 ((g1.trans g2).trans g3) (.str _) q⟩)

/-! ### texts -/
def rJoin (K : PySem.W.Frag) : V → List V → Hp → VK → Prop := fun x xs H Q => ∃ a p, ∃ ys : List Str, x = .str a ∧ xs = [.ref p] ∧ (SqL K H p (ys.map V.str) ∨ SqT K H p (ys.map V.str)) ∧
    (ys.map (·.length)).sum + ys.length * a.length ≤ 16777216 ∧ Q (.str (Txt.join a ys)) H
theorem mt_join' : MtR X "str.join" (rJoin X.K) := mt_join
def rStripC : V → List V → Hp → VK → Prop := fun x xs H Q => ∃ a b, x = .str a ∧ xs = [.str b] ∧ a.length ≤ sizeLine ∧ Q (.str (Txt.stripChars a b)) H
def rRstripC : V → List V → Hp → VK → Prop := fun x xs H Q => ∃ a b, x = .str a ∧ xs = [.str b] ∧ a.length ≤ sizeLine ∧ Q (.str (Txt.rstripChars a b)) H
def rCount : V → List V → Hp → VK → Prop := fun x xs H Q => ∃ a b, x = .str a ∧ xs = [.str b] ∧ Q (.int (Txt.count a b)) H
theorem mt_stripC : MtR X "str.strip" rStripC := mt_stripChars
theorem mt_rstripC : MtR X "str.rstrip" rRstripC := mt_rstripChars
theorem mt_count' : MtR X "str.count" rCount := mt_count
/-- a method of a text with one argument: its rule by values -/
def OpM (r : V → List V → Hp → VK → Prop) (x : Str) (y : PyData) (φ : PyData → Prop) : Prop := ∀ (G H : Hp) (u : V), Same G H → Rp G u y → ∀ Q : VK, (∀ w z, (∀ G', Rp G' w z) → φ z → Q w H) → r (.str x) [u] H Q
theorem we_m1 {r : V → List V → Hp → VK → Prop} (h : We ta ρ fun x ρ1 => ∃ z, x = .str z ∧ We tb ρ1 fun y ρ2 => OpM r z y fun d => Φ d ρ2) : We (tM1 r ta tb) ρ Φ := fun F G0 G H σ s Q k =>
  h F G0 G H σ s _ fun v x ρ1 G1 H1 s1 g1 r1 ⟨z, e, p1⟩ => by
    subst e
    cases r1
    refine ⟨⟨z, rfl⟩, p1 F G0 G1 H1 σ s1 _ fun u y ρ2 G2 H2 s2 g2 r2 p2 => ?_⟩
    exact p2 G2 H2 u s2.gh r2 Q fun w d hw pd => k w d ρ2 G2 H2 s2 (g1.trans g2) (hw G2) pd
theorem opm_join {a : Str} {ys : List Str} (h : (ys.map (·.length)).sum + ys.length * a.length ≤ 16777216) (q : φ (.str (Txt.join a ys))) : OpM (rJoin K) a (.list (ys.map .str)) φ := fun G H u s r Q k => by
  cases r with
  | lst h1 h2 =>
    have e := map_str h2
    subst e
    exact ⟨a, _, ys, rfl, rfl, .inl (.inl (.inl (s _ _ h1))), h, k _ _ (fun _ => .str _) q⟩
theorem opm_strip {a b : Str} (h : a.length ≤ 16777216) (q : φ (.str (Txt.stripChars a b))) : OpM rStripC a (.str b) φ := fun G H u s r Q k => by
  cases r
  exact ⟨a, b, rfl, rfl, by rw [sizeLine_eq]; exact h, k _ _ (fun _ => .str _) q⟩
theorem opm_rstrip {a b : Str} (h : a.length ≤ 16777216) (q : φ (.str (Txt.rstripChars a b))) : OpM rRstripC a (.str b) φ := fun G H u s r Q k => by
  cases r
  exact ⟨a, b, rfl, rfl, by rw [sizeLine_eq]; exact h, k _ _ (fun _ => .str _) q⟩
theorem opm_count {a b : Str} (q : φ (.int (Txt.count a b))) : OpM rCount a (.str b) φ := fun G H u s r Q k => by
  cases r
  exact ⟨a, b, rfl, rfl, k _ _ (fun _ => .int _) q⟩

/-! ### tuple(l), list(text), list(l), repr -/
def rTupOf (K : PySem.W.Frag) : List V → Hp → VK → Prop := fun xs H Q => ∃ p ys, xs = [.ref p] ∧ ((SqL K H p ys ∧ ∀ l, H l = none → Q (.ref l) (upd H l (.tup ys))) ∨ (SqT K H p ys ∧ Q (.ref p) H))
theorem call_tupOf : CallR X (.type "tuple") (rTupOf X.K) := call_tuple_of
theorem opc_tup {ds : List PyData} (q : φ (.tuple ds)) : OpC (rTupOf K) [.list ds] φ := fun G H vs s r Q k => by
  cases r with
  | cons r1 r2 =>
    cases r2
    cases r1 with
    | lst h1 h2 => exact ⟨_, _, rfl, .inl ⟨.inl (.inl (s _ _ h1)), fun l hl => k _ _ (upd G l (.tup _)) _ (.laid s hl) (.tup upd_same (h2.mono (same_upd (none_of s hl)))) q⟩⟩
theorem vals_get : ∀ {xs : List V} {us : List Value}, xs.length = us.length → (∀ (i : Nat) (x : V) (u : Value), xs[i]? = some x → us[i]? = some u → RelV x u) → Vals xs us
  | [], [], _, _ => .nil
  | [], _ :: _, h, _ => by simp at h
  | _ :: _, [], h, _ => by simp at h
  | x :: xs, u :: us, h, k => .cons (k 0 x u rfl rfl) (vals_get (by simpa using h) fun i y w e1 e2 => k (i + 1) y w (by simpa using e1) (by simpa using e2))
def rLstStr : List V → Hp → VK → Prop := fun xs H Q => ∃ z : Str, xs = [.str z] ∧ z.length ≤ sizeLine ∧ ∀ l, H l = none → Q (.ref l) (upd H l (.lst (z.cps.toList.map fun c => .str ⟨#[c]⟩)))
theorem call_lstStr (hc : X.calm = true) : CallR X (.type "list") rLstStr := by
  intro pins s σ H xs us Q I r h
  obtain ⟨z, rfl, hz, q⟩ := h
  obtain ⟨u, rfl, rx⟩ := vals1 r
  obtain ⟨t, rfl⟩ := rx
  refine PySem.call_list_str (I.ok.hd hc) z t (fun h' tk acc c kp e items => ?_) hz
  have hv : Vals (z.cps.toList.map fun c => V.str ⟨#[c]⟩) acc.toList := vals_get (by rw [List.length_map, Array.length_toList, Array.length_toList, items.1]) fun i x u e1 e2 => by
    obtain ⟨c, t', e3, rfl⟩ := items.2 i u (by simpa using e2)
    rw [List.getElem?_map] at e1
    have e4 : z.cps.toList[i]? = some c := by simpa using e3
    rw [e4] at e1
    cases e1
    exact ⟨t', rfl⟩
  have hl : (z.cps.toList.map fun c => V.str ⟨#[c]⟩).length ≤ sizeLine := by
    rw [List.length_map, Array.length_toList]
    exact hz
  exact ⟨.ref s.heap.objs.size, _, I.laid (t' := tk) kp (Nat.le_refl _) (show ObjOk X.prog X.w _ h' _ (.lst _) from ⟨hl, acc.toList, c, hv, by rw [Array.toArray_toList]; exact e⟩), rfl, q _ (I.hok.fresh (Nat.le_refl _))⟩
def rLstU (K : PySem.W.Frag) : List V → Hp → VK → Prop := fun xs H Q => (∃ p ys, xs = [.ref p] ∧ (SqL K H p ys ∨ SqT K H p ys) ∧ ∀ l, H l = none → Q (.ref l) (upd H l (.lst ys))) ∨ rLstStr xs H Q
theorem call_lstU (hc : X.calm = true) : CallR X (.type "list") (rLstU X.K) := call_list_of.or (call_lstStr hc)
theorem opn_lstL {ds : List PyData} {φ : List PyData → Prop} (q : φ ds) : OpN (rLstU K) [.list ds] φ := fun G H vs s r Q k => by
  cases r with
  | cons r1 r2 =>
    cases r2
    cases r1 with
    | lst h1 h2 => exact .inl ⟨_, _, rfl, .inl (.inl (.inl (s _ _ h1))), fun l hl => k l _ ds G H (.refl s) hl h2 q⟩
theorem opn_lstS {z : Str} {φ : List PyData → Prop} (hz : z.length ≤ 100000) (q : φ (signs z)) : OpN (rLstU K) [.str z] φ := fun G H vs s r Q k => by
  cases r with
  | cons r1 r2 =>
    cases r2
    cases r1
    exact .inr ⟨z, rfl, szl hz, fun l hl => k l _ (signs z) G H (.refl s) hl (RpA.of_map (fun c => .str _) _) q⟩
def rRepr : List V → Hp → VK → Prop := fun xs H Q => ∃ v d, xs = [v] ∧ Rp H v d ∧ (Oks d ∨ d = .dict []) ∧ Q (.str d.shown) H
theorem call_repr (hg : X.A.guards = some []) (hu : X.A.units + 64 < cLine) : CallR X (.builtin "repr") rRepr := by
  intro pins s σ H xs us Q I r h
  obtain ⟨v, d, rfl, rd, ok, q⟩ := h
  obtain ⟨u, rfl, rx⟩ := vals1 r
  have ok : (∀ ks, d ≠ .dict ks) → Oks d := fun hn => ok.elim id fun z => absurd z (hn [])
  have hd0 : ∀ ks, d = .dict ks → ks = [] := by
    rcases ‹Oks d ∨ d = .dict []› with z | z
    · intro ks e
      have := z.nd
      rw [e] at this
      simp [PyData.hasDict] at this
    · intro ks e
      rw [z] at e
      cases e
      rfl
  have fin : ∀ (h' : Heap) (t : Tok) (tk : Nat), (∀ b o, s.heap.get? b = some o → h'.get? b = some o) → EP X pins σ Q (.str d.shown t) { s with heap := h', toks := tk } := fun h' t tk k => ⟨.str d.shown, H, I.kept k, ⟨t, rfl⟩, q⟩
  cases rd with
  | non =>
    cases (show u = Value.none from rx)
    exact PySem.P.repr_of_none (fin _ _ _ fun _ _ e => e)
  | bl b =>
    cases (show u = Value.bool b from rx)
    exact PySem.P.repr_of_bool (fin _ _ _ fun _ _ e => e)
  | int i =>
    obtain ⟨t, rfl⟩ := rx
    have ok := ok fun _ z => by cases z
    refine PySem.P.repr_of_int (of_decide_eq_true (by simpa only [PyData.showable] using ok.sh)) (fin _ _ _ fun _ _ e => e)
  | str x =>
    obtain ⟨t, rfl⟩ := rx
    have ok := ok fun _ z => by cases z
    exact PySem.P.repr_of_str (fin _ _ _ fun _ _ e => e) (by simpa only [PyData.shown] using ok.sz)
  | lst h1 h2 =>
    cases rx
    have ok := ok fun _ z => by cases z
    obtain ⟨as, rr⟩ := L2.Dp.reads I _ _ _ (Rp.dp ok.nd (.lst h1 h2)) rfl
    refine PySem.repr_of_reads' (h₀ := s.heap) rr ok.sh (PyData.noDict_hsm ok.nd) hg (by have := ok.dp; omega) (fun _ _ e => e) (fun h' t tk k => fin h' t tk k) ok.sz
  | tup h1 h2 =>
    cases rx
    have ok := ok fun _ z => by cases z
    obtain ⟨as, rr⟩ := L2.Dp.reads I _ _ _ (Rp.dp ok.nd (.tup h1 h2)) rfl
    refine PySem.repr_of_reads' (h₀ := s.heap) rr ok.sh (PyData.noDict_hsm ok.nd) hg (by have := ok.dp; omega) (fun _ _ e => e) (fun h' t tk k => fin h' t tk k) ok.sz
  | dct h1 h2 =>
    cases rx
    have e0 := hd0 _ rfl
    subst e0
    cases h2
    obtain ⟨_, hns, us, hk, o, es, ep, ho, hx, hdt, hes⟩ := I.hok _ _ h1
    cases hk
    have hes : es.toList = [] := by
      obtain ⟨_, hp, _⟩ := hes
      generalize es.toList = l at hp
      cases hp
      rfl
    have rr : PySem.Reads s.heap (.ref _) (.dict []) ([_] ++ []) := PySem.Reads.dict ho hx.1 hdt (by rw [hes]; exact .nil) (by rw [hes]; exact .nil)
    refine PySem.repr_of_reads' (h₀ := s.heap) rr rfl (fun _ hm => ?_) hg (by show X.A.units + (0 + 1 + 1) < cLine; omega) (fun _ _ e => e) (fun h' t tk k => fin h' t tk k) (by decide)
    simp at hm
    rw [← hm] at hns
    simp at hns
theorem opc_repr {d : PyData} (ok : Oks d) (q : φ (.str d.shown)) : OpFC rRepr [d] φ := fun G H vs s r Q k => by
  cases r with
  | cons r1 r2 =>
    cases r2
    exact ⟨_, d, rfl, r1.mono s, .inl ok, k _ _ (fun _ => .str _) q⟩
theorem opc_reprU {d : PyData} (ok : Oks d ∨ d = .dict []) (q : φ (.str d.shown)) : OpFC rRepr [d] φ := fun G H vs s r Q k => by
  cases r with
  | cons r1 r2 =>
    cases r2
    exact ⟨_, d, rfl, r1.mono s, ok, k _ _ (fun _ => .str _) q⟩
/-- a < b < c -/
theorem we_chain {r' : R2} (h : We ta ρ fun x ρ1 => We tb ρ1 fun y ρ2 => OpF2 r x y fun z => ∃ k, z = .bool k ∧ (k = true → We tc ρ2 fun w ρ3 => OpF2 r' y w fun z => Φ z ρ3) ∧ (k = false → Φ (.bool false) ρ2)) : We (tChain r r' ta tb tc) ρ Φ := fun F G0 G H σ s Q k =>
  h F G0 G H σ s _ fun v x ρ1 G1 H1 s1 g1 r1 p1 => p1 F G0 G1 H1 σ s1 _ fun u y ρ2 G2 H2 s2 g2 r2 p2 => p2 G2 H2 v u s2.gh (r1.mono g2) r2 _ fun w z hw ⟨b, e, q1, q2⟩ => by
    subst e
    cases hw G2
    refine ⟨b, rfl, ?_⟩
    cases b with
    | true => exact q1 rfl F G0 G2 H2 σ s2 _ fun w' y' ρ3 G3 H3 s3 g3 r3 p3 => p3 G3 H3 u w' s3.gh (r2.mono g3) r3 Q fun z' d' hz pz => k z' d' ρ3 G3 H3 s3 ((g1.trans g2).trans g3) (hz G3) pz
    | false => exact k _ _ ρ2 G2 H2 s2 (g1.trans g2) (.bl false) (q2 rfl)
end
end Dv

namespace Dv
open PySem L2 PyProof.Rows
section
variable {P : Program} {w : World} {K : PySem.W.Frag} {mg : Str → Option Value} {base : Heap}
/-- a def that lets no error out, by its body -/
theorem FnG.ok0 {x qual : Str} {st : Stmt} {f : Addr} {fd : FuncData} {N ps : List Str} {k : Nat} {sp : Sp} (F : Fun K x qual st f fd) (S : FnScope N ps (defScope st)) (len : ∀ vs H Q E, sp vs H Q E → vs.length = ps.length)
    (hb : ∀ (cdv : Value) (A : Around) (outer : List PySem.Env) (s : Shared) (H : Hp) (vs : List V) (Q : VK) (E : XK), Room k (cxOf CX0 P w K mg base N qual (defScope st) f cdv A outer s H E).nox.A → (cxOf CX0 P w K mg base N qual (defScope st) f cdv A outer s H E).nox.A.guards = some [] → sp vs H Q E →
      ∃ t, PSs (cxOf CX0 P w K mg base N qual (defScope st) f cdv A outer s H E).nox (defBody st) t ∧ t { nx := fun _ H' => Q .non H', rt := Q } (L2.start N vs) H) : FnG P w K mg base CX0 (k + 1) f fd ps sp := by
  obtain ⟨oc, od, kV, doc, pm, an, cdv, ct, osl, rfl, lk, hcd⟩ := F.ex
  refine FnG.of lk hcd S len fun A outer s H vs Q E hr hg hsp => ?_
  obtain ⟨t, h, q⟩ := hb cdv A outer s H vs Q E hr hg hsp
  exact ⟨t, h.nox, q⟩
end

/-! ### the rules with the written part by its name -/
section
variable {X : Cx} {K : PySem.W.Frag} {a b c e l o : Expr} {es : List Expr} {rest : List Expr} {ta tb tc te tl : TE} {t : TA} {ts : TGs} {tg : Expr} {pos p cpos apos tpos : Pos} {kk : Nat} {elts : List Expr} {n : Nat}
theorem k_add (h : X.K = K) : OpR X (binaryOp .Add) (rAddU K) := by subst h; exact op_addU
theorem k_eq (h : X.K = K) (hu : X.A.units + 64 < cLine) : OpR X (compareOp .Eq) (rEqU K) := by subst h; exact op_eqU hu
theorem k_ne (h : X.K = K) (hu : X.A.units + 64 < cLine) : OpR X (compareOp .NotEq) (rNeU K) := by subst h; exact op_neU hu
theorem k_ix (h : X.K = K) : IxR X (rIx K) := by subst h; exact ix_seq
theorem k_sl (h : X.K = K) : SlR X (rSlU K) := by subst h; exact sl_U
theorem k_all (h : X.K = K) (hc : X.calm = true) : CallR X (.builtin "all") (rAll K) := by subst h; exact cr_all hc
theorem k_any (h : X.K = K) (hc : X.calm = true) : CallR X (.builtin "any") (rAny K) := by subst h; exact cr_any hc
theorem k_sum (h : X.K = K) (hc : X.calm = true) : CallR X (.builtin "sum") (rSum K) := by subst h; exact cr_sum hc
theorem k_max (h : X.K = K) (hc : X.calm = true) : CallR X (.builtin "max") (rMax K) := by subst h; exact cr_max hc
theorem k_min (h : X.K = K) (hc : X.calm = true) : CallR X (.builtin "min") (rMin K) := by subst h; exact cr_min hc
theorem k_isi (h : X.K = K) : CallR X (.builtin "isinstance") (rIsi K) := by subst h; exact call_isi
theorem k_isiT (h : X.K = K) : CallR X (.builtin "isinstance") (rIsiT K) := by subst h; exact call_isiT
theorem k_len (h : X.K = K) : CallR X (.builtin "len") (rLen K) := by subst h; exact call_len'
theorem k_join (h : X.K = K) : MtR X "str.join" (rJoin K) := by subst h; exact mt_join'
theorem k_tupOf (h : X.K = K) : CallR X (.type "tuple") (rTupOf K) := by subst h; exact call_tupOf
theorem k_lstU (h : X.K = K) (hc : X.calm = true) : CallR X (.type "list") (rLstU K) := by subst h; exact call_lstU hc
theorem k_sortedI (h : X.K = K) : CallR X (.builtin "sorted") (rSortedI K) := by subst h; exact cr_sortedI
theorem k_plist (h : X.K = K) (hl : PE X l tl) : PI X tg l (iList K tl) := by subst h; exact pi_list hl
theorem k_ptup (h : X.K = K) (hl : PE X l tl) : PI X tg l (iTup K tl) := by subst h; exact pi_tup hl
theorem k_pzip {e2 : Expr} (h : X.K = K) (hg : Gl X "zip") (hm : X.mg "zip" = none) (ha : PA X [e, e2] t)
    (hs : starEach [e, e2] X.env = (false, eval e X.env) :: starEach [e2] X.env := by rfl) (hpl : (backTo pos (starEach [e2] X.env)).any (·.1) = false := by rfl) : PI X (.Tuple elts kk tpos) (.Call (.Name "zip" p) [e, e2] [] pos) (iZip K t) := by
  subst h
  exact pi_zip hg hm ha hs hpl
theorem k_penum (h : X.K = K) (hg : Gl X "enumerate") (hm : X.mg "enumerate" = none) (ha : PA X [e] t) (hs : starEach [e] X.env = [(false, eval e X.env)] := by rfl) : PI X (.Tuple elts kk tpos) (.Call (.Name "enumerate" p) [e] [] pos) (iEnum K t) := by
  subst h
  exact pi_enum hg hm ha hs
theorem k_tup (h : X.K = K) (hc : X.calm = true) (hg : PGs X es ts) (hn : (assignEach es X.env).length = n := by rfl) (hst : (assignEach es X.env).findIdx? (·.1) = none := by rfl) : PG X (.Tuple es kk pos) (gTup K n ts) := by
  subst h
  exact pg_tup hc hg hn hst
theorem k_tru (h : X.K = K) (ha : PE X a ta) (he : ∀ whole, isTrue a X.env whole = (do let v ← whole; standAt a.pos; holding [v] (truthy v))) : PT X a (fun σ H Q => ta σ H fun x H' => ∃ k, TruV K x H' k ∧ Q k H') := by
  subst h
  exact pt_truth ha he
theorem k_orT (h : X.K = K) (ha : PE X a ta) (hb : PE X (.BoolOp .Or (b :: rest) pos) tb) : PE X (.BoolOp .Or (a :: b :: rest) pos) (tOrT K ta tb) := by subst h; exact pe_orT ha hb
theorem k_andT (h : X.K = K) (ha : PE X a ta) (hb : PE X (.BoolOp .And (b :: rest) pos) tb) : PE X (.BoolOp .And (a :: b :: rest) pos) (tAndT K ta tb) := by subst h; exact pe_andT ha hb
theorem k_notT (h : X.K = K) (ha : PE X a ta) : PE X (.UnaryOp .Not a pos) (tNotT K ta) := by subst h; exact pe_notT ha
theorem k_append (h : X.K = K) (ho : PE X o ta) (ha : PA X (e :: es) t)
    (hbase : attributeBase o "append" X.env (eval o X.env) = eval o X.env := by rfl)
    (hfew : ((backTo cpos (starEach (e :: es) X.env)).all (fun x => !x.1) && (backToKw cpos (keywordEach [] X.env)).all (fun x => x.1.isSome)
      && decide ((e :: es).length + ([] : List Keyword).length + (if ([] : List Keyword).isEmpty then 0 else 1) < 30)) = true := by rfl)
    (hline : (apos.endLine == cpos.line) = true := by rfl) (hs : starEach (e :: es) X.env = (false, eval e X.env) :: starEach es X.env := by rfl) (hplain : (backTo cpos (starEach es X.env)).any (·.1) = false := by rfl) :
    PE X (.Call (.Attribute o "append" apos) (e :: es) [] cpos) (tBM K "list" rAppend ta t) := by
  subst h
  exact pe_bm PySem.F.plainAttrs_list PySem.F.slot_list_append PySem.F.type_list_append mt_append ho ha hbase hfew hline hs hplain
end

section
variable {te ta tb : TE} {tt : TT} {ts tsu : TS} {ρ : Rho} {K : PySem.W.Frag} {Φ : PyData → Rho → Prop} {Φb : Bool → Rho → Prop} {Ψ : Outs} {φ : PyData → Prop}
/-- a slice of a text or a list -/
def SlD (x : PyData) (lo hi : Option Int) (φ : PyData → Prop) : Prop := match x with
  | .str z => z.length ≤ 100000 ∧ φ (.str (cutS z lo hi))
  | .list ds => φ (.list (cutD ds lo hi))
  | .tuple ds => φ (.tuple (cutD ds lo hi))
  | _ => False
theorem we_sl {tl th : TO} (h : We te ρ fun x ρ1 => Wo tl ρ1 fun lo ρ2 => Wo th ρ2 fun hi ρ3 => SlD x lo hi fun d => Φ d ρ3) : We (tSl (rSlU K) te tl th) ρ Φ := fun F G0 G H σ s Q k =>
  h F G0 G H σ s _ fun v x ρ1 G1 H1 s1 g1 r1 p1 => p1 F G0 G1 H1 σ s1 _ fun lo ρ2 G2 H2 s2 g2 p2 => p2 F G0 G2 H2 σ s2 _ fun hi ρ3 G3 H3 s3 g3 q => by
    cases r1 with
    | str z =>
      obtain ⟨hz, q⟩ := q
      exact .inl (.inr ⟨z, rfl, szl hz, k _ _ ρ3 G3 H3 s3 ((g1.trans g2).trans g3) (.str _) q⟩)
    | lst h1 h2 =>
      have m := g2.trans g3
      refine .inl (.inl ⟨_, _, rfl, .inl (.inl (s3.gh _ _ (m _ _ h1))), fun p hp => ?_⟩)
      have ng := none_of s3.gh hp
      exact k _ _ ρ3 (L2.upd G3 p _) _ (s3.grow (.laid s3.gh hp)) (((g1.trans g2).trans g3).trans (same_upd ng)) (.lst upd_same ((h2.mono m).cut.mono (same_upd ng))) q
    | non => exact q.elim
    | bl b => exact q.elim
    | int i => exact q.elim
    | tup h1 h2 =>
      rename_i a xs ds
      have m := g2.trans g3
      have el := h2.len
      refine .inr ⟨a, xs, rfl, .inl (.inl (s3.gh _ _ (m _ _ h1))), fun hw => ?_, fun hw p hp => ?_⟩
      · have ec : cutD ds lo hi = ds := by
          unfold cutD
          rw [← el, hw.1, hw.2, List.drop_zero, Nat.sub_zero, el, List.take_length]
        have q : Φ (.tuple (cutD ds lo hi)) ρ3 := q
        rw [ec] at q
        exact k _ _ ρ3 G3 H3 s3 (g1.trans m) (.tup (m _ _ h1) (h2.mono m)) q
      · have w : Grow G3 H3 (upd G3 p (.tup (cutV xs lo hi))) (upd H3 p (.tup (cutV xs lo hi))) := .laid s3.gh hp
        exact k _ _ ρ3 _ _ (s3.grow w) ((g1.trans m).trans w.g) (.tup upd_same ((h2.mono m).cut.mono w.g)) q
    | dct h1 h2 => exact q.elim
/-- both answers of a test, where the answer is one term -/
theorem wt_conj {A B : Prop} (b : Bool) (h1 : b = true → A) (h2 : b = false → B) : (b = true → A) ∧ (b = false → B) := ⟨h1, h2⟩
theorem wt_t {A B : Prop} (h : A) : (true = true → A) ∧ (true = false → B) := ⟨fun _ => h, fun z => nomatch z⟩
theorem wt_f {A B : Prop} (h : B) : (false = true → A) ∧ (false = false → B) := ⟨fun z => (nomatch z), fun _ => h⟩
theorem wt_y {A B : Prop} {b : Bool} (e : b = true) (h : A) : (b = true → A) ∧ (b = false → B) := ⟨fun _ => h, fun z => by rw [e] at z; cases z⟩
theorem wt_n {A B : Prop} {b : Bool} (e : b = false) (h : B) : (b = true → A) ∧ (b = false → B) := ⟨fun z => (by rw [e] at z; cases z), fun _ => h⟩
/-- a statement by its deterministic reading: kept apart from what follows -/
theorem ws_seqI {F G0 : Hp} {Iv : Rho → Prop} (h : Ws F G0 ts ρ { Ψ with nx := Iv }) (k : ∀ ρ', Iv ρ' → Ws F G0 tsu ρ' Ψ) : Ws F G0 (tSeq ts tsu) ρ Ψ := ws_seq (h.imp k (fun _ _ q => q) (fun _ q => q) (fun _ q => q))
end

/-! ### the statements' rules, what is wanted taken apart -/
section
variable {te ta tb ti : TE} {tt : TT} {tas : TA} {ts tsu : TS} {g : TG} {wi : TI} {ρ : Rho} {K : PySem.W.Frag} {nx bk ct : Rho → Prop} {rt : PyData → Rho → Prop} {i j : Nat} {p : Addr}
theorem q_seq {F G0 : Hp} (h : Ws F G0 ts ρ ⟨fun ρ' => Ws F G0 tsu ρ' ⟨nx, rt, bk, ct⟩, rt, bk, ct⟩) : Ws F G0 (tSeq ts tsu) ρ ⟨nx, rt, bk, ct⟩ := ws_seq h
theorem q_nx {F G0 : Hp} (q : nx ρ) : Ws F G0 tNext ρ ⟨nx, rt, bk, ct⟩ := ws_nx q
theorem q_brk {F G0 : Hp} (q : bk ρ) : Ws F G0 tBreak ρ ⟨nx, rt, bk, ct⟩ := ws_brk q
theorem q_cont {F G0 : Hp} (q : ct ρ) : Ws F G0 tCont ρ ⟨nx, rt, bk, ct⟩ := ws_cont q
theorem q_drop {F G0 : Hp} (h : We te ρ fun _ ρ1 => nx ρ1) : Ws F G0 (tDrop te) ρ ⟨nx, rt, bk, ct⟩ := ws_drop h
theorem q_ret {F G0 : Hp} (h : We te ρ rt) : Ws F G0 (tRet te) ρ ⟨nx, rt, bk, ct⟩ := ws_ret h
theorem q_retN {F G0 : Hp} (q : rt .none ρ) : Ws F G0 tRetN ρ ⟨nx, rt, bk, ct⟩ := ws_retN q
theorem q_if {F G0 : Hp} (h : Wt tt ρ fun b ρ1 => (b = true → Ws F G0 ts ρ1 ⟨nx, rt, bk, ct⟩) ∧ (b = false → Ws F G0 tsu ρ1 ⟨nx, rt, bk, ct⟩)) : Ws F G0 (tIfS tt ts tsu) ρ ⟨nx, rt, bk, ct⟩ := ws_if h
theorem q_asg {F G0 : Hp} {js : List Nat} (h : We te ρ fun d ρ1 => Wg g js d ρ1 nx) : Ws F G0 (tAsg te g) ρ ⟨nx, rt, bk, ct⟩ := ws_asg h
theorem q_set {F G0 : Hp} (h : We te ρ fun d ρ1 => nx (ρ1.set i (.val d))) : Ws F G0 (tAsg te (gName i)) ρ ⟨nx, rt, bk, ct⟩ := ws_set h
theorem q_setN {F G0 : Hp} (h : Wn te ρ fun ds ρ1 => ∀ p, nx (ρ1.set i (.res (lst p ds)))) : Ws F G0 (tAsg te (gName i)) ρ ⟨nx, rt, bk, ct⟩ := ws_setN h
theorem q_par {F G0 : Hp} (h : Wa tas ρ fun ds ρ1 => ∃ x y, ds = [x, y] ∧ nx ((ρ1.set i (.val x)).set j (.val y))) : Ws F G0 (tPar i j tas) ρ ⟨nx, rt, bk, ct⟩ := ws_par h
theorem q_parN {F G0 : Hp} (h : Wn ta ρ fun ds ρ1 => We tb ρ1 fun y ρ2 => ∀ p, nx ((ρ2.set i (.res (lst p ds))).set j (.val y))) : Ws F G0 (tPar i j (tCons ta (tCons tb tNil))) ρ ⟨nx, rt, bk, ct⟩ := ws_parN h
theorem q_parM {F G0 : Hp} (h : We ta ρ fun x ρ1 => Wn tb ρ1 fun ds ρ2 => ∀ p, nx ((ρ2.set i (.val x)).set j (.res (lst p ds)))) : Ws F G0 (tPar i j (tCons ta (tCons tb tNil))) ρ ⟨nx, rt, bk, ct⟩ := ws_parM h
theorem q_aug {F G0 : Hp} {x : PyData} {ti : TIp} (h0 : ρ[i]? = some (.val x)) (h : We te ρ fun y ρ1 => Op2 ti x y fun z => nx (ρ1.set i (.val z))) : Ws F G0 (tAug i te ti) ρ ⟨nx, rt, bk, ct⟩ := ws_aug h0 h
theorem q_app {F G0 : Hp} {ds0 : List PyData} (h0 : ρ[i]? = some (.res (lst p ds0))) (h : We te ρ fun d ρ1 => ∃ ds, ρ1[i]? = some (.res (lst p ds)) ∧ ds.length < 100000 ∧ nx (ρ1.set i (.res (lst p (ds ++ [d]))))) :
    Ws F G0 (tDrop (tBM K "list" rAppend (tVar i) (tCons te tNil))) ρ ⟨nx, rt, bk, ct⟩ := ws_app h0 h
theorem q_setI {F G0 : Hp} (h : We te ρ fun d ρ1 => ∃ ds1, ρ1[i]? = some (.res (lst p ds1)) ∧ We ti ρ1 fun k ρ2 => ∃ ds n j, ρ2[i]? = some (.res (lst p ds)) ∧ k = .int n ∧ ixN ds.length n = some j ∧ nx (ρ2.set i (.res (lst p (ds.set j d))))) :
    Ws F G0 (tAsg te (gSub (tVar i) ti rSetL)) ρ ⟨nx, rt, bk, ct⟩ := ws_setI (ds0 := []) h
theorem q_for {F G0 : Hp} {js : List Nat} (h : Wi wi ρ fun ds ρ1 => ∃ Iv : Nat → Rho → Prop, Iv 0 ρ1 ∧ (∀ i d ρ', ds[i]? = some d → Iv i ρ' → Wg g js d ρ' fun ρ2 => Ws F G0 ts ρ2 ⟨Iv (i + 1), rt, nx, Iv (i + 1)⟩) ∧ ∀ ρ', Iv ds.length ρ' → nx ρ') :
    Ws F G0 (tFor wi g ts) ρ ⟨nx, rt, bk, ct⟩ := ws_for h
theorem q_while {F G0 : Hp} (Iv : Nat → Rho → Prop) {m0 : Nat} (i0 : Iv m0 ρ) (turn : ∀ m ρ', Iv m ρ' → Wt tt ρ' fun b ρ1 => (b = true → Ws F G0 ts ρ1 ⟨fun ρ2 => ∃ m', m' < m ∧ Iv m' ρ2, rt, nx, fun ρ2 => ∃ m', m' < m ∧ Iv m' ρ2⟩) ∧ (b = false → nx ρ1)) :
    Ws F G0 (tWhile tt ts) ρ ⟨nx, rt, bk, ct⟩ := ws_while Iv i0 turn
end
end Dv

namespace Dv
open PySem L2 PyProof.Rows
section
variable {φ : PyData → Prop} {i j : Int}
theorem op2_ip {f : Int → Int → Int} (q : φ (.int (f i j))) : Op2 (ipI f) (.int i) (.int j) φ := .flat (fun _ => .int _) (fun G H v u r1 r2 Q k => by cases r1; cases r2; exact ⟨i, j, rfl, rfl, k⟩) q
theorem op2_mod (h : 0 < j) (q : φ (.int (i % j))) : Op2 (rI (fun _ j => 0 < j) fun i j => .int (i % j)) (.int i) (.int j) φ := op2_I h q
theorem op2_fdiv (h : 0 < j) (h2 : j < 1073741824) (q : φ (.int (i / j))) : Op2 (rI CDiv fun i j => .int (i / j)) (.int i) (.int j) φ := op2_I (C := CDiv) ⟨h, h2⟩ q
theorem op2_shr (h : 0 ≤ j) (q : φ (.int (i / 2 ^ j.toNat))) : Op2 (rI (fun _ j => 0 ≤ j) fun i j => .int (i / 2 ^ j.toNat)) (.int i) (.int j) φ := op2_I h q
theorem op2_shl (h : 0 ≤ j) (h2 : j ≤ 1000000) (h3 : i.natAbs < 2 ^ 64) (q : φ (.int (i * 2 ^ j.toNat))) : Op2 (rI CPow fun i j => .int (i * 2 ^ j.toNat)) (.int i) (.int j) φ := op2_I (C := CPow) ⟨h, h2, h3⟩ q
theorem op2_powW {n : Nat} (h : i.natAbs < 2 ^ n) (hj0 : 0 ≤ j) (hj : n * j.toNat ≤ 134217728) (q : φ (.int (i ^ j.toNat))) : Op2 (rI CPowW fun i j => .int (i ^ j.toNat)) (.int i) (.int j) φ := op2_I (C := CPowW) (by
  have e : j = (j.toNat : Int) := by omega
  rw [e]
  exact powW_ok h hj) q
end
/-- ones of a number -/
def popc : Nat → Nat
  | 0 => 0
  | n + 1 => (n + 1) % 2 + popc ((n + 1) / 2)
decreasing_by omega
theorem popc_pos {n : Nat} (h : 0 < n) : popc n = n % 2 + popc (n / 2) := by
  cases n with
  | zero => omega
  | succ n => rw [popc]
theorem popc_step (n : Nat) : popc n = n % 2 + popc (n / 2) := by
  cases n with
  | zero => simp [popc]
  | succ n => rw [popc]
theorem and1 (n : Nat) : Builtin.bitAnd (n : Int) 1 = ((n % 2 : Nat) : Int) := by
  have := PySem.W.kbt_mask (n : Int) 1
  simpa using this
/-- bits, the least first -/
def val : List Bool → Nat
  | [] => 0
  | b :: bs => b.toNat + 2 * val bs
def difs : List Bool → List Bool → Nat
  | x :: xs, y :: ys => (x != y).toNat + difs xs ys
  | _, _ => 0
theorem popc_two (b : Bool) (n : Nat) : popc (b.toNat + 2 * n) = b.toNat + popc n := by
  rw [popc_step]
  cases b
  · rw [show (false.toNat + 2 * n) % 2 = 0 by simp [Bool.toNat], show (false.toNat + 2 * n) / 2 = n by simp [Bool.toNat]]
    rfl
  · rw [show (true.toNat + 2 * n) % 2 = 1 by simp [Bool.toNat], show (true.toNat + 2 * n) / 2 = n by simp [Bool.toNat]; omega]
    rfl
theorem xor_two (x y : Bool) (a b : Nat) : (x.toNat + 2 * a) ^^^ (y.toNat + 2 * b) = (x != y).toNat + 2 * (a ^^^ b) := by
  apply Nat.eq_of_testBit_eq
  intro k
  rw [Nat.testBit_xor]
  have t : ∀ (z : Bool) (c : Nat), (z.toNat + 2 * c).testBit k = if k = 0 then z else c.testBit (k - 1) := by
    intro z c
    cases k with
    | zero =>
      rw [Nat.testBit_zero]
      cases z <;> simp [Bool.toNat, Nat.add_mod]
    | succ k =>
      rw [Nat.testBit_succ, if_neg (by omega), Nat.add_sub_cancel]
      congr 1
      cases z <;> simp [Bool.toNat] <;> omega
  rw [t, t, t]
  split
  · cases x <;> cases y <;> rfl
  · rw [Nat.testBit_xor]
theorem popc_val : ∀ (xs ys : List Bool), xs.length = ys.length → popc (val xs ^^^ val ys) = difs xs ys
  | [], [], _ => by simp [val, difs, popc]
  | x :: xs, y :: ys, h => by
    rw [val, val, difs, xor_two, popc_two, popc_val xs ys (by simpa using h)]
  | [], _ :: _, h => by simp at h
  | _ :: _, [], h => by simp at h
theorem popc_val0 : ∀ (xs : List Bool), popc (val xs) = (xs.map Bool.toNat).sum
  | [] => by simp [val, popc]
  | x :: xs => by rw [val, popc_two, popc_val0 xs]; rfl
theorem and_two (x y : Bool) (a b : Nat) : (x.toNat + 2 * a) &&& (y.toNat + 2 * b) = (x && y).toNat + 2 * (a &&& b) := by
  apply Nat.eq_of_testBit_eq
  intro k
  rw [Nat.testBit_and]
  have t : ∀ (z : Bool) (c : Nat), (z.toNat + 2 * c).testBit k = if k = 0 then z else c.testBit (k - 1) := by
    intro z c
    cases k with
    | zero =>
      rw [Nat.testBit_zero]
      cases z <;> simp [Bool.toNat, Nat.add_mod]
    | succ k =>
      rw [Nat.testBit_succ, if_neg (by omega), Nat.add_sub_cancel]
      congr 1
      cases z <;> simp [Bool.toNat] <;> omega
  rw [t, t, t]
  split
  · cases x <;> cases y <;> rfl
  · rw [Nat.testBit_and]
theorem bit_split (n : Nat) : n = (n % 2 == 1).toNat + 2 * (n / 2) := by
  rcases Nat.mod_two_eq_zero_or_one n with h | h <;> rw [h] <;> simp [Bool.toNat] <;> omega
theorem xor_and (a : Nat) : ∀ b : Nat, (a ^^^ b) + 2 * (a &&& b) = a + b := by
  induction a using Nat.strongRecOn with
  | ind a ih =>
    intro b
    by_cases ha : a = 0
    · subst ha
      simp
    · rw [bit_split a, bit_split b, xor_two, and_two]
      have := ih (a / 2) (by omega) (b / 2)
      cases (a % 2 == 1) <;> cases (b % 2 == 1) <;> simp [Bool.toNat] <;> omega
theorem xorI (a b : Nat) : Builtin.bitXor (a : Int) (b : Int) = ((a ^^^ b : Nat) : Int) := by
  rw [bitXor_and]
  have h : Builtin.bitAnd (a : Int) (b : Int) = ((a &&& b : Nat) : Int) := by
    unfold Builtin.bitAnd
    rw [decide_eq_true (Int.natCast_nonneg a), decide_eq_true (Int.natCast_nonneg b)]
    simp
  rw [h]
  have := xor_and a b
  omega
end Dv

namespace Dv
open PySem L2 PyProof.Rows
section
variable {te ta tb tc : TE} {tt tu : TT} {tas : TA} {ρ : Rho} {K : PySem.W.Frag} {tg : TG} {wi : TI} {Φ : PyData → Rho → Prop} {Φb : Bool → Rho → Prop} {φ : PyData → Prop}
theorem wt_yes (q : Φb true ρ) : Wt tYes ρ Φb := fun F G0 G H σ s Q k => k true ρ G H s (Same.refl G) q
/-- the same, the walked things of one kind -/
theorem wn_lcT {α : Type} {vs js : List Nat} {Φ : List PyData → Rho → Prop} (hj : ∀ k ∈ js, k ∈ vs)
    (h : Wi wi ρ fun ds ρ1 => ∃ (zs : List α) (g : α → PyData), ds = zs.map g ∧ zs.length < 100000 ∧ mergeR ρ1 (wipeR ρ1 vs) vs = ρ1 ∧ ∃ (c : α → Bool) (f : α → PyData),
      (∀ a, a ∈ zs → Wg tg js (g a) (wipeR ρ1 vs) fun ρ2 => wipeR ρ2 vs = wipeR ρ1 vs ∧ Wt tt ρ2 fun b ρ3 => ρ3 = ρ2 ∧ b = c a ∧ (b = true → We te ρ2 fun y ρ4 => ρ4 = ρ2 ∧ y = f a)) ∧ Φ ((zs.filter c).map f) ρ1) : Wn (tLc wi tg tt te vs) ρ Φ := by
  refine wn_lc hj (fun F G0 G H σ s R k => h F G0 G H σ s R fun J ds ρ1 G' H' s' g' w ⟨zs, gg, hz, hl, hm, c, f, turn, fin⟩ => k J ds ρ1 G' H' s' g' w ⟨by rw [hz, List.length_map]; exact hl, fun i acc ρ' => acc = ((zs.take i).filter c).map f ∧ ρ' = wipeR ρ1 vs, ⟨rfl, rfl⟩, ?_, ?_⟩)
  · rintro i d acc ρ' ed _ ⟨rfl, rfl⟩
    rw [hz, List.getElem?_map] at ed
    cases ea : zs[i]? with
    | none => rw [ea] at ed; cases ed
    | some a =>
      rw [ea] at ed
      obtain rfl := (Option.some.inj ed).symm
      have q := turn a (List.mem_of_getElem? ea)
      have et : zs.take (i + 1) = zs.take i ++ [a] := by rw [List.take_add_one, ea]; rfl
      refine fun F G0 G H σ v s r Q k => q F G0 G H σ v s r Q fun σ' ρ2 s2 e2 ⟨hw, p⟩ => k σ' ρ2 s2 e2 (p.imp ?_)
      rintro b ρ3 ⟨rfl, rfl, p2⟩
      refine ⟨fun hc => (p2 hc).imp ?_, fun hc => ⟨?_, hw⟩⟩
      · rintro y ρ4 ⟨rfl, rfl⟩
        refine ⟨?_, hw⟩
        rw [et, List.filter_append, List.map_append, List.filter_cons, hc]
        rfl
      · rw [et, List.filter_append, List.map_append, List.filter_cons, hc]
        simp
  · rintro acc ρ' ⟨rfl, rfl⟩
    rw [hz, List.length_map, List.take_length, hm]
    exact fin
/-- without a test -/
theorem wn_lcM {α : Type} {vs js : List Nat} {Φ : List PyData → Rho → Prop} (hj : ∀ k ∈ js, k ∈ vs)
    (h : Wi wi ρ fun ds ρ1 => ∃ (zs : List α) (g : α → PyData), ds = zs.map g ∧ zs.length < 100000 ∧ mergeR ρ1 (wipeR ρ1 vs) vs = ρ1 ∧ ∃ (f : α → PyData),
      (∀ a, a ∈ zs → Wg tg js (g a) (wipeR ρ1 vs) fun ρ2 => wipeR ρ2 vs = wipeR ρ1 vs ∧ We te ρ2 fun y ρ4 => ρ4 = ρ2 ∧ y = f a) ∧ Φ (zs.map f) ρ1) : Wn (tLc wi tg tYes te vs) ρ Φ :=
  wn_lcT hj (fun F G0 G H σ s R k => h F G0 G H σ s R fun J ds ρ1 G' H' s' g' w ⟨zs, gg, hz, hl, hm, f, turn, fin⟩ => k J ds ρ1 G' H' s' g' w ⟨zs, gg, hz, hl, hm, fun _ => true, f, fun a ha => by
    refine fun F G0 G H σ v s r Q k => turn a ha F G0 G H σ v s r Q fun σ' ρ2 s2 e2 ⟨hw, p⟩ => k σ' ρ2 s2 e2 ⟨hw, wt_yes ⟨rfl, rfl, fun _ => p⟩⟩, by
    have e : zs.filter (fun _ => true) = zs := by simp
    rw [e]
    exact fin⟩)
theorem enumd_map {α : Type} (zs : List α) (g : α → PyData) : enumd (zs.map g) = zs.zipIdx.map fun p => .tuple [.int (p.2 : Int), g p.1] := by
  apply List.ext_getElem?
  intro i
  unfold enumd inz
  rw [List.getElem?_zipWith, List.getElem?_map, List.getElem?_map, List.getElem?_map, List.getElem?_zipIdx, List.length_map]
  by_cases hi : i < zs.length
  · rw [List.getElem?_range hi, List.getElem?_eq_getElem hi]
    simp
  · rw [List.getElem?_eq_none (show zs.length ≤ i by omega)]
    simp
theorem pairs_map {α β : Type} (zs : List α) (ys : List β) (g : α → PyData) (f : β → PyData) : pairs (zs.map g) (ys.map f) = (zs.zip ys).map fun p => .tuple [g p.1, f p.2] := by
  unfold pairs
  rw [List.zipWith_map, List.zip_eq_zipWith, List.map_zipWith]

theorem atI_nat {α : Type} {xs : List α} {n : Nat} (h : n < xs.length) : atI xs (n : Int) = some xs[n] := by
  unfold atI ixN
  rw [if_pos (by omega), if_pos (by omega), Int.toNat_natCast]
  simp [h]
theorem atI_zero {α : Type} {x : α} {xs : List α} : atI (x :: xs) 0 = some x := atI_nat (n := 0) (by simp)

theorem opc_sumM {α : Type} {xs : List α} {f : α → Int} (q : φ (.int (xs.map f).sum)) : OpFC (rSum K) [.list (xs.map fun a => .int (f a))] φ := by
  have h := opc_sum (K := K) (ns := xs.map f) q
  rw [List.map_map] at h
  exact h
theorem opc_allM {α : Type} {xs : List α} {f : α → Bool} (q : φ (.bool (xs.all f))) : OpFC (rAll K) [.list (xs.map fun a => .bool (f a))] φ := by
  have h := opc_all (K := K) (bs := xs.map f) (φ := φ) (by rw [List.all_map]; exact q)
  rw [List.map_map] at h
  exact h
theorem opc_anyM {α : Type} {xs : List α} {f : α → Bool} (q : φ (.bool (xs.any f))) : OpFC (rAny K) [.list (xs.map fun a => .bool (f a))] φ := by
  have h := opc_any (K := K) (bs := xs.map f) (φ := φ) (by rw [List.any_map]; exact q)
  rw [List.map_map] at h
  exact h
theorem opm_joinM {α : Type} {a : Str} {xs : List α} {f : α → Str} (h : (xs.map fun x => (f x).length).sum + xs.length * a.length ≤ 16777216) (q : φ (.str (Txt.join a (xs.map f)))) : OpM (rJoin K) a (.list (xs.map fun a => .str (f a))) φ := by
  have h := opm_join (K := K) (a := a) (ys := xs.map f) (φ := φ) (by rw [List.map_map, List.length_map]; exact h) q
  rw [List.map_map] at h
  exact h

/-! ### what == may look at -/
def Pln (z : Str) : Prop := ∀ c ∈ z.cps.toList, c < 128
theorem okd_flat {d : PyData} (h : flat d = true) (hs : ∀ z, d = .str z → Pln z) : Okd d := by
  cases d with
  | none => exact ⟨rfl, rfl⟩
  | bool b => exact ⟨rfl, rfl⟩
  | int i => exact ⟨rfl, rfl⟩
  | str z =>
    refine ⟨rfl, ?_⟩
    unfold SeqAt.shaped
    simp only [PyData.canLay0, PyData.depth, PyData.strOk, Bool.and_eq_true, decide_eq_true_eq]
    have := hs z rfl
    refine ⟨?_, rfl⟩
    rw [Array.all_eq_true_iff_forall_mem]
    intro c hc
    have h2 := this c (by simpa using hc)
    exact decide_eq_true (by omega)
  | list _ => cases h
  | tuple _ => cases h
  | dict _ => cases h
theorem lay_all : ∀ {ds : List PyData}, (∀ d ∈ ds, d.canLay0 = true) → PyData.canLayAll0 ds = true
  | [], _ => rfl
  | d :: ds, h => by
    simp only [PyData.canLayAll0, Bool.and_eq_true]
    exact ⟨h d List.mem_cons_self, lay_all fun e he => h e (List.mem_cons_of_mem _ he)⟩
theorem nod_all : ∀ {ds : List PyData}, (∀ d ∈ ds, d.hasDict = false) → PyData.hasDictAll ds = false
  | [], _ => rfl
  | d :: ds, h => by
    simp only [PyData.hasDictAll, Bool.or_eq_false_iff]
    exact ⟨h d List.mem_cons_self, nod_all fun e he => h e (List.mem_cons_of_mem _ he)⟩
theorem dep_all {n : Nat} : ∀ {ds : List PyData}, (∀ d ∈ ds, d.depth ≤ n) → PyData.depthAll ds ≤ n
  | [], _ => Nat.zero_le _
  | d :: ds, h => by
    simp only [PyData.depthAll]
    exact Nat.max_le.mpr ⟨h d List.mem_cons_self, dep_all fun e he => h e (List.mem_cons_of_mem _ he)⟩
/-- data whose containers are n deep at most -/
structure OkdN (n : Nat) (d : PyData) : Prop where
  nd : d.hasDict = false
  lay : d.canLay0 = true
  dp : d.depth ≤ n
theorem OkdN.okd {n : Nat} {d : PyData} (h : OkdN n d) (hn : n ≤ 64) : Okd d := ⟨h.nd, by
  unfold SeqAt.shaped
  rw [h.lay, decide_eq_true (Nat.le_trans h.dp hn)]
  rfl⟩
theorem OkdN.list {n : Nat} {ds : List PyData} (h : ∀ d ∈ ds, OkdN n d) : OkdN (n + 1) (.list ds) :=
  ⟨nod_all fun d hd => (h d hd).nd, lay_all fun d hd => (h d hd).lay, Nat.succ_le_succ (dep_all fun d hd => (h d hd).dp)⟩
theorem OkdN.tuple {n : Nat} {ds : List PyData} (h : ∀ d ∈ ds, OkdN n d) : OkdN (n + 1) (.tuple ds) :=
  ⟨nod_all fun d hd => (h d hd).nd, lay_all fun d hd => (h d hd).lay, Nat.succ_le_succ (dep_all fun d hd => (h d hd).dp)⟩
theorem OkdN.mono {n m : Nat} {d : PyData} (h : OkdN n d) (hm : n ≤ m) : OkdN m d := ⟨h.nd, h.lay, Nat.le_trans h.dp hm⟩
theorem OkdN.none {n : Nat} : OkdN n .none := ⟨rfl, rfl, Nat.zero_le _⟩
theorem OkdN.bool {n : Nat} {b : Bool} : OkdN n (.bool b) := ⟨rfl, rfl, Nat.zero_le _⟩
theorem OkdN.int {n : Nat} {i : Int} : OkdN n (.int i) := ⟨rfl, rfl, Nat.zero_le _⟩
theorem OkdN.str {n : Nat} {z : Str} (h : Pln z) : OkdN n (.str z) := by
  have q := okd_flat (d := .str z) rfl (fun y e => by cases e; exact h)
  exact ⟨rfl, SeqAt.canLay_of_shaped q.sh, Nat.zero_le _⟩
theorem eqv_nilL {ds : List PyData} : PyData.eqv (.list ds) (.list []) = ds.isEmpty := by
  cases ds <;> simp [PyData.eqv, PyData.eqvAll]
theorem op2_eqNil {ds : List PyData} (h : Okd (.list ds)) (q : φ (.bool ds.isEmpty)) : OpF2 (rEqU K) (.list ds) (.list []) φ := op2_eqD h ⟨rfl, rfl⟩ (by rw [eqv_nilL]; exact q)
theorem op2_neNil {ds : List PyData} (h : Okd (.list ds)) (q : φ (.bool (!ds.isEmpty))) : OpF2 (rNeU K) (.list ds) (.list []) φ := op2_neD h ⟨rfl, rfl⟩ (by rw [eqv_nilL]; exact q)
theorem okd_strs {zs : List Str} (h : ∀ z ∈ zs, Pln z) : OkdN 1 (.list (zs.map .str)) := .list fun d hd => by
  obtain ⟨z, hz, rfl⟩ := List.mem_map.mp hd
  exact .str (h z hz)

/-! ### what repr may show -/
theorem show_all : ∀ {ds : List PyData}, (∀ d ∈ ds, d.showable = true) → PyData.showableAll ds = true
  | [], _ => rfl
  | d :: ds, h => by
    simp only [PyData.showableAll, Bool.and_eq_true]
    exact ⟨h d List.mem_cons_self, show_all fun e he => h e (List.mem_cons_of_mem _ he)⟩
/-- n deep, m signs shown at most -/
structure OksN (n m : Nat) (d : PyData) : Prop where
  nd : d.hasDict = false
  sh : d.showable = true
  dp : d.depth ≤ n
  sz : d.shown.length ≤ m
theorem OksN.oks {n m : Nat} {d : PyData} (h : OksN n m d) (hn : n ≤ 60) (hm : m ≤ 16777216) : Oks d := ⟨h.nd, h.sh, Nat.le_trans h.dp hn, by rw [sizeLine_eq]; exact Nat.le_trans h.sz hm⟩
theorem OksN.mono {n m n' m' : Nat} {d : PyData} (h : OksN n m d) (hn : n ≤ n') (hm : m ≤ m') : OksN n' m' d := ⟨h.nd, h.sh, Nat.le_trans h.dp hn, Nat.le_trans h.sz hm⟩
theorem OksN.none {n : Nat} : OksN n 4 .none := ⟨rfl, rfl, Nat.zero_le _, by decide⟩
theorem OksN.bool {n : Nat} {b : Bool} : OksN n 5 (.bool b) := ⟨rfl, rfl, Nat.zero_le _, by cases b <;> decide⟩
theorem OksN.str {n m : Nat} {z : Str} (h : Pln z) (hm : z.length ≤ m) : OksN n (10 * m + 2) (.str z) := ⟨rfl, rfl, Nat.zero_le _, by
  have := PySem.StrLaws.reprText_len z (fun c hc => by have := h c hc; omega)
  show (reprText z).length ≤ _
  omega⟩
theorem textFrom_le : ∀ (ts : List Str) (k : Nat) (acc : Str), (textFrom k acc ts).length ≤ acc.length + (ts.map fun t => t.length + 2).sum
  | [], k, acc => by show acc.length ≤ _; simp
  | t :: r, k, acc => by
    have h := textFrom_le r (k + 1) (acc ++ (if k > 0 then ", " else "" : String) ++ t)
    have e : (acc ++ (if k > 0 then ", " else "" : String) ++ t).length ≤ acc.length + 2 + t.length := by
      rw [strLen_append, strLen_append]
      split
      · exact Nat.le_refl _
      · show acc.length + 0 + t.length ≤ _
        omega
    rw [List.map_cons, List.sum_cons]
    show (textFrom (k + 1) _ r).length ≤ _
    omega
theorem shownAll_le {m : Nat} : ∀ {ds : List PyData}, (∀ d ∈ ds, d.shown.length ≤ m) → ((PyData.shownAll ds).map fun t => t.length + 2).sum ≤ ds.length * (m + 2)
  | [], _ => Nat.zero_le _
  | d :: ds, h => by
    have h1 := h d List.mem_cons_self
    have h2 := shownAll_le (ds := ds) fun e he => h e (List.mem_cons_of_mem _ he)
    simp only [PyData.shownAll, List.map_cons, List.sum_cons, List.length_cons, Nat.add_mul]
    omega
theorem OksN.list {n m : Nat} {ds : List PyData} (h : ∀ d ∈ ds, OksN n m d) : OksN (n + 1) (2 + ds.length * (m + 2)) (.list ds) :=
  ⟨nod_all fun d hd => (h d hd).nd, show_all fun d hd => (h d hd).sh, Nat.succ_le_succ (dep_all fun d hd => (h d hd).dp), by
    show (textFrom 0 "[" (PyData.shownAll ds) ++ "]").length ≤ _
    rw [strLen_append]
    have h1 := textFrom_le (PyData.shownAll ds) 0 "["
    have h2 := shownAll_le fun d hd => (h d hd).sz
    have e1 : (("[" : String) : Str).length = 1 := rfl
    have e2 : (("]" : String) : Str).length = 1 := rfl
    omega⟩
theorem piled_le : ∀ ts : List Str, (Str.join ", " ts).length ≤ (ts.map fun t => t.length + 2).sum
  | [] => Nat.zero_le _
  | [x] => by show x.length ≤ _; simp
  | x :: y :: r => by
    have ih := piled_le (y :: r)
    show (x ++ ", " ++ Str.join ", " (y :: r)).length ≤ _
    rw [strLen_append, strLen_append]
    have e2 : ((", " : String) : Str).length = 2 := rfl
    rw [List.map_cons, List.sum_cons]
    omega
theorem OksN.tuple {n m : Nat} {ds : List PyData} (h : ∀ d ∈ ds, OksN n m d) : OksN (n + 1) (3 + ds.length * (m + 2)) (.tuple ds) :=
  ⟨nod_all fun d hd => (h d hd).nd, show_all fun d hd => (h d hd).sh, Nat.succ_le_succ (dep_all fun d hd => (h d hd).dp), by
    show (tupleText (PyData.shownAll ds)).length ≤ _
    unfold tupleText
    rw [strLen_append, strLen_append]
    have h1 := piled_le (PyData.shownAll ds)
    have h2 := shownAll_le fun d hd => (h d hd).sz
    have e1 : (("(" : String) : Str).length = 1 := rfl
    have e2 : ((if (PyData.shownAll ds).length == 1 then ",)" else ")" : String) : Str).length ≤ 2 := by
      split
      · exact Nat.le_refl _
      · exact Nat.le_succ _
    omega⟩
end
end Dv

namespace Dv
open PySem L2 TL PyProof.Rows
theorem joinL_nil : ∀ ps : List (List Nat), joinL [] ps = ps.flatten
  | [] => rfl
  | [p] => by simp [joinL]
  | p :: q :: r => by
    have h := joinL_nil (q :: r)
    show p ++ ([] ++ joinL [] (q :: r)) = _
    rw [h]
    simp
theorem tl_join0 (zs : List Str) : tl (Txt.join (("" : String) : Str) zs) = (zs.map tl).flatten := by
  rw [join_eq, tl_join]
  exact joinL_nil _
theorem len_join0 (zs : List Str) : (Txt.join (("" : String) : Str) zs).length = (zs.map (·.length)).sum := by
  rw [len_tl, tl_join0, List.length_flatten, List.map_map]
  rfl
theorem str_nil_iff (x : Str) : (x == (("" : String) : Str)) = (tl x).isEmpty := by
  by_cases h : tl x = []
  · have e : x = (("" : String) : Str) := ext_tl h
    rw [h, e]
    rfl
  · rw [beq_eq_false_iff_ne.mpr fun e => h (by rw [e]; rfl)]
    cases q : tl x with
    | nil => exact absurd q h
    | cons a l => rfl
theorem takeW_all {p : Nat → Bool} : ∀ {l : List Nat}, (∀ c ∈ l, p c = true) → l.takeWhile p = l
  | [], _ => rfl
  | a :: l, h => by
    rw [List.takeWhile_cons, if_pos (h a List.mem_cons_self), takeW_all fun c hc => h c (List.mem_cons_of_mem _ hc)]
theorem takeW_lt {p : Nat → Bool} : ∀ {l : List Nat}, (∃ c ∈ l, p c = false) → (l.takeWhile p).length < l.length
  | [], h => by obtain ⟨c, hc, _⟩ := h; cases hc
  | a :: l, h => by
    rw [List.takeWhile_cons]
    split
    · rename_i ha
      obtain ⟨c, hc, e⟩ := h
      rcases List.mem_cons.mp hc with rfl | hc
      · rw [e] at ha
        cases ha
      · have := takeW_lt ⟨c, hc, e⟩
        simp only [List.length_cons]
        omega
    · simp
theorem strip_nil (x y : Str) : (Txt.stripChars x y == (("" : String) : Str)) = (tl x).all y.cps.contains := by
  rw [str_nil_iff, Txt.stripChars, stripBy_eq]
  rw [tl_strSub]
  unfold stripLo stripHi
  simp only [if_true]
  show (List.take _ (List.drop (List.takeWhile y.cps.contains (tl x)).length (tl x))).isEmpty = _
  have hl := len_tl x
  by_cases h : ∀ c ∈ tl x, y.cps.contains c = true
  · rw [takeW_all h, List.drop_length, List.take_nil, List.all_eq_true.mpr h]
    rfl
  · have h2 : ∃ c ∈ tl x, y.cps.contains c = false := by
      rw [Classical.not_forall] at h
      obtain ⟨c, hc⟩ := h
      rw [Classical.not_imp] at hc
      exact ⟨c, hc.1, by simpa using hc.2⟩
    have h3 := takeW_lt h2
    have e0 : (tl x).all y.cps.contains = false := by
      obtain ⟨c, hc, e⟩ := h2
      rw [List.all_eq_false]
      exact ⟨c, hc, by rw [e]; simp⟩
    rw [e0]
    generalize hn : (List.takeWhile y.cps.contains (tl x)).length = n at h3
    have h4 : ∃ c ∈ ((tl x).drop n).reverse, y.cps.contains c = false := by
      have hd := List.takeWhile_append_dropWhile (p := y.cps.contains) (l := tl x)
      have e1 : (tl x).drop n = (tl x).dropWhile y.cps.contains := by
        have e2 : (tl x).drop n = ((tl x).takeWhile y.cps.contains ++ (tl x).dropWhile y.cps.contains).drop n := by rw [hd]
        rw [e2, ← hn, List.drop_left]
      have hne : (tl x).dropWhile y.cps.contains ≠ [] := fun e => by
        have : ((tl x).drop n).length = 0 := by rw [e1, e]; rfl
        rw [List.length_drop] at this
        omega
      refine ⟨((tl x).dropWhile y.cps.contains).head hne, ?_, ?_⟩
      · rw [List.mem_reverse, e1]
        exact List.head_mem hne
      · have := List.head_dropWhile_not y.cps.contains hne
        simpa using this
    have h5 := takeW_lt h4
    rw [List.length_reverse, List.length_drop] at h5
    rw [hl]
    have h6 : (List.drop n (tl x)).length = (tl x).length - n := List.length_drop
    have h7 : (List.take ((tl x).length - (List.takeWhile y.cps.contains ((tl x).drop n).reverse).length - n) ((tl x).drop n)).length ≠ 0 := by
      rw [List.length_take, h6]
      omega
    cases q : List.take ((tl x).length - (List.takeWhile y.cps.contains ((tl x).drop n).reverse).length - n) ((tl x).drop n) with
    | nil => rw [q] at h7; exact absurd rfl h7
    | cons a l => rfl
def isLst : PyData → Bool
  | .list _ => true
  | _ => false
def isTup : PyData → Bool
  | .tuple _ => true
  | _ => false
def isStr : PyData → Bool
  | .str _ => true
  | _ => false
def isInt : PyData → Bool
  | .int _ => true
  | .bool _ => true
  | _ => false
def isBoo : PyData → Bool
  | .bool _ => true
  | _ => false
theorem kit7 {T : String} {f : String → Bool} (h : (["NoneType", "bool", "int", "str", "list", "tuple", "dict"].all fun a => (kitB a T).getD false == f a) = true) (d : PyData) : isT T d = f (tyN d) := by
  have q := List.all_eq_true.mp h
  have hm : tyN d ∈ ["NoneType", "bool", "int", "str", "list", "tuple", "dict"] := by cases d <;> simp [tyN]
  have e := q _ hm
  simp only [beq_iff_eq] at e
  exact e
theorem isT_list {d : PyData} : isT "list" d = isLst d := by
  rw [kit7 (f := fun a => a == "list") (by decide +kernel)]
  cases d <;> rfl
theorem isT_tuple {d : PyData} : isT "tuple" d = isTup d := by
  rw [kit7 (f := fun a => a == "tuple") (by decide +kernel)]
  cases d <;> rfl
theorem isT_str {d : PyData} : isT "str" d = isStr d := by
  rw [kit7 (f := fun a => a == "str") (by decide +kernel)]
  cases d <;> rfl
theorem isT_int {d : PyData} : isT "int" d = isInt d := by
  rw [kit7 (f := fun a => a == "int" || a == "bool") (by decide +kernel)]
  cases d <;> rfl
theorem isT_bool {d : PyData} : isT "bool" d = isBoo d := by
  rw [kit7 (f := fun a => a == "bool") (by decide +kernel)]
  cases d <;> rfl
def strOf : PyData → Str
  | .str z => z
  | _ => (("" : String) : Str)
theorem strs_of : ∀ {ds : List PyData}, ds.all isStr = true → ds = (ds.map strOf).map .str
  | [], _ => rfl
  | d :: ds, h => by
    rw [List.all_cons, Bool.and_eq_true] at h
    rw [List.map_cons, List.map_cons, ← strs_of h.2]
    cases d with
    | str z => rfl
    | _ => exact absurd h.1 (by simp [isStr])
section
variable {φ : Bool → Prop}
theorem tru_b {b : Bool} (h : φ b) : ∃ k, Tru (.bool b) k ∧ φ k := ⟨b, rfl, h⟩
theorem tru_i {i : Int} (h : φ (i != 0)) : ∃ k, Tru (.int i) k ∧ φ k := ⟨_, rfl, h⟩
theorem tru_n (h : φ false) : ∃ k, Tru .none k ∧ φ k := ⟨_, rfl, h⟩
theorem tru_l {ds : List PyData} (h : φ (!ds.isEmpty)) : ∃ k, Tru (.list ds) k ∧ φ k := ⟨_, rfl, h⟩
theorem tru_t {ds : List PyData} (h : φ (!ds.isEmpty)) : ∃ k, Tru (.tuple ds) k ∧ φ k := ⟨_, rfl, h⟩
theorem sld_l {ds : List PyData} {lo hi : Option Int} {ψ : PyData → Prop} (h : ψ (.list (cutD ds lo hi))) : SlD (.list ds) lo hi ψ := h
theorem sld_t {ds : List PyData} {lo hi : Option Int} {ψ : PyData → Prop} (h : ψ (.tuple (cutD ds lo hi))) : SlD (.tuple ds) lo hi ψ := h
theorem sld_s {z : Str} {lo hi : Option Int} {ψ : PyData → Prop} (hz : z.length ≤ 100000) (h : ψ (.str (cutS z lo hi))) : SlD (.str z) lo hi ψ := ⟨hz, h⟩
theorem cut1 {α : Type} (xs : List α) : cutD xs none (some 1) = xs.take 1 := by
  cases xs <;> simp [cutD, HT.sIx]
theorem nb_t {A B : Prop} (h : B) : ((!true) = true → A) ∧ ((!true) = false → B) := ⟨fun z => (nomatch z), fun _ => h⟩
theorem nb_f {A B : Prop} (h : A) : ((!false) = true → A) ∧ ((!false) = false → B) := ⟨fun _ => h, fun z => (nomatch z)⟩
end
end Dv

namespace Dv
open PySem L2 PyProof.Rows PySem.Spec
/-! ### ranges with bounds of any size -/
theorem turn_long {P : Program} {w : World} {K : PySem.W.Frag} {tg : Expr} (it : Addr) (lo : Int) (n : Nat) : Turn P w K tg (Itr lo n) [it] it (fun i h => IsLongIter h it (lo + (i : Nat) * 1) ((n : Int) - (i : Nat)) 1) where
  mem := List.mem_singleton.mpr rfl
  obj := fun i h st b hb => by
    obtain rfl := List.mem_singleton.mp hb
    exact ⟨_, st, fun v z => nomatch (show Data.fields _ = Data.cell v from z)⟩
  keep := fun i h h' st k => k it (List.mem_singleton.mpr rfl) _ st
  item := by
    intro X hP hw hK hc i pins s σ H E I hf st hg
    subst hP
    subst hw
    subst hK
    obtain ⟨f0, f1, f2, f3, f4, f5⟩ := hf it (List.mem_singleton.mpr rfl)
    have W := Walks.longrange (prog := X.prog) (w := X.w) (I.ok.hd hc) it lo 1 n
    refine W.item i s _ _ hg st fun v h' tk ⟨t, ev⟩ st' kk => ?_
    subst ev
    have J : L2.Inv X pins σ H { s with heap := h', toks := tk } := I.turned (fun b o hb e => kk b o (fun z => hb (List.mem_singleton.mp z)) e) f0 f1 f3 f4 f5
    exact ⟨_, rfl, go_of (s := { s with heap := h', toks := tk }) (n := "longrange_iterator") st' rfl rfl (by decide) ⟨.int (lo + i), H, J, ⟨t, by rw [Int.mul_one]⟩, ⟨rfl, rfl⟩, st', fun b hb => (hf b hb).1⟩⟩
  done := by
    intro X hP hw hK hc i pins s σ H E I hf st hg
    subst hP
    subst hw
    subst hK
    obtain ⟨f0, f1, f2, f3, f4, f5⟩ := hf it (List.mem_singleton.mpr rfl)
    exact wpAny_pyNext_long_end (I.ok.hd hc) st (by have : n ≤ i := hg; omega) fun h' eb => ⟨rfl, I.turned (t' := s.toks) (fun b o hb e => eb b o hb e) f0 f1 f3 f4 f5⟩
  self := fun _ _ _ _ _ st h => wpAny_pyIter_longiter st h
section
variable {X : Cx} {tg : Expr}
theorem range_itW {pins : List (Addr × Obj)} {σ : L2.St} {H : Hp} {s : Shared} {R : It → Hp → Prop} {E : Value → Shared → Prop} {lo hi : Int} {t u v : Tok} {tk : Nat} (I : L2.Inv X pins σ H s)
    (q : R (Itr lo (hi - lo).toNat) H) : wpAny (model X.prog X.w) X.A (pyIter (.ref s.heap.objs.size)) (PIE X pins σ tg R) E { s with heap := s.heap.push { cls := .type "range", data := .fields #[.int lo t, .int hi u, .int 1 v] }, toks := tk } := by
  have J : L2.Inv X pins σ H { s with heap := s.heap.push { cls := .type "range", data := .fields #[.int lo t, .int hi u, .int 1 v] }, toks := tk } := I.kept fun b o e => Heap.get?_push_of_some _ e
  have e2 : (((hi - lo).toNat : Nat) : Int) - ((0 : Nat) : Int) = Builtin.Range.rangeSize lo hi 1 := by rw [rangeSize_one]; split <;> omega
  have fp : ∀ b ∈ [(s.heap.push { cls := .type "range", data := .fields #[.int lo t, .int hi u, .int 1 v] }).objs.size], FpOk X pins H b := fun b hb => by
    obtain rfl := List.mem_singleton.mp hb
    exact J.fpOk (Nat.le_refl _) (J.hok.fresh (Nat.le_refl _))
  cases hs : Builtin.Range.small lo hi 1 with
  | true =>
    refine wpAny_pyIter_range (IsRange.new ..) hs ⟨_, _, _, _, H, rfl, J.kept (t' := tk) fun b o e => Heap.get?_push_of_some _ e, turn_range _ lo (hi - lo).toNat, ?_, fp, q⟩
    show IsRangeIter _ _ (lo + ((0 : Nat) : Int) * 1) ((((hi - lo).toNat : Nat) : Int) - ((0 : Nat) : Int)) 1
    rw [e2, show lo + ((0 : Nat) : Int) * 1 = lo by simp]
    exact Heap.get?_push_size _ rfl
  | false =>
    refine wpAny_pyIter_longrange (IsRange.new ..) hs ⟨_, _, _, _, H, rfl, J.kept (t' := tk) fun b o e => Heap.get?_push_of_some _ e, turn_long _ lo (hi - lo).toNat, ?_, fp, q⟩
    show IsLongIter _ _ (lo + ((0 : Nat) : Int) * 1) ((((hi - lo).toNat : Nat) : Int) - ((0 : Nat) : Int)) 1
    rw [e2, show lo + ((0 : Nat) : Int) * 1 = lo by simp]
    exact Heap.get?_push_size _ rfl
def iR1 (ta : TA) : TI := fun σ H R => ta σ H fun vs H1 => ∃ j : Int, vs = [.int j] ∧ R (Itr 0 j.toNat) H1
def iR2 (ta : TA) : TI := fun σ H R => ta σ H fun vs H1 => ∃ i j : Int, vs = [.int i, .int j] ∧ R (Itr i (j - i).toNat) H1
theorem pi_r1 {a : Expr} {ta : TA} {p pos : Pos} (hg : Gl X "range") (hm : X.mg "range" = none) (ha : PA X [a] ta) (hs : starEach [a] X.env = [(false, eval a X.env)] := by rfl) : PI X tg (.Call (.Name "range" p) [a] [] pos) (iR1 ta) := by
  refine ⟨fun pins s σ H R I h => ?_⟩
  refine Call_ (ld_blt I hg hm boot_range (PyProof.Rows.callWith_type1 (thn (ha.run pos pins s σ H _ I h) fun us s1 ⟨vs, H1, I1, r1, j, e, q⟩ => ?_) hs rfl))
  subst e
  obtain ⟨u, rfl, r⟩ := vals1 r1
  obtain ⟨t, rfl⟩ := r
  exact call_range_1 (range_itW I1 (by simpa using q))
theorem pi_r2 {a b : Expr} {ta : TA} {p pos : Pos} (hg : Gl X "range") (hm : X.mg "range" = none) (ha : PA X [a, b] ta) (hs : starEach [a, b] X.env = [(false, eval a X.env), (false, eval b X.env)] := by rfl) (hs2 : starEach [b] X.env = [(false, eval b X.env)] := by rfl) :
    PI X tg (.Call (.Name "range" p) [a, b] [] pos) (iR2 ta) := by
  refine ⟨fun pins s σ H R I h => ?_⟩
  refine Call_ (ld_blt I hg hm boot_range (PyProof.Rows.callWith_type1 (thn (ha.run pos pins s σ H _ I h) fun us s1 ⟨vs, H1, I1, r1, i, j, e, q⟩ => ?_) (by rw [hs, hs2]) (by rw [hs2]; rfl)))
  subst e
  cases r1 with
  | cons r rr =>
    obtain ⟨u, rfl, r2⟩ := vals1 rr
    obtain ⟨t, rfl⟩ := r
    obtain ⟨t', rfl⟩ := r2
    exact call_range_2 (range_itW I1 q)
end
section
variable {te ta tb tc : TE} {tas : TA} {ρ : Rho}
theorem wi_r1 {Φ : List PyData → Rho → Prop} (h : Wa tas ρ fun ds ρ1 => ∃ j : Int, ds = [.int j] ∧ Φ (inz 0 j.toNat) ρ1) : Wi (iR1 tas) ρ Φ := fun F G0 G H σ s R k =>
  h F G0 G H σ s _ fun vs ds ρ1 G1 H1 s1 g1 r1 ⟨j, e, q⟩ => by
    subst e
    cases r1 with
    | cons ra rb =>
      cases ra
      cases rb
      exact ⟨j, rfl, k _ _ ρ1 G1 H1 s1 g1 walk_rng q⟩
theorem wi_r2 {Φ : List PyData → Rho → Prop} (h : Wa tas ρ fun ds ρ1 => ∃ i j : Int, ds = [.int i, .int j] ∧ Φ (inz i (j - i).toNat) ρ1) : Wi (iR2 tas) ρ Φ := fun F G0 G H σ s R k =>
  h F G0 G H σ s _ fun vs ds ρ1 G1 H1 s1 g1 r1 ⟨i, j, e, q⟩ => by
    subst e
    cases r1 with
    | cons ra rb =>
      cases rb with
      | cons rb rc =>
        cases ra
        cases rb
        cases rc
        exact ⟨i, j, rfl, k _ _ ρ1 G1 H1 s1 g1 walk_rng q⟩
end
end Dv

namespace Dv
open PySem L2 PyProof.Rows PySem.Spec
/-! ### the __init__ of an own exception: super().__init__(value); self.value = value -/
abbrev xiBody (p0 p1 p2 p3 p4 p5 p6 p7 p8 p9 : Pos) : List Stmt := [.Expr (.Call (.Attribute (.Call (.Name "super" p0) [] [] p1) "__init__" p2) [.Name "value" p3] [] p4) p5, .Assign [.Attribute (.Name "self" p6) "value" p7] (.Name "value" p8) p9]
def XiEv (p0 p1 p2 p3 p4 : Pos) : Prop := ∀ env : PySem.Env, ∃ pl : Sem Bool, eval (.Call (.Attribute (.Call (.Name "super" p0) [] [] p1) "__init__" p2) [.Name "value" p3] [] p4) env = (do
      let ov ← attributeBase (.Call (.Name "super" p0) [] [] p1) "__init__" env (eval (.Call (.Name "super" p0) [] [] p1) env)
      standAt p2.atName
      let (f, first) ← holding [ov] (getMethod ov "__init__" pl)
      callWith p4 f first (backTo p4 (starEach [.Name "value" p3] env)) [])
/-- what the written part says of such a class's __init__ -/
structure XiC (P : Program) (K : PySem.W.Frag) (C fI : Addr) (fd : FuncData) : Prop where
  ex : ∃ (qual : Str) (params : Arguments) (scope : Scope) (dV kV doc pm ct oc : Value) (od an : Option Addr) (osl : Array (Option Value)) (cda cc : Addr) (p0 p1 p2 p3 p4 p5 p6 p7 p8 p9 : Pos),
    fd = PySem.W.ksFn "__init__" qual params (xiBody p0 p1 p2 p3 p4 p5 p6 p7 p8 p9) scope dV kV doc pm an (.ref cda) ct cc ∧
    K.lookup fI = some ⟨oc, od, .func fd, osl⟩ ∧ PySem.W.codeIn K (.ref cda) qual = true ∧
    (∃ ccl cdd vs ccs file tf, K.lookup cda = some ⟨ccl, cdd, .fields vs, ccs⟩ ∧ vs[2]? = some (.str file tf) ∧ ((P.main.file : Str) == file) = true) ∧
    (∃ cl cld csl, K.lookup cc = some ⟨cl, cld, .cell (some (.ref C)), csl⟩) ∧
    ((params.posonlyargs ++ params.args).head?.map (·.arg) = some "self" ∧ scope.names.lookup ("super" : Str) = some .globalImplicit ∧ scope.names.lookup ("__class__" : Str) = some .free ∧ scope.names.lookup ("self" : Str) = some .local ∧ scope.names.lookup ("value" : Str) = some .local ∧
      (∀ x ∈ scope.names, x.2 ≠ .cell) ∧ scope.isCoroutine = false ∧ scope.isGenerator = false ∧ scope.kind = .function) ∧ XiEv p0 p1 p2 p3 p4
  top : (P.main.scope.names.lookup ("super" : Str)).isSome = false
  hm : PySem.W.ks_superIn K C C "__init__" = some (some (.builtin "ValueError.__init__"))
  sB : PySem.W.subIn K (.ref C) (.type "ValueError") = some true
  op : PySem.W.nsIn K cStatics "thirdparty.any" = some none
  own : PySem.W.mroIn K C (.ref C) = some true
  hno : PySem.W.findIn K (.ref C) "value" = some none
  T : OexC K C
/-- its promise -/
def spXi (C : Addr) : Sp := fun vs H Q _ => ∃ a y, vs = [.ref a, y] ∧ H a = some (exo a C none) ∧ ∀ dx, H dx = none → dx ≠ a → Q .non (upd (upd H dx (exd dx [("value", y)])) a (exo a C (some dx)))
theorem xi_ok {P : Program} {w : World} {K : PySem.W.Frag} {mg : Str → Option Value} {base : Heap} {CXx : CXT} {k : Nat} {C fI : Addr} {fd : FuncData} (X : XiC P K C fI fd) (hms : mg "super" = none) : FnOk P w K mg base CXx k fI fd ["self", "value"] (spXi C) where
  len := by
    rintro vs H Q E ⟨a, y, rfl, _⟩
    rfl
  run := by
    intro A outer s H args us vs Q E hr e0 hbind rv hsp
    obtain ⟨a, y, rfl, ea, hq⟩ := hsp
    obtain ⟨qual, params, scope, dV, kV, doc, pm, ct, oc, od, an, osl, cda, cc, p0, p1, p2, p3, p4, p5, p6, p7, p8, p9, rfl, lk, hcd, ⟨ccl, cdd, cvs, ccs, file, tf, hcode, hvs, hfile⟩, ⟨cl, cld, csl, hcell⟩, ⟨hpar, hks, hkc, hka, hkv, hcells, hco, hgen, hkind⟩, hev⟩ := X.ex
    have hin : ∀ b o, base.get? b = some o → s.heap.get? b = some o := fun b o e => (e0.bs b o e).1
    have KX : K.In s.heap := e0.mod.kin.keeps hin
    cases rv with
    | @cons _ u0 _ ur ra rw' =>
      obtain rfl : u0 = Value.ref a := ra
      obtain ⟨u, rfl, ry⟩ := vals1 rw'
      have hp : ∃ ar : Arg, (params.posonlyargs ++ params.args).head? = some ar ∧ ar.arg = "self" := by
        cases q : (params.posonlyargs ++ params.args).head? with
        | none => rw [q] at hpar; cases hpar
        | some ar => rw [q] at hpar; exact ⟨ar, rfl, Option.some.inj hpar⟩
      obtain ⟨ar, hp, har⟩ := hp
      have hself : (["self", "value"] : List Str).zip [Value.ref a, u] = ([(("self" : Str), Value.ref a), (("value" : Str), u)] : List (Str × Value)) := rfl
      rw [hself] at hbind
      obtain ⟨nm, qq, NN, bs, bm, sn, sub, ab, col, dd, j0, j1, j2, j3, j5, hC, hbm⟩ := X.T.cls
      have hcl : PySem.W.clsIn K C = some { name := nm, bases := bs, mro := .ref C :: bm, ns := NN, qualname := qq, hasDict := true, slotNames := sn, subclasses := sub, abstract := ab, collection := col, hasDel := false } := by unfold PySem.W.clsIn; rw [hC] <;> rfl
      obtain ⟨mb, hb1, hb2⟩ := e0.mod.blt
      obtain ⟨hp0, g, d, t, os⟩ := s
      obtain ⟨t1, ho⟩ := exo_at e0.hok ea
      have xC : a ≠ C := fun z => by
        rw [z, KX _ _ hC] at ho
        exact nomatch (show some _ = some _ from ho)
      refine ks_codeAny_call_defAt (fd := PySem.W.ksFn "__init__" qual params (xiBody p0 p1 p2 p3 p4 p5 p6 p7 p8 p9) scope dV kV doc pm an (.ref cda) ct cc) hr.depth (KX _ _ lk) rfl (e0.mod.nolimit.keeps hin) (PySem.W.codeRec_of KX hcd) rfl hbind hcells ?_ (fun h1 hns k1 => ?_) hco hgen hkind
      · intro x hx
        rcases List.mem_cons.mp hx with rfl | hx
        · exact hka
        · obtain rfl := List.mem_singleton.mp hx
          exact hkv
      · have K1 : K.In h1 := KX.keeps k1
        obtain ⟨pl, hev⟩ := hev (callEnv (PySem.W.ksFn "__init__" qual params (xiBody p0 p1 p2 p3 p4 p5 p6 p7 p8 p9) scope dV kV doc pm an (.ref cda) ct cc) hp0.objs.size fI)
        refine ks_wpAt_execs_cons (ks_wpAt_Expr_any (ks_wpAt_MethodCall ?_ hev) (by
          show (scope.kind == .module && _) = false
          rw [hkind]
          rfl))
        refine ks_wpAt_super_base (f := fI) (cc := cda) hks hkc rfl rfl (k1 _ _ (KX _ _ lk)) rfl hp rfl (K1 _ _ hcode) rfl hvs hfile X.top ?_
        refine PySem.W.ks_loadName_global hkind hks (Calls.loadGlobal_builtin ((e0.mod.glob.keeps hin).keeps k1) hms ((hb1.keeps hin).keeps k1) ((hb2 _ (by decide +kernel)).trans (by rfl)) ⟨rfl, ?_⟩)
        refine wpAny_loadName_free hkind hkc rfl ⟨_, K1 _ _ hcell, rfl⟩ ?_
        refine wpAny_loadName_local hkind (by rw [har]; exact hka) hns (by rw [har]; rfl) ?_
        refine ks_wpAny_isType_cls (K1 _ _ hC) rfl ⟨rfl, ?_⟩
        refine ks_wpAny_call_super (K1 _ _ hC) rfl (k1 _ _ ho) rfl (fun c e => nomatch e) (PySem.W.looks_mroIn K1 X.own) (fun h2 e2 k2 => ?_)
        have K2 : K.In h2 := K1.keeps k2
        have ho2 : h2.get? a = some ({ cls := .ref C, dict := none, data := .fields #[.ref t1, .none, .none, .none, .bool false, .none] } : Obj) := k2 _ _ (k1 _ _ ho)
        have I2 : PySem.W.InstAt h2 a ({ cls := .ref C, dict := none, data := .fields #[.ref t1, .none, .none, .none, .bool false, .none] } : Obj) C none := ⟨ho2, rfl, rfl, trivial⟩
        have hsm : PySem.W.alongIn K "__init__" (((Value.ref C :: bm).dropWhile (· != .ref C)).drop 1) = some (some (.builtin "ValueError.__init__")) := by
          have q := X.hm
          unfold PySem.W.ks_superIn at q
          rw [hcl] at q
          exact q
        refine PySem.W.kxs_getMethod PySem.W.kxs_ValueError e2 (PySem.W.looks_opaque K2 X.op) (l₀ := .ref C :: bm) ?_ rfl K2 hsm (I2.type.andThen (PySem.W.looks_subIn K2 X.sB)) xC (by decide) ?_
        · exact fun A Q E s k q => wpAny_bind ((PySem.W.looks_clsIn K2 hcl) A _ E s k (wpAny_pure q))
        obtain ⟨oL, esL, epL, hL, hnsL⟩ := id hns
        have kk : ∀ b o, h1.get? b = some o → (h2.push (PySem.W.kxs_mw "ValueError.__init__" a)).get? b = some o := fun b o e => Heap.get?_push_of_some _ (k2 b o e)
        have hns3 := hns.at (h' := h2.push (PySem.W.kxs_mw "ValueError.__init__" a)) fun o e => kk _ o e
        show wpAny _ _ (callWith p4 (.ref h2.objs.size) [] (backTo p4 [(false, eval (.Name "value" p3) _)]) []) _ _ _
        refine PySem.W.kxs_callWith (i := "ValueError.__init__") (x := a) rfl (Calls.evalArgs_plain ?_)
        show wpAny _ _ (spliced [(false, eval (.Name "value" p3) _)]) _ _ _
        refine Calls.spliced_cons (wpAny_Name (wpAny_loadName_local hkind hkv hns3 (by rfl) (Calls.spliced_nil ?_)) (by decide))
        refine ⟨Heap.get?_push_at rfl rfl, ?_⟩
        refine wpAny_call (codeAny_of_tree ?_)
        show wpAny _ _ (callAny (.ref h2.objs.size) ⟨[u], []⟩) _ _ _
        simp only [callAny]
        refine wpAny_bind (wpAny_load (Heap.get?_push_at rfl rfl) ?_)
        simp only [PySem.W.kxs_mw, show (Value.type "method-wrapper" == Value.type "method" || Value.type "method-wrapper" == Value.type "builtin_function_or_method" || Value.type "method-wrapper" == Value.type "method-wrapper") = true by decide, if_true]
        refine PySem.W.KFB.if_so (by decide) ?_
        have he3 : (h2.push (PySem.W.kxs_mw "ValueError.__init__" a)).get? a = some ({ cls := .ref C, dict := none, data := .fields #[.ref t1, .none, .none, .none, .bool false, .none] } : Obj) := kk _ _ (k1 _ _ ho)
        have K3 : K.In (h2.push (PySem.W.kxs_mw "ValueError.__init__" a)) := K1.keeps kk
        refine wpAny_bind (PySem.W.check_bound_init F.excBase_ValueError.toExcCallFacts (K3 _ _ hC) he3 rfl ?_)
        refine wpAny_bind (wpAny_pure (wpAny_pure ?_))
        refine ⟨plainId_quiet F.excBase_ValueError.init.plain _, codeAny_builtin F.excBase_ValueError.initEntry ?_⟩
        refine PySem.W.exc_init_tree (cls := .ref C) (t0 := t1) (dv := none) (c2 := .none) (c3 := .none) (b4 := .bool false) he3 (by show 1 ≤ sizeLine; decide) (fun h4 k4 e4 t4 => ?_)
        have hn0 : ∀ {b : Addr}, H b = none → b ≠ a := fun {b} n z => by
          rw [z, ea] at n
          cases n
        have K4 : K.In h4 := fun b o e => k4 b o (hn0 (e0.bs b o (e0.mod.kin b o e)).2) (K3 b o e)
        have La : hp0.objs.size ≠ a := Nat.ne_of_gt (Heap.lt_size ho)
        have hns4 := hns3.at (h' := h4) fun o e => k4 _ o La e
        refine ks_wpAt_execs_cons (ks_wpAt_Assign_Attr (wpAt_of_wpAny ?_))
        refine wpAny_Name (wpAny_loadName_local hkind hkv hns4 (by rfl) ?_) (by decide)
        refine wpAny_Name (wpAny_loadName_local hkind hka hns4 (by rfl) ?_) (by decide)
        refine PySem.W.set_plain K4 (ox := PySem.W.excRec (.ref C) (h2.push (PySem.W.kxs_mw "ValueError.__init__" a)).objs.size none .none .none (.bool false)) (od := none) ⟨e4, rfl, rfl, trivial⟩ X.T.sa ?_
        refine PySem.HandSPX.exc_osa K4 e4 hcl (show PySem.HandSPX.refsVE (.ref C :: bm) = true from hbm) rfl X.hno (fun h5 tk' dx k5 dn dne hx hn => ?_)
        have kf : ∀ b o, b ≠ a → hp0.get? b = some o → h5.get? b = some o := fun b o n e => k5 b o n (k4 b o n (kk b o (k1 b o e)))
        have sz : hp0.objs.size ≤ dx := by
          have z1 : hp0.objs.size < h1.objs.size := Heap.lt_size hL
          have z2 : h1.objs.size < h2.objs.size := Heap.lt_size e2
          have z3 : (h2.push (PySem.W.kxs_mw "ValueError.__init__" a)).objs.size < h4.objs.size := Heap.lt_size t4
          have z4 : (h2.push (PySem.W.kxs_mw "ValueError.__init__" a)).objs.size = h2.objs.size + 1 := by simp [Heap.size_push]
          have z5 : h4.objs.size ≤ dx := dn
          rw [z4] at z3
          exact Nat.le_trans (Nat.le_of_lt (Nat.lt_trans z1 (Nat.lt_trans z2 (Nat.lt_of_succ_lt z3)))) z5
        have hnd : H dx = none := e0.hok.fresh sz
        have nd : ∀ {b : Addr} {o : Obj}, hp0.get? b = some o → b ≠ dx := fun {b o} q => Nat.ne_of_lt (Nat.lt_of_lt_of_le (Heap.lt_size q) sz)
        refine wpAt_of_wpAny (wpAny_execs_nil ⟨.non, _, rfl, e0.bare, ?_, ?_, rfl, hq dx hnd dne⟩)
        · exact {
            keep := fun b o q n _ _ => kf b o (hn0 n) q
            slot := fun b o q n _ _ => ⟨o.slots, kf b o (hn0 n) q⟩
            free := fun b o q n _ => by rw [upd_ne (hn0 n), upd_ne (nd q)]; exact n
            there := fun b o q _ => by
              by_cases hb : b = a
              · exact ⟨_, by rw [hb]; exact hx⟩
              · exact ⟨o, kf b o hb q⟩
            tups := fun b xs q => by rw [upd_ne (at_ne ea q exo_tup), upd_ne (ne_of_none q hnd)]; exact q
            frzs := fun b o v q => by rw [upd_ne (at_ne ea q exo_frz), upd_ne (ne_of_none q hnd)]; exact q
            tbls := fun b ps q => ⟨#[], by rw [upd_ne (at_ne ea q exo_tbl), upd_ne (ne_of_none q hnd), q]; simp⟩ }
        · intro b o q
          by_cases hb : b = a
          · subst hb
            rw [upd_same] at q
            cases q
            exact exo_ok hx
          · rw [upd_ne hb] at q
            by_cases hd : b = dx
            · subst hd
              rw [upd_same] at q
              cases q
              exact exd_ok hn (relO_put (fs := []) ry fun g => True.intro)
            · rw [upd_ne hd] at q
              exact (e0.hok b o q).stay (fun c v hc z => kf c v (by
                  rcases hc with hc | hc
                  · rw [hc]
                    exact hb
                  · exact at_ne ea hc exo_own) z)
                (fun c hc => by rw [upd_ne (at_ne ea hc exo_own), upd_ne (ne_of_none hc hnd)]; exact hc) (fun c xs hc => by rw [upd_ne (at_ne ea hc exo_tup), upd_ne (ne_of_none hc hnd)]; exact hc)
end Dv

namespace Dv
open PySem L2 PyProof.Rows PySem.Spec
/-! ### defs that may let an own error out -/
/-- what the wish E is at an error of the class named n with a value d of which ψ -/
def EOk (cA : String → Addr) (E : XK) (ψ : String → PyData → Prop) (F G0 : Hp) : Prop := ∀ (n : String) (dx : Addr) (y : V) (d : PyData) (G' H' : Hp), Same F H' → Same G' H' → Same G0 G' → (∀ a o, G' a = some o → F a ≠ none → G0 a = some o) →
  F dx = none → G' dx = none → H' dx = some (.xd [("value", y)]) → Rp G' y d → ψ n d → E (.ref (cA n)) (some dx) H'
def SpX (cA : String → Addr) (pre : List PyData → (PyData → Prop) → (String → PyData → Prop) → Prop) : Sp := fun vs H Q E => ∃ G ds φ ψ, Same G H ∧ RpA G vs ds ∧ pre ds φ ψ ∧ (∀ v d G' H', Grow G H G' H' → Rp G' v d → φ d → Q v H') ∧ EOk cA E ψ H G
theorem EOk.sta {cA : String → Addr} {E : XK} {ψ ψ' : String → PyData → Prop} {F G0 G H : Hp} {σ : L2.St} {ρ : Rho} (h : EOk cA E ψ F G0) (s : Sta F G0 G H σ ρ) (k : ∀ n d, ψ' n d → ψ n d) : EOk cA E ψ' H G := fun n dx y d G' H' a b c e f g i j l =>
  h n dx y d G' H' (s.fh.trans a) b (s.g0.trans c) (fun x o q nn => s.new x o (e x o q (by
    cases z : F x with
    | none => exact absurd z nn
    | some u => rw [s.fh x u z]; simp)) nn) (none_of s.fh f) g i j (k n d l)
theorem EOk.never {cA : String → Addr} {E : XK} {F G0 : Hp} : EOk cA E (fun _ _ => False) F G0 := fun _ _ _ _ _ _ _ _ _ _ _ _ _ _ l => l.elim
theorem fn_x {cA : String → Addr} {pre : List PyData → (PyData → Prop) → (String → PyData → Prop) → Prop} {t : TS} {N : List Str} {n : Nat} {E : XK} (hn : n ≤ N.length) (hl : ∀ ds φ ψ, pre ds φ ψ → ds.length = n)
    (h : ∀ F G0 ds φ ψ, pre ds φ ψ → EOk cA E ψ F G0 → Ws F G0 t (slots0 N.length ds) { nx := fun _ => φ .none, rt := fun d _ => φ d }) {vs : List V} {H : Hp} {Q : VK} (hs : SpX cA pre vs H Q E) : t { nx := fun _ H' => Q .non H', rt := Q } (L2.start N vs) H := by
  obtain ⟨G, ds, φ, ψ, s, r, p, k, e⟩ := hs
  have hv : vs.length ≤ N.length := by rw [r.len, hl ds φ ψ p]; exact hn
  have fin : ∀ (v : V) (d : PyData) (σ' : L2.St) (ρ' : Rho) (G' H' : Hp), Sta H G G' H' σ' ρ' → Same G G' → Rp G' v d → φ d → Q v H' := fun v d σ' ρ' G' H' s' g r' q => k v d G' H' ⟨g, s'.fh, s'.gh, s'.new⟩ r' q
  exact h H G ds φ ψ p e G H _ (sta_start s r hv) _ (fun σ' ρ' G' H' s' g q => fin .non .none σ' ρ' G' H' s' g .non q) (fun v d σ' ρ' G' H' s' g r' q => fin v d σ' ρ' G' H' s' g r' q) (fun _ _ _ _ _ _ q => q.elim) (fun _ _ _ _ _ _ q => q.elim)
theorem spx_len {cA : String → Addr} {pre : List PyData → (PyData → Prop) → (String → PyData → Prop) → Prop} {n : Nat} (hl : ∀ ds φ ψ, pre ds φ ψ → ds.length = n) : ∀ vs H Q E, SpX cA pre vs H Q E → vs.length = n := fun vs H Q E ⟨G, ds, φ, ψ, s, r, p, k⟩ => by rw [r.len, hl ds φ ψ p]
section
variable {P : Program} {w : World} {K : PySem.W.Frag} {mg : Str → Option Value} {base : Heap}
/-- a def that may let an error out, by its body -/
theorem FnG.okX {x qual : Str} {st : Stmt} {f : Addr} {fd : FuncData} {N ps : List Str} {k : Nat} {sp : Sp} (F : Fun K x qual st f fd) (S : FnScope N ps (defScope st)) (len : ∀ vs H Q E, sp vs H Q E → vs.length = ps.length)
    (hb : ∀ (cdv : Value) (A : Around) (outer : List PySem.Env) (s : Shared) (H : Hp) (vs : List V) (Q : VK) (E : XK), Room k (cxOf (L2.CX P w) P w K mg base N qual (defScope st) f cdv A outer s H E).A → (cxOf (L2.CX P w) P w K mg base N qual (defScope st) f cdv A outer s H E).A.guards = some [] → sp vs H Q E →
      ∃ t, PSs (cxOf (L2.CX P w) P w K mg base N qual (defScope st) f cdv A outer s H E) (defBody st) t ∧ t { nx := fun _ H' => Q .non H', rt := Q } (L2.start N vs) H) : FnG P w K mg base (L2.CX P w) (k + 1) f fd ps sp := by
  obtain ⟨oc, od, kV, doc, pm, an, cdv, ct, osl, rfl, lk, hcd⟩ := F.ex
  exact FnG.of lk hcd S len fun A outer s H vs Q E hr hg hsp => hb cdv A outer s H vs Q E hr hg hsp
theorem passF {X : Cx} : Passes (L2.CX X.prog X.w) X E0 := fun _ _ _ _ _ _ _ ⟨_, _, _, _, _, _, _, _, _, _, _, _, e⟩ => e.elim
end
/-- a class's words: class, its __init__, how it binds -/
structure XcC (P : Program) (K : PySem.W.Frag) (mg : Str → Option Value) (x : Str) (C fI : Addr) (fd : FuncData) : Prop where
  xi : XiC P K C fI fd
  iC : PySem.W.findIn K (.ref C) "__init__" = some (some (.ref fI))
  tI : PySem.W.typeIn K (.ref fI) = some (.type "function")
  bd : Binds K fd ["self", "value"] []
  ms : mg "super" = none
  mC : mg x = some (.ref C)
section
variable {X : Cx} {e : Expr} {ta : TA} {p pos : Pos} {x : Str} {C fI : Addr} {fd : FuncData} {W : WX}
theorem ps_raiseV (T : XcC X.prog X.K X.mg x C fI fd) (hc : X.calm = true) (tk : Takes X W) (hr : Room 1 X.A) (hg : Gl X x) (ha : PA X [e] ta) (hdb : (x == ("__debug__" : Str)) = false := by decide) (he : starEach [e] X.env = (false, eval e X.env) :: starEach [] X.env := by rfl) {pos' : Pos} :
    PS X (.Raise (some (.Call (.Name x p) [e] [] pos)) none pos') (fun _ σ H => tMkO C (spXi C) [] ta σ H fun cls d H' => W cls d σ H') :=
  ps_raise hc tk (pmk_oex (CX := CX0) T.xi.T T.iC T.tI (xi_ok (k := 0) T.xi T.ms) hr T.bd .nil pass0 hg T.mC ha hdb he rfl)
end
section
variable {F G0 : Hp} {cA : String → Addr} {E : XK} {ψ : String → PyData → Prop} {tas : TA} {ρ : Rho} {nx bk ct : Rho → Prop} {rt : PyData → Rho → Prop} {C : Addr}
theorem q_raise (n : String) (hE : EOk cA E ψ F G0) (hC : cA n = C) (h : Wa tas ρ fun ds _ => ∃ d, ds = [d] ∧ ψ n d) : Ws F G0 (fun _ σ H => tMkO C (spXi C) [] tas σ H fun cls d H' => E cls d H') ρ ⟨nx, rt, bk, ct⟩ := fun G H σ s D q1 q2 q3 q4 =>
  h F G0 G H σ s _ fun vs ds ρ1 G1 H1 s1 g1 r1 ⟨d, e, hd⟩ => by
    subst e
    cases r1 with
    | @cons v vs' _ _ ra rb =>
      cases rb
      refine ⟨by simp, fun a ha => ⟨a, v, rfl, upd_same, fun dx hdx hda => ⟨rfl, dx, [("value", v)], upd_same, ?_, ?_, ?_⟩⟩⟩
      · rw [upd_ne hda, upd_same]
      · rw [upd_ne hda] at hdx
        exact hdx
      · rw [upd_ne hda] at hdx
        rw [← hC]
        refine hE n dx v d G1 _ (fun b o eb => ?_) (fun b o eb => ?_) s1.g0 s1.new (none_of s1.fh hdx) (none_of s1.gh hdx) upd_same ra hd
        · have h1 := s1.fh b o eb
          have nb : b ≠ dx := fun z => by rw [z, hdx] at h1; cases h1
          have na : b ≠ a := fun z => by rw [z, ha] at h1; cases h1
          rw [upd_ne nb, del_ne na, upd_ne na, upd_ne nb, upd_ne na]
          exact h1
        · have h1 := s1.gh b o eb
          have nb : b ≠ dx := fun z => by rw [z, hdx] at h1; cases h1
          have na : b ≠ a := fun z => by rw [z, ha] at h1; cases h1
          rw [upd_ne nb, del_ne na, upd_ne na, upd_ne nb, upd_ne na]
          exact h1
variable {Φ : PyData → Rho → Prop} {pre : List PyData → (PyData → Prop) → (String → PyData → Prop) → Prop}
/-- a call that lets no error out -/
theorem we_callX (h : Wa tas ρ fun ds ρ1 => pre ds (fun d => Φ d ρ1) fun _ _ => False) : We (tCall (SpX cA pre) [] E tas) ρ Φ := fun F G0 G H σ s Q k =>
  h F G0 G H σ s _ fun vs ds ρ1 G1 H1 s1 g1 r1 p => ⟨G1, ds, _, _, s1.gh, by rw [List.append_nil]; exact r1, p, fun v d G' H' gr r q => k v d ρ1 G' H' (s1.grow gr) (g1.trans gr.g) r q, .never⟩
/-- return f(..), which may let an error out -/
theorem q_retX (hE : EOk cA E ψ F G0) (h : Wa tas ρ fun ds ρ1 => pre ds (fun d => rt d ρ1) ψ) : Ws F G0 (tRet (tCall (SpX cA pre) [] E tas)) ρ ⟨nx, rt, bk, ct⟩ := fun G H σ s D q1 q2 q3 q4 =>
  h F G0 G H σ s _ fun vs ds ρ1 G1 H1 s1 g1 r1 p => ⟨G1, ds, _, _, s1.gh, by rw [List.append_nil]; exact r1, p, fun v d G' H' gr r q => q2 v d _ ρ1 G' H' (s1.grow gr) (g1.trans gr.g) r q, hE.sta s1 fun _ _ z => z⟩
theorem q_setX {i : Nat} (hE : EOk cA E ψ F G0) (h : Wa tas ρ fun ds ρ1 => pre ds (fun d => nx (ρ1.set i (.val d))) ψ) : Ws F G0 (tAsg (tCall (SpX cA pre) [] E tas) (gName i)) ρ ⟨nx, rt, bk, ct⟩ := fun G H σ s D q1 q2 q3 q4 =>
  h F G0 G H σ s _ fun vs ds ρ1 G1 H1 s1 g1 r1 p => ⟨G1, ds, _, _, s1.gh, by rw [List.append_nil]; exact r1, p, fun v d G' H' gr r q => q1 _ _ G' H' ((s1.grow gr).setV r) (g1.trans gr.g) q, hE.sta s1 fun _ _ z => z⟩
end
end Dv

namespace Dv
open PySem L2 PyProof.Rows PySem.Spec
/-! ### an error that was caught is kept behind the suite -/
/-- at a: an exception of the class cls whose dict is d -/
def exH (cls : Value) (d : Option Addr) (a : Addr) : HO := .ext fun h => ∃ (oe : Obj) (vs : Array Value), h.get? a = some oe ∧ Zc cls d oe ∧ oe.data = .fields vs
theorem exH_ok {P : Program} {w : World} {H : Hp} {h : Heap} {a : Addr} {cls : Value} {d : Option Addr} {oe : Obj} {vs : Array Value} (e : h.get? a = some oe) (z : Zc cls d oe) (dt : oe.data = .fields vs) : ObjOk P w H h a (exH cls d a) :=
  ⟨⟨oe, vs, e, z, dt⟩, ⟨oe, e⟩, fun h1 h2 ⟨o, v, e1, z1, d1⟩ k => ⟨o, v, k o e1, z1, d1⟩⟩
theorem exH_at {P : Program} {w : World} {H : Hp} {h : Heap} {a : Addr} {cls : Value} {d : Option Addr} (k : HOk P w H h) (e : H a = some (exH cls d a)) : ∃ (oe : Obj) (vs : Array Value), h.get? a = some oe ∧ Zc cls d oe ∧ oe.data = .fields vs := by
  have q : ObjOk P w H h a (exH cls d a) := k a _ e
  exact q.1
section
variable {X : Cx} {pins : List (Addr × Obj)} {σ : L2.St} {H : Hp} {s : Shared}
theorem adopt {a : Addr} {oe : Obj} {vs : Array Value} {cls : Value} {d : Option Addr} (I : L2.Inv X pins σ H s) (he : s.heap.get? a = some oe) (hz : Zc cls d oe) (hd : oe.data = .fields vs) (na : H a = none) (n0 : X.s_0.heap.get? a = none)
    (nL : a ≠ X.env.locals) (np : ∀ p ∈ X.pn ++ pins, p.1 ≠ a) : L2.Inv X pins σ (upd H a (exH cls d a)) s where
  ok := I.ok
  os := I.os
  bare := I.bare
  base := ⟨I.base.keep, I.base.slot, fun b o q n x => by rw [upd_ne fun z => by rw [z, n0] at q; cases q]; exact I.base.free b o q n x, I.base.there, fun b xs q => by
      have q2 := I.base.tups b xs q
      rw [upd_ne fun z => by rw [z, na] at q2; cases q2]
      exact q2, fun b o u q => by
      have q2 := I.base.frzs b o u q
      rw [upd_ne fun z => by rw [z, na] at q2; cases q2]
      exact q2, fun b ps q => by
      obtain ⟨more, q2⟩ := I.base.tbls b ps q
      refine ⟨more, ?_⟩
      rw [upd_ne fun z => by rw [z, na] at q2; cases q2]
      exact q2⟩
  loc := I.loc
  cell := I.cell
  free := by rw [upd_ne (Ne.symm nL)]; exact I.free
  freeC := fun x c e => by
    rw [upd_ne]
    · exact I.freeC x c e
    · intro z
      obtain ⟨v, hv⟩ := I.cell x c e
      obtain ⟨o, e1, e2⟩ := hv
      rw [z, he] at e1
      cases e1
      rw [hd] at e2
      cases e2
  pin := fun p hp => by
    obtain ⟨e1, e2, e3⟩ := I.pin p hp
    exact ⟨e1, by rw [upd_ne (np p hp)]; exact e2, e3⟩
  hok := L2.HOk.laidN I.hok (fun _ _ e => e) na (exH_ok he hz hd)
  len := I.len
end
/-- what the clause wishes: behind the suite the error is a thing of ours -/
def wKeep (K : PySem.W.Frag) (c : Value) (i : Nat) (ts : TS) (Wo : WX) (D : Ends) : WX := fun cls d σ H =>
  ∃ b, PySem.W.exmOne K cls c = some b ∧ (b = true → ∀ a, H a = none → ts { nx := fun σ' H' => H' a = none → D.nx (σ'.set i none) (upd H' a (exH cls d a)), rt := D.rt, bk := fun σ' H' => D.bk (σ'.set i none) H', ct := fun σ' H' => D.ct (σ'.set i none) H' } (σ.set i (some (.ref a))) H) ∧ (b = false → Wo cls d σ H)
section
variable {X : Cx} {x n : Str} {c : Value} {i : Nat} {body su : List Stmt} {b0 : Stmt} {np pos pos' : Pos} {tb : WX → TS} {ts : TS} {Wo : WX}
theorem ps_tryK (hst : X.stack = X.env :: X.outer) (hfr : X.env.frame = some X.env.locals) (hxx : X.ex = []) (hnd : X.N.Nodup) (hni : X.N[i]? = some n) (hnl : X.env.kindOf n = some .local) (hcl : Names X x c) (tk : Takes X Wo)
    (hbd : ∀ (W : WX) (pn : List (Addr × Obj)) (xe : Value → Shared → Prop), Takes (X.tr pn xe) W → PassesOwn (model X.prog X.w) X.A X.env xe → PSs (X.tr pn xe) body (tb W))
    (hsu : ∀ (a : Addr) (oe : Obj) (pn : List (Addr × Obj)), PSs (X.suite a ((a, oe) :: pn)) (b0 :: su) ts) :
    PS X (.Try body [.ExceptHandler (some (.Name x np)) (some n) (b0 :: su) pos'] [] [] pos) (fun D σ H => tb (wKeep X.K c i ts Wo D) D σ H) := by
  refine ⟨fun pins s σ H D I hw => ?_⟩
  have okX := I.ok
  have hframes : X.A.frames = some (X.env :: X.outer) := by rw [okX.frames, hst]
  refine wpAny_Try_except (wpAny_mono ((hbd (wKeep X.K c i ts Wo D) (X.pn ++ pins) _ (fun u s' xx => ?_) PassesOwn.looking).run [] s σ H D (I.toTry _) hw) (fun fl s1 hsp => ?_) (fun e s1 he => he))
  · obtain ⟨a, B, sI, pins', σ', H', cls, d, rfl, J', nb, up, sky, na, os, ag, b, hb1, hyes, hno⟩ := xx
    have J : L2.Inv X pins σ' H' sI := J'.ofTry okX
    have sky' : Sky B (X.env :: X.outer) a (Zc cls d) X.env.locals s'.heap := by rw [← hst]; exact sky
    refine Sky.land Zc.steady hframes hfr sky' fun h3 fl3 up3 => ?_
    have J3 : L2.Inv X pins σ' H' { s' with heap := h3 } := J.landed nb fl3.1 (up.trans up3) os ag
    obtain ⟨oe3, vs3, he3, hz3, hd3⟩ := fl3.there
    have outF : a ∉ frs (X.env :: X.outer) := fun hm => by
      obtain ⟨_, o', e', hnf⟩ := fl3.2.2.1.mem hm
      rw [he3] at e'
      cases e'
      exact hnf _ hd3
    have aL : a ≠ X.env.locals := fun z => outF (List.mem_filterMap.mpr ⟨X.env, List.mem_cons_self, by rw [hfr, z]⟩)
    have aF : a ∉ X.fs := fun hm => by
      obtain ⟨e, he, q⟩ := List.mem_filterMap.mp hm
      exact outF (List.mem_filterMap.mpr ⟨e, List.mem_cons_of_mem _ he, q⟩)
    have aI : sI.heap.get? a = none := by
      cases q : sI.heap.get? a with
      | none => rfl
      | some o =>
        have z := nb a o q (by rw [hst]; exact outF)
        rw [fl3.2.1] at z
        cases z
    have a0 : X.s_0.heap.get? a = none := by
      cases q : X.s_0.heap.get? a with
      | none => rfl
      | some o =>
        obtain ⟨o', z⟩ := J.base.there a o q (by rw [hxx]; simp)
        rw [aI] at z
        cases z
    have aP : ∀ p ∈ X.pn ++ pins, p.1 ≠ a := fun p hp z => by
      obtain ⟨e1, _⟩ := J.pin p hp
      rw [z, aI] at e1
      cases e1
    have S3 := J3.suite he3 hd3 na aL aF
    refine wpAny_handleBy_cons (codeAny_handlers_test ?_) (by intro q; cases q)
    have typ : PySem.W.Looks (model X.prog X.w) h3 (typeOf (.ref a)) cls := fun A Q E s k q => wpAny_typeOf_ref (k _ _ he3) (by rw [hz3.1]; exact q)
    have meets := PySem.W.exm_one (M := model X.prog X.w) (J3.kIn) typ hb1
    have named : ∀ {Q : Value → Shared → Prop} {E : Value → Shared → Prop}, Q c { s' with heap := h3 } → wpAny (model X.prog X.w) (X.A.mark (some (.ref a))) (eval (.Name x np) X.env) Q E { s' with heap := h3 } := fun {Q E} q => by
      obtain ⟨hg, hdb, hm | ⟨hm, hv, hnn⟩⟩ := hcl
      · exact ld_glob (X := X.suite a ((a, oe3) :: (X.pn ++ pins))) S3 hg hm q hdb
      · exact ld_blt (X := X.suite a ((a, oe3) :: (X.pn ++ pins))) S3 hg hm hv q hnn hdb
    refine named (meets.here ?_)
    cases b with
    | true =>
      refine codeAny_handlers_suite_as (HandSPX.lands_againZ fl3 fun h4 fl4 up4 => ?_)
      have J4 : L2.Inv X pins σ' H' { s' with heap := h4 } := J.landed nb fl4.1 ((up.trans up3).trans up4) os ag
      obtain ⟨oe4, vs4, he4, hz4, hd4⟩ := fl4.there
      have S4 := J4.suite he4 hd4 na aL aF
      refine store_ok (X := X.suite a ((a, oe4) :: (X.pn ++ pins))) (v := .ref a) S4 hnd hni (.inl hnl) rfl (fun s5 S5 => ?_) (.inr hnl)
      refine wpAny_mono ((hsu a oe4 (X.pn ++ pins)).run [] s5 _ H' _ S5 (hyes rfl a na)) (fun fl s6 hsp => ?_) (fun _ _ z => False.elim z)
      have leave : ∀ {σ6 : L2.St} {H6 : Hp} {Q : Shared → Prop}, L2.Inv X pins σ6 H6 s6 → (∀ s7, L2.Inv X pins (σ6.set i none) H6 s7 → Q s7) →
          wpAny (model X.prog X.w) X.A (do bindName X.env n .none; unbindBehindTheSuite X.env n pos') (fun _ s7 => Q s7) X.xe s6 := fun {σ6 H6 Q} S6 hq => gone_ok S6 hnd hni hnl hq
      cases fl with
      | next =>
        obtain ⟨σ6, H6, S6, q6⟩ := hsp
        have pinA := S6.pin (a, oe4) (List.mem_append_left _ List.mem_cons_self)
        exact leave (adopt (S6.unsuite okX) pinA.1 hz4 hd4 pinA.2.1 a0 aL aP) fun s7 J7 => ⟨_, _, J7, q6 pinA.2.1⟩
      | brk =>
        obtain ⟨σ6, H6, S6, q6⟩ := hsp
        exact leave (S6.unsuite okX) fun s7 J7 => ⟨_, _, J7, q6⟩
      | cont =>
        obtain ⟨σ6, H6, S6, q6⟩ := hsp
        exact leave (S6.unsuite okX) fun s7 J7 => ⟨_, _, J7, q6⟩
      | ret u =>
        obtain ⟨v6, σ6, H6, S6, r6, q6⟩ := hsp
        exact leave (S6.unsuite okX) fun s7 J7 => ⟨_, _, _, J7, r6, q6⟩
    | false =>
      refine wpAny_handleBy_nil ?_
      obtain ⟨k1, k2, k3, oe, vs, T, oT, tls, he, hz, hd, hv1, hr⟩ := id fl3
      unfold PySem.passOn
      refine wpAny_bind (wpAny_field he hd hv1 ?_)
      rw [if_neg (show ¬ ((Value.ref T == Value.none) = true) from by simp)]
      have fin : wpAny (model X.prog X.w) X.A (setFlight (.ref a) X.env.frame) (fun _ s4 => wpAny (model X.prog X.w) X.A (throw (.ref a) : Sem Flow) (SP X pins D) X.xe s4) X.xe { s' with heap := h3 } := by
        rw [hfr]
        exact HandSPX.setFlight_upZ fl3 fun h4 hh4 up4 => wpAny_throw (tk _ _ ⟨a, B, sI, pins, σ', H', cls, d, rfl, J, nb, (up.trans up3).trans up4, .inr (.inr (by rw [hst]; exact hh4)), na, os, ag, hno rfl⟩)
      first
        | exact wpAny_bind (wpAny_pure (wpAny_bind fin))
        | exact wpAny_bind fin
  · cases fl with
    | next =>
      obtain ⟨σ', H', J', q⟩ := hsp
      exact wpAny_execs_nil ⟨σ', H', J'.ofTry okX, q⟩
    | brk =>
      obtain ⟨σ', H', J', q⟩ := hsp
      exact ⟨σ', H', J'.ofTry okX, q⟩
    | cont =>
      obtain ⟨σ', H', J', q⟩ := hsp
      exact ⟨σ', H', J'.ofTry okX, q⟩
    | ret u =>
      obtain ⟨v, σ', H', J', r, q⟩ := hsp
      exact ⟨v, σ', H', J'.ofTry okX, r, q⟩
end
end Dv

namespace Dv
open PySem L2 PyProof.Rows PySem.Spec
/-- an error of the class at C with a value of data d; its dict lies at dx -/
def excR (a C dx : Addr) (d : PyData) : Res where
  fp := [a, dx]
  ok := fun G H v => v = .ref a ∧ H a = some (exH (.ref C) (some dx) a) ∧ ∃ y, H dx = some (.xd [("value", y)]) ∧ Rp G y d
  mono := by
    rintro G H G' H' v ⟨e, h1, y, h2, r⟩ g k
    exact ⟨e, (k a (by simp)).trans h1, y, (k dx (by simp)).trans h2, r.mono g⟩
/-- what the written part says of an own error's class, for isinstance and for a look at its value -/
structure XqC (K : PySem.W.Frag) (C : Addr) : Prop where
  cl : (PySem.W.clsIn K C).isSome = true
  ga : PySem.W.findIn K (.ref C) "__getattribute__" = some (some (.builtin "BaseException.__getattribute__"))
  gt : PySem.W.findIn K (.ref C) "__getattr__" = some none
  sb : PySem.W.subIn K (.ref C) (.type "BaseException") = some true
  hd : PySem.W.hasDictIn K C = true
  ca : PySem.W.findIn K (.ref C) "__class__" = some (some (.builtin "object.__class__"))
  cg : PySem.W.specialIn K (.builtin "object.__class__") "__get__" = some (some (.builtin "getset_descriptor.__get__"))
  ct : PySem.W.takesIn K (.builtin "object.__class__") = some true
  mo : PySem.W.mroIn K C (.type "object") = some true
  nv : PySem.W.findIn K (.ref C) "value" = some none
theorem xq_inst {P : Program} {w : World} {H : Hp} {h : Heap} {a C dx : Addr} {fs : List (Str × V)} (k : HOk P w H h) (e : H a = some (exH (.ref C) (some dx) a)) (ed : H dx = some (.xd fs)) : ∃ (oe od : Obj), PySem.W.InstAt h a oe C (some od) ∧ h.get? dx = some od ∧ ∃ mA, h.Ns1 dx mA ∧ (∀ f, RelO (fs.lookup f) (mA f)) ∧ ∀ f, PySem.W.lookIn f od = some (mA f) := by
  obtain ⟨oe, vs, e1, hz, hd⟩ := exH_at k e
  have hx : ObjOk P w H h dx (.xd fs) := k dx _ ed
  obtain ⟨mA, hns, hr⟩ := hx
  obtain ⟨od, ho, hl⟩ := lookIn_ns hns
  exact ⟨oe, od, ⟨e1, hz.1, by unfold PySem.W.notCls; rw [hd] <;> rfl, by rw [hz.2]; exact ho⟩, ho, mA, hns, hr, hl⟩
/-- isinstance(e, C) of an own error that is ours -/
def rIsX (K : PySem.W.Frag) : List V → Hp → VK → Prop := fun xs H Q => ∃ (a D dx : Addr) (fs : List (Str × V)) (c : V) (cv : Value) (b : Bool), xs = [.ref a, c] ∧ (∀ u, RelV c u → u = cv) ∧ H a = some (exH (.ref D) (some dx) a) ∧ H dx = some (.xd fs) ∧ XqC K D ∧ PySem.W.kitOne K (.ref D) cv = some b ∧ Q (.bl b) H
section
variable {X : Cx} {K : PySem.W.Frag} {e : Expr} {es : List Expr} {te : TE} {t : TA} {pos pos' p : Pos} {x f : Str} {W : WX}
theorem k_isx (h : X.K = K) : CallR X (.builtin "isinstance") (rIsX K) := by
  subst h
  intro pins s σ H xs us Q I r h
  obtain ⟨a, D, dx, fs, c, cv, b, rfl, hcv, ea, ed, C, hk, q⟩ := h
  cases r with
  | @cons _ u0 _ ur ra rr =>
    obtain rfl : u0 = Value.ref a := ra
    obtain ⟨u, rfl, rt⟩ := vals1 rr
    obtain rfl := hcv u rt
    obtain ⟨oe, od, J, _⟩ := xq_inst I.hok ea ed
    exact PySem.W.kia_one (PySem.W.kitx_exc C.cl C.ga C.gt C.sb C.ca C.cg C.ct C.mo) I.kIn J hk (fun z => nomatch z) fun tk => ⟨.bl b, H, I.kept (t' := tk) fun _ _ z => z, rfl, q⟩
/-- e.value of an own error that is ours -/
def tXv (K : PySem.W.Frag) (te : TE) : TE := fun σ H Q => te σ H fun x H1 => ∃ (a D dx : Addr) (fs : List (Str × V)) (v : V), x = .ref a ∧ H1 a = some (exH (.ref D) (some dx) a) ∧ H1 dx = some (.xd fs) ∧ XqC K D ∧ fs.lookup ("value" : Str) = some v ∧ Q v H1
theorem k_xv (hK : X.K = K) (he : PE X e te) (hb : attributeBase e "value" X.env (eval e X.env) = eval e X.env := by rfl) : PE X (.Attribute e "value" pos) (tXv K te) := by
  subst hK
  refine ⟨fun pins s σ H Q I h => ?_⟩
  refine attr_of hb (thn (he.run pins s σ H _ I h) fun u s1 hh => ?_)
  obtain ⟨y, H1, I1, ry, a, D, dx, fs, v, ey, ea, ed, C, l, q⟩ := hh
  subst ey
  obtain rfl : u = Value.ref a := ry
  obtain ⟨oe, od, J, ho, mA, hns, hr, hl⟩ := xq_inst I1.hok ea ed
  obtain ⟨w, hw, rw'⟩ := RelO.some_of (v := v) (o := mA "value") (by rw [← l]; exact hr "value")
  exact HandSPX.exc_get I1.kIn J C.ga C.gt C.sb (PySem.W.findObj_own C.hd C.nv rfl (by rw [hl "value", hw])) (handed_of rw') ⟨v, H1, I1.tok _, rw', q⟩
/-- f(..) as a statement, what it lets out being taken -/
def tTry (sp : Sp) (t : TA) (W : WX) : TS := fun D σ H => t σ H fun vs H1 => sp vs H1 (fun _ H2 => D.nx σ H2) (fun cls d H2 => W cls d σ H2)
theorem ps_tryC {k : Nat} {g : Addr} {fd : FuncData} {ps : List Str} {sp : Sp} (F : FnG X.prog X.w X.K X.mg X.base (L2.CX X.prog X.w) k g fd ps sp) (hr : Room k X.A) (hgd : X.A.guards = some []) (hg : Gl X x) (hm : X.mg x = some (.ref g)) (hk : PySem.W.keepIn X.K (.ref g) = true) (hb : Binds X.K fd ps []) (tk : Takes X W)
    (ha : PA X (e :: es) t) (hdb : (x == ("__debug__" : Str)) = false := by decide) (he : starEach (e :: es) X.env = (false, eval e X.env) :: starEach es X.env := by rfl) (hpl : (backTo pos (starEach es X.env)).any (·.1) = false := by rfl) :
    PS X (.Expr (.Call (.Name x p) (e :: es) [] pos) pos') (tTry sp t W) := by
  refine ⟨fun pins s σ H D I h => ?_⟩
  refine wpAny_Expr_any ?_ I.quiet rfl
  refine wpAny_Call_Name_kw (ld_glob I hg hm ?_ hdb)
  refine PySem.W.callWith_K (h₀ := X.base) I.ok.mod.kin hk (thn (ha.run pos pins s σ H _ I h) ?_) he hpl
  rintro us s1 ⟨vs, H1, I1, r, q⟩
  have hl : us.length = ps.length := by rw [← r.length]; exact F.len _ _ _ _ q
  have b := hb s1 us I1.kIn (by rw [List.append_nil]; exact hl)
  rw [List.append_nil] at b
  refine ⟨I1.kIn, wpAny_call (codeAny_mono (F.run X.A X.stack s1 H1 ⟨us, []⟩ us vs _ _ hr hgd I1.env0 b r q) ?_)⟩
  intro r' s' hq
  cases r' with
  | error er => exact tk er s' (XE.of_call I1 (fun _ _ _ z => z) hq)
  | ok fl =>
    cases fl with
    | ret u =>
      obtain ⟨v, H2, J, _, q2⟩ := I1.after hq
      exact ⟨σ, H2, J, q2⟩
    | next => exact hq.elim
    | brk => exact hq.elim
    | cont => exact hq.elim
theorem takesNo : Takes X (fun _ _ _ _ => False) ↔ True := ⟨fun _ => trivial, fun _ u s' ⟨_, _, _, _, _, _, _, _, _, _, _, _, _, _, _, _, z⟩ => z.elim⟩
end
section
variable {F G0 : Hp} {cA : String → Addr} {tas : TA} {ρ : Rho} {nx bk ct : Rho → Prop} {rt : PyData → Rho → Prop} {Φ : PyData → Rho → Prop} {pre : List PyData → (PyData → Prop) → (String → PyData → Prop) → Prop} {K : PySem.W.Frag} {c : Value} {i j : Nat} {Wo : WX} {a C dx : Addr} {d : PyData}
/-- try: f(..) / except x as n: m = n -/
theorem q_tryC (h : Wa tas ρ fun ds ρ1 => i < ρ1.length ∧ ∃ ψ, pre ds (fun _ => nx ρ1) ψ ∧ ∀ n d, ψ n d → PySem.W.exmOne K (.ref (cA n)) c = some true ∧ ∀ a dx, nx (((ρ1.set i .any).set j (.res (excR a (cA n) dx d))).set i .any)) :
    Ws F G0 (fun D σ H => tTry (SpX cA pre) tas (wKeep K c i (tAsg (tVar i) (gName j)) Wo D) D σ H) ρ ⟨nx, rt, bk, ct⟩ := fun G H σ s D q1 q2 q3 q4 =>
  h F G0 G H σ s _ fun vs ds ρ1 G1 H1 s1 g1 r1 ⟨hi, ψ, p, pk⟩ => by
    refine ⟨G1, ds, _, ψ, s1.gh, r1, p, fun v d G' H' gr r q => q1 σ ρ1 G' H' (s1.grow gr) (g1.trans gr.g) q, ?_⟩
    intro n dx y d G' H' b1 b2 b3 b4 b5 b6 b7 ry hψ
    obtain ⟨e1, e2⟩ := pk n d hψ
    refine ⟨true, e1, fun _ a ha => ?_, fun z => nomatch z⟩
    have hi' : i < σ.length := by rw [s1.len]; exact hi
    refine ⟨.ref a, by rw [List.getElem?_set_self hi'], fun ha' => ?_⟩
    have gr : Grow G1 H1 G' H' := ⟨b3, b1, b2, b4⟩
    have s2 : Sta F G0 G' H' σ ρ1 := s1.grow gr
    have s3 : Sta F G0 G' (upd H' a (exH (.ref (cA n)) (some dx) a)) σ ρ1 := s2.laid ha'
    have s4 := s3.setN (i := i) (x := some (.ref a))
    have nda : dx ≠ a := fun z => by rw [z, ha'] at b7; cases b7
    have fdx : F dx = none := none_of s1.fh b5
    have s5 := s4.setR (i := j) (v := .ref a) (r := excR a (cA n) dx d) ⟨rfl, upd_same, y, by rw [upd_ne nda]; exact b7, ry⟩ (fun b hb => ?_) (fun k z hk ez b hb hb2 => ?_)
    · exact q1 _ _ G' _ (s5.setN (i := i) (x := none)) (g1.trans b3) (e2 a dx)
    · rcases List.mem_cons.mp hb with rfl | hb
      · exact ⟨none_of s2.fh ha', none_of s2.gh ha', by rw [upd_same]; simp⟩
      · obtain rfl := List.mem_singleton.mp hb
        exact ⟨fdx, b6, by rw [upd_ne nda, b7]; simp⟩
    · have old : ∀ b, b ∈ z.fp → ρ1[k]? = some z ∨ z = .any := fun b hb => by
        by_cases hki : i = k
        · subst hki
          rw [List.getElem?_set_self (by rw [← s1.len]; exact hi')] at ez
          exact .inr (Option.some.inj ez).symm
        · rw [List.getElem?_set_ne hki] at ez
          exact .inl ez
      rcases old b hb with o | o
      · rcases List.mem_cons.mp hb2 with rfl | hb2
        · exact s2.nofp ha' k z o hb
        · obtain rfl := List.mem_singleton.mp hb2
          exact s1.nofp b5 k z o hb
      · subst o
        cases hb
theorem we_isx {cv : Addr} {b : Bool} (h0 : ρ[j]? = some (.res (excR a C dx d))) (T : XqC K C) (hk : PySem.W.kitOne K (.ref C) (.ref cv) = some b) (q : Φ (.bool b) ρ) : We (tCB (rIsX K) (tCons (tVar j) (tCons (tC (.ref cv)) tNil))) ρ Φ := fun F G0 G H σ s Q k => by
  obtain ⟨v, e, ⟨rfl, ea, y, ed, ry⟩, _⟩ := s.getR h0
  exact ⟨_, e, a, C, dx, _, .ref cv, .ref cv, b, rfl, fun u r => r, ea, ed, T, hk, k _ _ ρ G H s (Same.refl G) (.bl b) q⟩
theorem we_xv (h0 : ρ[j]? = some (.res (excR a C dx d))) (T : XqC K C) (q : Φ d ρ) : We (tXv K (tVar j)) ρ Φ := fun F G0 G H σ s Q k => by
  obtain ⟨v, e, ⟨rfl, ea, y, ed, ry⟩, _⟩ := s.getR h0
  exact ⟨_, e, a, C, dx, _, y, rfl, ea, ed, T, rfl, k _ _ ρ G H s (Same.refl G) ry q⟩
theorem we_isnX (h0 : ρ[j]? = some (.res (excR a C dx d))) (q : Φ (.bool false) ρ) : We (tOp rIsN (tVar j) (tC .non)) ρ Φ := fun F G0 G H σ s Q k => by
  obtain ⟨v, e, ⟨rfl, ea, y, ed, ry⟩, _⟩ := s.getR h0
  exact ⟨_, e, rfl, k _ _ ρ G H s (Same.refl G) (.bl false) q⟩
end
end Dv

namespace Dv
open PySem L2 PyProof.Rows PySem.Spec
/-! ### calls by names alone -/
def permL {α : Type} (n : Nat) (π : List Nat) (us ws : List α) : List α := match us with
  | [] => if ws.length = n then π.filterMap fun i => ws[i]? else []
  | _ :: _ => []
theorem permL_len {α : Type} {n m : Nat} {π : List Nat} {us ws : List α} (h : (permL n π us ws).length = m) (hm : 0 < m) : us = [] ∧ ws.length = n := by
  unfold permL at h
  cases us with
  | nil =>
    simp only at h
    by_cases e : ws.length = n
    · exact ⟨rfl, e⟩
    · rw [if_neg e] at h
      simp at h
      omega
  | cons a l =>
    simp at h
    omega
theorem filterMap_rel {α β : Type} {R : α → β → Prop} {vs : List α} {us : List β} (h : ∀ i : Nat, (vs[i]? = none ∧ us[i]? = none) ∨ ∃ a b, vs[i]? = some a ∧ us[i]? = some b ∧ R a b) : ∀ π : List Nat, Paired R (π.filterMap fun i => vs[i]?) (π.filterMap fun i => us[i]?)
  | [] => .nil
  | i :: π => by
    rw [List.filterMap_cons, List.filterMap_cons]
    rcases h i with ⟨e1, e2⟩ | ⟨a, b, e1, e2, r⟩
    · rw [e1, e2]
      exact filterMap_rel h π
    · rw [e1, e2]
      exact .cons r (filterMap_rel h π)
theorem vals_at : ∀ {vs : List V} {us : List Value}, Vals vs us → ∀ i : Nat, (vs[i]? = none ∧ us[i]? = none) ∨ ∃ a b, vs[i]? = some a ∧ us[i]? = some b ∧ L2.RelV a b
  | [], [], _, i => .inl ⟨rfl, rfl⟩
  | v :: vs, u :: us, h, 0 => by
    cases h with
    | cons r _ => exact .inr ⟨v, u, rfl, rfl, r⟩
  | v :: vs, u :: us, h, i + 1 => by
    cases h with
    | cons _ r => exact vals_at r i
theorem perm_vals {n : Nat} {π : List Nat} {vs zs : List V} {us ws : List Value} (r1 : Vals vs us) (r2 : Vals zs ws) : Vals (permL n π vs zs) (permL n π us ws) := by
  cases r1 with
  | nil =>
    unfold permL
    have hl := r2.length
    by_cases e : zs.length = n
    · simp only
      rw [if_pos e, if_pos (by omega)]
      exact filterMap_rel (vals_at r2) π
    · simp only
      rw [if_neg e, if_neg (by omega)]
      exact .nil
  | cons _ _ => exact .nil
theorem rpa_at {H : Hp} {vs : List V} {ds : List PyData} (h : RpA H vs ds) (i : Nat) : (vs[i]? = none ∧ ds[i]? = none) ∨ ∃ a b, vs[i]? = some a ∧ ds[i]? = some b ∧ Rp H a b := by
  cases q : ds[i]? with
  | none =>
    refine .inl ⟨?_, rfl⟩
    have hl := h.len
    rw [List.getElem?_eq_none_iff] at q ⊢
    omega
  | some d =>
    obtain ⟨v, e, r⟩ := h.get q
    exact .inr ⟨v, d, e, rfl, r⟩
theorem rpa_pair {H : Hp} : ∀ {vs : List V} {ds : List PyData}, Paired (Rp H) vs ds → RpA H vs ds
  | _, _, .nil => .nil
  | _, _, .cons r rr => .cons r (rpa_pair rr)
theorem perm_rpa {H : Hp} {n : Nat} {π : List Nat} {vs : List V} {ds : List PyData} (r : RpA H vs ds) : RpA H (permL n π [] vs) (permL n π [] ds) := by
  unfold permL
  have hl := r.len
  by_cases e : vs.length = n
  · simp only
    rw [if_pos e, if_pos (by omega)]
    exact rpa_pair (filterMap_rel (rpa_at r) π)
  · simp only
    rw [if_neg e, if_neg (by omega)]
    exact .nil
section
variable {cA : String → Addr} {E : XK} {tk : TA} {ρ : Rho} {Φ : PyData → Rho → Prop} {n : Nat} {π : List Nat}
theorem we_callKX {pre : List PyData → (PyData → Prop) → (String → PyData → Prop) → Prop} (h : Wa tk ρ fun ds ρ1 => pre (permL n π [] ds) (fun d => Φ d ρ1) fun _ _ => False) : We (tCallK (SpX cA pre) (permL n π) E tNil tk) ρ Φ := fun F G0 G H σ s Q k =>
  h F G0 G H σ s _ fun vs ds ρ1 G1 H1 s1 g1 r1 p => ⟨G1, _, _, _, s1.gh, perm_rpa r1, p, fun v d G' H' gr r q => k v d ρ1 G' H' (s1.grow gr) (g1.trans gr.g) r q, .never⟩
theorem we_callK {pre : List PyData → (PyData → Prop) → Prop} (h : Wa tk ρ fun ds ρ1 => pre (permL n π [] ds) fun d => Φ d ρ1) : We (tCallK (SpD pre) (permL n π) E tNil tk) ρ Φ := fun F G0 G H σ s Q k =>
  h F G0 G H σ s _ fun vs ds ρ1 G1 H1 s1 g1 r1 p => ⟨G1, _, _, s1.gh, perm_rpa r1, p, fun v d G' H' gr r q => k v d ρ1 G' H' (s1.grow gr) (g1.trans gr.g) r q⟩
end
end Dv

namespace Dv
open PySem L2 PyProof.Rows PySem.Spec
section
variable {φ : PyData → Prop} {i j : Int}
theorem op2_mulL (h1 : -18446744073709551616 < i) (h2 : i < 18446744073709551616) (q : φ (.int (i * j))) : Op2 rMulU (.int i) (.int j) φ := op2_mulI (Or.inl ⟨h1, h2⟩) q
theorem op2_mulR (h1 : -18446744073709551616 < j) (h2 : j < 18446744073709551616) (q : φ (.int (i * j))) : Op2 rMulU (.int i) (.int j) φ := op2_mulI (Or.inr ⟨h1, h2⟩) q
end
theorem q_setJ {F G0 : Hp} {te ti : TE} {i : Nat} {ρ : Rho} {nx bk ct : Rho → Prop} {rt : PyData → Rho → Prop} (h : We te ρ fun d ρ1 => ∃ p ds1, ρ1[i]? = some (.res (lst p ds1)) ∧ We ti ρ1 fun k ρ2 => ∃ ds n j, ρ2[i]? = some (.res (lst p ds)) ∧ k = .int n ∧ ixN ds.length n = some j ∧ nx (ρ2.set i (.res (lst p (ds.set j d))))) :
    Ws F G0 (tAsg te (gSub (tVar i) ti rSetL)) ρ ⟨nx, rt, bk, ct⟩ := fun G H σ s D q1 q2 q3 q4 =>
  h F G0 G H σ s _ fun u d ρ1 G1 H1 s1 g1 r1 ⟨p, ds1, k1, hi⟩ => by
    obtain ⟨v1, e1, ⟨rfl, xs1, _, hp1, _, _⟩, _⟩ := s1.getR k1
    refine ⟨_, e1, hi F G0 G1 H1 σ s1 _ fun w k ρ2 G2 H2 s2 g2 r2 ⟨ds, n, j, k2, e2, ej, q⟩ => ?_⟩
    subst e2
    cases r2
    obtain ⟨v2, e2, ⟨_, xs, _, hp, ra, rfl⟩, _⟩ := s2.getR k2
    exact ⟨p, xs, n, j, rfl, rfl, hp, by rw [ra.len]; exact ej, q1 _ _ G2 _ (s2.upd k2 (P' := fun x => x = List.set _ j d) (ra.set (r1.mono g2) j) rfl) (g1.trans g2) q⟩
theorem FnG.no {P : Program} {w : World} {K : PySem.W.Frag} {mg : Str → Option Value} {base : Heap} {cx : CXT} {k : Nat} {f : Addr} {fd : FuncData} {ps : List Str} {pre : List PyData → (PyData → Prop) → Prop} (h : ∀ ds φ, pre ds φ → False) : FnG P w K mg base cx k f fd ps (SpD pre) where
  len := fun vs H Q E ⟨G, ds, φ, s, r, p, k⟩ => (h ds φ p).elim
  run := fun A outer s H args us vs Q E hr hg e0 hb rv ⟨G, ds, φ, _, r, p, k⟩ => (h ds φ p).elim
theorem dep_mem {d : PyData} : ∀ {ds : List PyData}, d ∈ ds → d.depth ≤ PyData.depthAll ds
  | e :: ds, h => by
    simp only [PyData.depthAll]
    rcases List.mem_cons.mp h with rfl | h
    · exact Nat.le_max_left _ _
    · exact Nat.le_trans (dep_mem h) (Nat.le_max_right _ _)
theorem lay_mem {d : PyData} : ∀ {ds : List PyData}, PyData.canLayAll0 ds = true → d ∈ ds → d.canLay0 = true
  | e :: ds, k, h => by
    simp only [PyData.canLayAll0, Bool.and_eq_true] at k
    rcases List.mem_cons.mp h with rfl | h
    · exact k.1
    · exact lay_mem k.2 h
theorem nod_mem {d : PyData} : ∀ {ds : List PyData}, PyData.hasDictAll ds = false → d ∈ ds → d.hasDict = false
  | e :: ds, k, h => by
    simp only [PyData.hasDictAll, Bool.or_eq_false_iff] at k
    rcases List.mem_cons.mp h with rfl | h
    · exact k.1
    · exact nod_mem k.2 h
theorem OkdN.of_list {n : Nat} {xs : List PyData} (h : OkdN n (.list xs)) : ∃ k, n = k + 1 ∧ ∀ x ∈ xs, OkdN k x := by
  have h3 : PyData.depthAll xs + 1 ≤ n := h.dp
  exact ⟨n - 1, by omega, fun x hx => ⟨nod_mem h.nd hx, lay_mem h.lay hx, by have := dep_mem hx; omega⟩⟩
theorem OkdN.of_tuple {n : Nat} {xs : List PyData} (h : OkdN n (.tuple xs)) : ∃ k, n = k + 1 ∧ ∀ x ∈ xs, OkdN k x := by
  have h3 : PyData.depthAll xs + 1 ≤ n := h.dp
  exact ⟨n - 1, by omega, fun x hx => ⟨nod_mem h.nd hx, lay_mem h.lay hx, by have := dep_mem hx; omega⟩⟩
theorem slotL {ρ : Rho} {i : Nat} {p : Addr} {ds : List PyData} {φ : Addr → List PyData → Prop} (h0 : ρ[i]? = some (.res (lst p ds))) (h : φ p ds) : ∃ p ds1, ρ[i]? = some (.res (lst p ds1)) ∧ φ p ds1 := ⟨p, ds, h0, h⟩
theorem pairL {α : Type} {a b : α} {φ : α → α → Prop} (h : φ a b) : ∃ x y, [a, b] = [x, y] ∧ φ x y := ⟨a, b, rfl, h⟩
theorem opf2_B0 {g : Int → Int → Bool} {i j : Int} {φ : PyData → Prop} (q : φ (.bool (g i j))) : OpF2 (rI0 fun i j => .bl (g i j)) (.int i) (.int j) φ := fun G H v u s r1 r2 Q k => by
  cases r1
  cases r2
  exact ⟨i, j, rfl, rfl, k _ _ (fun _ => .bl _) q⟩
theorem len_ok {n : Nat} {P : Prop} (h : n ≤ 100000) (q : P) : n ≤ 100000 ∧ P := ⟨h, q⟩
/-- the body of a def that looks into its purse -/
theorem fn_zL {P : Nat → List PyData → Prop} {pre : Nat → List PyData → (Nat → PyData → Prop) → Prop} {t : TS} {N : List Str} {n : Nat} (hn : n + 1 ≤ N.length) (hl : ∀ m ds φ, pre m ds φ → ds.length = n)
    (h : ∀ F G0 p m xs ds φ, pre m ds φ → P m xs → Ws F G0 t (slotsZ N.length (lst p xs) ds) { nx := fun ρ' => ∃ m' xs', ρ'[0]? = some (.res (lst p xs')) ∧ P m' xs' ∧ φ m' .none, rt := fun d ρ' => ∃ m' xs', ρ'[0]? = some (.res (lst p xs')) ∧ P m' xs' ∧ φ m' d })
    {vs : List V} {H : Hp} {Q : VK} {E : XK} (hs : SpZ P pre vs H Q E) : t { nx := fun _ H' => Q .non H', rt := Q } (L2.start N vs) H := by
  obtain ⟨G, p, ws, ds, m, φ, e, hok, hG, s, r, hp, k⟩ := hs
  subst e
  have hv : ws.length + 1 ≤ N.length := by rw [r.len, hl m ds φ hp]; exact hn
  obtain ⟨_, xs, es, hx, rx, hP⟩ := hok
  have st : Sta (delH H p) G G H (L2.start N (.ref p :: ws)) (slotsZ N.length (lst p es) ds) := by
    refine ⟨fun a o e => ?_, s, Same.refl G, fun a o e _ => e, ?_, fun i x e => ?_, fun i j x y hij e1 e2 a ha hb => ?_⟩
    · by_cases hap : a = p
      · rw [hap, delH_same] at e
        cases e
      · rw [delH_ne hap] at e
        exact e
    · unfold L2.start slotsZ slots0
      have := r.len
      simp
      omega
    · cases i with
      | zero =>
        simp only [slotsZ, List.getElem?_cons_zero, Option.some.injEq] at e
        subst e
        refine ⟨.ref p, rfl, ⟨rfl, xs, es, hx, rx, rfl⟩, fun a ha => ?_⟩
        have e' : a = p := by simpa [lst, lstP] using ha
        subst e'
        exact ⟨delH_same, hG, by rw [hx]; simp⟩
      | succ i =>
        simp only [slotsZ, List.getElem?_cons_succ] at e
        rcases slots0_get e with ⟨d, rfl, h⟩ | rfl
        · obtain ⟨v, e1, e2⟩ := r.get h
          exact ⟨v, by rw [start_get (show (V.ref p :: ws)[i + 1]? = some v by simpa using e1)]; rfl, e2⟩
        · trivial
    · cases j with
      | zero => omega
      | succ j =>
        simp only [slotsZ, List.getElem?_cons_succ] at e2
        rcases slots0_get e2 with ⟨d, rfl, h⟩ | rfl
        · cases hb
        · cases hb
  have fin : ∀ (v : V) (d : PyData) (σ' : L2.St) (ρ' : Rho) (G' H' : Hp), Sta (delH H p) G G' H' σ' ρ' → Same G G' → Rp G' v d → (∃ m' xs', ρ'[0]? = some (.res (lst p xs')) ∧ P m' xs' ∧ φ m' d) → Q v H' := fun v d σ' ρ' G' H' s' g r' ⟨m', xs', e, hP', q⟩ => by
    obtain ⟨v0, e0, ⟨hv0, ys, fs, hy, ry, efs⟩, hfp⟩ := s'.getR e
    subst efs
    have nG := (hfp p List.mem_cons_self).2.1
    refine k v d m' G' H' ⟨g, fun a o ha e => s'.fh a o (by rw [delH_ne ha]; exact e), s'.gh, fun a o e n => ?_⟩ ⟨rfl, ys, fs, hy, ry, hP'⟩ r' q
    refine s'.new a o e ?_
    rw [delH_ne (fun z => by rw [z, nG] at e; cases e)]
    exact n
  exact h _ G p m es ds φ hp hP G H _ st _ (fun σ' ρ' G' H' s' g q => fin .non .none σ' ρ' G' H' s' g .non q) (fun v d σ' ρ' G' H' s' g r' q => fin v d σ' ρ' G' H' s' g r' q) (fun _ _ _ _ _ _ q => q.elim) (fun _ _ _ _ _ _ q => q.elim)
/-- a new list with what is so of it alone -/
theorem q_setP {F G0 : Hp} {te : TE} {i : Nat} {ρ : Rho} {nx bk ct : Rho → Prop} {rt : PyData → Rho → Prop} (P : List PyData → Prop) (h : Wn te ρ fun ds ρ1 => P ds ∧ ∀ p, nx (ρ1.set i (.res (lstP p P)))) : Ws F G0 (tAsg te (gName i)) ρ ⟨nx, rt, bk, ct⟩ := fun G H σ s D q1 q2 q3 q4 =>
  h F G0 G H σ s _ fun p xs ds ρ1 G1 H1 s1 g1 hp r1 hF hG hn ⟨hP, q⟩ => q1 _ _ G1 H1 (s1.setR (v := .ref p) (r := lstP p P) ⟨rfl, xs, ds, hp, r1, hP⟩ (fun a ha => by
      have e : a = p := by simpa [lstP] using ha
      subst e
      exact ⟨hF, hG, by rw [hp]; simp⟩) (fun j x _ e a ha hb => by
      have e' : a = p := by simpa [lstP] using hb
      subst e'
      exact hn j x e ha)) g1 (q p)
end Dv

namespace Dv
open PySem L2 PyProof.Rows PySem.Spec
/-! ### a list of lists of ours -/
theorem RpA.of_get {H : Hp} : ∀ {vs : List V} {ds : List PyData}, vs.length = ds.length → (∀ (k : Nat) (v : V) (d : PyData), vs[k]? = some v → ds[k]? = some d → Rp H v d) → RpA H vs ds
  | [], [], _, _ => .nil
  | v :: vs, d :: ds, hl, h => .cons (h 0 v d rfl rfl) (RpA.of_get (by simpa using hl) fun k x y e1 e2 => h (k + 1) x y (by simpa using e1) (by simpa using e2))
  | [], _ :: _, hl, _ => by simp at hl
  | _ :: _, [], hl, _ => by simp at hl
def nest (p : Addr) (qs : List Addr) (dss : List (List PyData)) : Res where
  fp := p :: qs
  ok := fun G H v => v = .ref p ∧ H p = some (.lst (qs.map V.ref)) ∧ qs.length = dss.length ∧ qs.Nodup ∧ p ∉ qs ∧ ∀ (k : Nat) (q : Addr) (ds : List PyData), qs[k]? = some q → dss[k]? = some ds → ∃ xs, H q = some (.lst xs) ∧ RpA G xs ds
  mono := by
    rintro G H G' H' v ⟨e, h1, h2, h3, h4, h5⟩ g k
    refine ⟨e, (k p List.mem_cons_self).trans h1, h2, h3, h4, fun i q ds e1 e2 => ?_⟩
    obtain ⟨xs, a, b⟩ := h5 i q ds e1 e2
    exact ⟨xs, (k q (List.mem_cons_of_mem _ (List.mem_of_getElem? e1))).trans a, b.mono g⟩
def ptrR (q : Addr) : Res where
  fp := []
  ok := fun _ _ v => v = .ref q
  mono := fun h _ _ => h
section
variable {F G0 G H : Hp} {σ : L2.St} {ρ : Rho} {i : Nat} {p : Addr} {qs : List Addr} {dss : List (List PyData)}
/-- a look at it as data -/
theorem Sta.see (s : Sta F G0 G H σ ρ) (h : ρ[i]? = some (.res (nest p qs dss))) : ∃ G', Same G G' ∧ Same G' H ∧ (∀ a o, G' a = some o → G a = some o ∨ a ∈ p :: qs) ∧ σ[i]? = some (some (.ref p)) ∧ H p = some (.lst (qs.map V.ref)) ∧ qs.length = dss.length ∧ Rp G' (.ref p) (.list (dss.map .list)) ∧
    ∀ (k : Nat) (q : Addr) (ds : List PyData), qs[k]? = some q → dss[k]? = some ds → Rp G' (.ref q) (.list ds) ∧ ∃ xs, H q = some (.lst xs) ∧ RpA G xs ds := by
  obtain ⟨v, e, ⟨rfl, h1, h2, h3, h4, h5⟩, hfp⟩ := s.getR h
  have hfp' : ∀ a ∈ p :: qs, F a = none ∧ G a = none ∧ H a ≠ none := hfp
  have sG : Same G (fun a => if a ∈ p :: qs then H a else G a) := fun a o ea => by
    show (if a ∈ p :: qs then H a else G a) = some o
    split
    · rename_i hm
      rw [(hfp' a hm).2.1] at ea
      cases ea
    · exact ea
  have inner : ∀ (k : Nat) (q : Addr) (ds : List PyData), qs[k]? = some q → dss[k]? = some ds → Rp (fun a => if a ∈ p :: qs then H a else G a) (.ref q) (.list ds) ∧ ∃ xs, H q = some (.lst xs) ∧ RpA G xs ds := fun k q ds e1 e2 => by
    obtain ⟨xs, a, b⟩ := h5 k q ds e1 e2
    have hm : q ∈ p :: qs := List.mem_cons_of_mem _ (List.mem_of_getElem? e1)
    exact ⟨.lst (show (if q ∈ p :: qs then H q else G q) = _ by rw [if_pos hm]; exact a) (b.mono sG), xs, a, b⟩
  refine ⟨fun a => if a ∈ p :: qs then H a else G a, sG, fun a o ea => ?_, fun a o ea => ?_, e, h1, h2, .lst (show (if p ∈ p :: qs then H p else G p) = _ by rw [if_pos List.mem_cons_self]; exact h1) (RpA.of_get (by simpa using h2) fun k v d e1 e2 => ?_), inner⟩
  · have ea' : (if a ∈ p :: qs then H a else G a) = some o := ea
    split at ea'
    · exact ea'
    · exact s.gh a o ea'
  · have ea' : (if a ∈ p :: qs then H a else G a) = some o := ea
    split at ea'
    · rename_i hm
      exact .inr hm
    · exact .inl ea'
  · rw [List.getElem?_map] at e1 e2
    cases q1 : qs[k]? with
    | none => rw [q1] at e1; cases e1
    | some q =>
      cases q2 : dss[k]? with
      | none => rw [q2] at e2; cases e2
      | some ds =>
        rw [q1] at e1
        rw [q2] at e2
        cases e1
        cases e2
        exact (inner k q ds q1 q2).1
theorem Sta.forget (s : Sta F G0 G H σ ρ) (j : Nat) : Sta F G0 G H σ (ρ.set j .any) := by
  by_cases hj : j < σ.length
  · have z := s.setN (i := j) (x := σ[j])
    rw [List.set_getElem_self] at z
    exact z
  · rw [List.set_eq_of_length_le (by rw [← s.len]; omega)]
    exact s
/-- the whole becomes data -/
theorem Sta.thaw (s : Sta F G0 G H σ ρ) (h : ρ[i]? = some (.res (nest p qs dss))) : ∃ G', Same G G' ∧ Rp G' (.ref p) (.list (dss.map .list)) ∧ σ[i]? = some (some (.ref p)) ∧ Sta F G0 G' H σ (ρ.set i (.val (.list (dss.map .list)))) := by
  obtain ⟨G', g1, g2, g3, e, _, _, rp, _⟩ := s.see h
  obtain ⟨v, e', _, hfp⟩ := s.getR h
  have hfp' : ∀ a ∈ p :: qs, F a = none ∧ G a = none ∧ H a ≠ none := hfp
  have hi : i < ρ.length := (List.getElem?_eq_some_iff.mp h).1
  have s1 : Sta F G0 G' H σ (ρ.set i .any) := by
    have z := s.forget i
    refine ⟨z.fh, g2, z.g0.trans g1, fun a o ea na => ?_, z.len, fun j x ej => ?_, z.apart⟩
    · rcases g3 a o ea with q | q
      · exact z.new a o q na
      · exact absurd (hfp' a q).1 na
    · have q := z.slot j x ej
      cases x with
      | any => trivial
      | val d =>
        obtain ⟨u, a, b⟩ := q
        exact ⟨u, a, b.mono g1⟩
      | res r =>
        obtain ⟨u, a, b, c⟩ := q
        refine ⟨u, a, r.mono b g1 fun _ _ => rfl, fun x hx => ⟨(c x hx).1, ?_, (c x hx).2.2⟩⟩
        have hji : i ≠ j := fun z => by
          subst z
          rw [List.getElem?_set_self hi] at ej
          cases ej
        rw [List.getElem?_set_ne hji] at ej
        cases y : G' x with
        | none => rfl
        | some o =>
          rcases g3 x o y with q | q
          · rw [(c x hx).2.1] at q
            cases q
          · rcases Nat.lt_or_ge i j with hl | hl
            · exact absurd hx (s.apart i j _ _ hl h ej x q)
            · exact absurd q (s.apart j i _ _ (by omega) ej h x hx)
  have s2 := s1.setV (i := i) rp
  rw [List.set_set] at s2
  have eσ : σ.set i (some (.ref p)) = σ := by
    have hl : i < σ.length := by rw [s.len]; exact hi
    have e2 := e
    rw [List.getElem?_eq_getElem hl] at e2
    rw [← Option.some.inj e2]
    exact List.set_getElem_self hl
  rw [eσ] at s2
  exact ⟨G', g1, rp, e, s2⟩
end
section
variable {te ta tb ti : TE} {tas : TA} {ρ : Rho} {Φ : PyData → Rho → Prop} {K : PySem.W.Frag} {i j k : Nat} {p q : Addr} {qs : List Addr} {dss dss0 : List (List PyData)} {r : R2} {F G0 : Hp} {nx bk ct : Rho → Prop} {rt : PyData → Rho → Prop}
theorem we_forget (j : Nat) (h : We te (ρ.set j .any) Φ) : We te ρ Φ := fun F G0 G H σ s Q k => h F G0 G H σ (s.forget j) Q k
theorem q_forget {ts : TS} {Ψ : Outs} (j : Nat) (h : Ws F G0 ts (ρ.set j .any) Ψ) : Ws F G0 ts ρ Ψ := fun G H σ s => h G H σ (s.forget j)
theorem we_varN (h : ρ[i]? = some (.res (nest p qs dss))) (q : Φ (.list (dss.map .list)) (ρ.set i (.val (.list (dss.map .list))))) : We (tVar i) ρ Φ := fun F G0 G H σ s Q k => by
  obtain ⟨G', g, rp, e, s'⟩ := s.thaw h
  exact ⟨_, e, k _ _ _ G' H s' g rp q⟩
theorem we_opRN (h : ρ[i]? = some (.res (nest p qs dss0))) (q : We tb ρ fun y ρ1 => ∃ dss, ρ1[i]? = some (.res (nest p qs dss)) ∧ OpF2 r (.list (dss.map .list)) y fun z => Φ z ρ1) : We (tOp r (tVar i) tb) ρ Φ := fun F G0 G H σ s Q k => by
  obtain ⟨_, _, _, _, e, _⟩ := s.see h
  refine ⟨_, e, q F G0 G H σ s _ fun u y ρ1 G1 H1 s1 g1 r1 ⟨dss, h1, op⟩ => ?_⟩
  obtain ⟨G', a, b, _, _, _, _, rp, _⟩ := s1.see h1
  exact op G' H1 _ _ b rp (r1.mono a) Q fun w z hw pz => k w z ρ1 G1 H1 s1 g1 (hw G1) pz
theorem we_opRNI {n : Int} (h : ρ[i]? = some (.res (nest p qs dss0))) (hn : ixN dss0.length n = some k) (q : We tb ρ fun y ρ1 => ∃ dss ds, ρ1[i]? = some (.res (nest p qs dss)) ∧ dss[k]? = some ds ∧ OpF2 r (.list ds) y fun z => Φ z ρ1) : We (tOp r (tOp (rIx K) (tVar i) (tC (.int n))) tb) ρ Φ := fun F G0 G H σ s Q kk => by
  obtain ⟨_, _, _, _, e, hp, hl, _⟩ := s.see h
  have hk : k < qs.length := by
    rw [hl]
    exact (ixN_seq hn).2.1 |> fun z => z
  refine ⟨_, e, .inl ⟨p, qs.map V.ref, n, .ref qs[k], rfl, rfl, .inl (.inl hp), ?_, q F G0 G H σ s _ fun u y ρ1 G1 H1 s1 g1 r1 ⟨dss, ds, h1, h2, op⟩ => ?_⟩⟩
  · unfold atI
    rw [List.length_map, hl, hn]
    show (qs.map V.ref)[k]? = _
    rw [List.getElem?_map, List.getElem?_eq_getElem hk]
    rfl
  · obtain ⟨G', a, b, _, _, _, _, _, inn⟩ := s1.see h1
    exact op G' H1 _ _ b (inn k _ ds (List.getElem?_eq_getElem hk) h2).1 (r1.mono a) Q fun w z hw pz => kk w z ρ1 G1 H1 s1 g1 (hw G1) pz
/-- x = rows[e] -/
theorem q_ptr (h : ρ[i]? = some (.res (nest p qs dss0))) (q : We te ρ fun y ρ1 => ∃ dss n k, ρ1[i]? = some (.res (nest p qs dss)) ∧ y = .int n ∧ ixN dss.length n = some k ∧ ∀ q, qs[k]? = some q → nx (ρ1.set j (.res (ptrR q)))) : Ws F G0 (tAsg (tOp (rIx K) (tVar i) te) (gName j)) ρ ⟨nx, rt, bk, ct⟩ := fun G H σ s D q1 q2 q3 q4 => by
  obtain ⟨_, _, _, _, e, hp, hl, _⟩ := s.see h
  refine ⟨_, e, q F G0 G H σ s _ fun u y ρ1 G1 H1 s1 g1 r1 ⟨dss, n, k, h1, ey, en, cont⟩ => ?_⟩
  subst ey
  cases r1
  obtain ⟨_, _, _, _, e1, hp1, hl1, _⟩ := s1.see h1
  have hk : k < qs.length := by
    rw [hl1]
    exact (ixN_seq en).2.1
  refine .inl ⟨p, qs.map V.ref, n, .ref qs[k], rfl, rfl, .inl (.inl hp1), ?_, ?_⟩
  · unfold atI
    rw [List.length_map, hl1, en]
    show (qs.map V.ref)[k]? = _
    rw [List.getElem?_map, List.getElem?_eq_getElem hk]
    rfl
  · exact q1 _ _ G1 H1 (s1.setR (v := .ref qs[k]) (r := ptrR qs[k]) rfl (fun a ha => nomatch ha) (fun _ _ _ _ a _ hb => nomatch hb)) g1 (cont _ (List.getElem?_eq_getElem hk))
theorem we_lenP {ds : List PyData} (hj : ρ[j]? = some (.res (ptrR q))) (hi : ρ[i]? = some (.res (nest p qs dss))) (hq : qs[k]? = some q) (hd : dss[k]? = some ds) (h : Φ (.int ds.length) ρ) : We (tCB (rLen K) (tCons (tVar j) tNil)) ρ Φ := fun F G0 G H σ s Q kk => by
  obtain ⟨v, e, ev, _⟩ := s.getR hj
  have ev' : v = .ref q := ev
  subst ev'
  obtain ⟨G', a, b, _, _, _, _, _, inn⟩ := s.see hi
  obtain ⟨_, xs, hx, rx⟩ := inn k q ds hq hd
  exact ⟨_, e, .ref q, ds.length, rfl, .inl ⟨xs, .inl (.inl hx), rx.len.symm⟩, kk _ _ ρ G H s (Same.refl G) (.int _) h⟩
theorem we_ixP (hj : ρ[j]? = some (.res (ptrR q))) (h : We tb ρ fun y ρ1 => ∃ dss ds n d, ρ1[i]? = some (.res (nest p qs dss)) ∧ qs[k]? = some q ∧ dss[k]? = some ds ∧ y = .int n ∧ atI ds n = some d ∧ Φ d ρ1) : We (tOp (rIx K) (tVar j) tb) ρ Φ := fun F G0 G H σ s Q kk => by
  obtain ⟨v, e, ev, _⟩ := s.getR hj
  have ev' : v = .ref q := ev
  subst ev'
  refine ⟨_, e, h F G0 G H σ s _ fun u y ρ1 G1 H1 s1 g1 r1 ⟨dss, ds, n, d, hi, hq, hd, ey, ed, c⟩ => ?_⟩
  subst ey
  cases r1
  obtain ⟨G', a, b, _, _, _, _, _, inn⟩ := s1.see hi
  obtain ⟨_, xs, hx, rx⟩ := inn k q ds hq hd
  obtain ⟨w, e1, e2⟩ := rx.atI ed
  exact .inl ⟨q, xs, n, w, rfl, rfl, .inl (.inl hx), e1, kk w d ρ1 G1 H1 s1 g1 e2 c⟩
end
end Dv

namespace Dv
open PySem L2 PyProof.Rows PySem.Spec
theorem nodup_at {α : Type} {l : List α} (h : l.Nodup) {i j : Nat} {a : α} (e1 : l[i]? = some a) (e2 : l[j]? = some a) : i = j := by
  obtain ⟨h1, h2⟩ := List.getElem?_eq_some_iff.mp e1
  obtain ⟨h3, h4⟩ := List.getElem?_eq_some_iff.mp e2
  exact (List.getElem_inj h).mp (h2.trans h4.symm)
section
variable {F G0 G H : Hp} {σ : L2.St} {ρ : Rho} {i k : Nat} {p q : Addr} {qs : List Addr} {dss : List (List PyData)}
theorem Sta.updN (s : Sta F G0 G H σ ρ) (h0 : ρ[i]? = some (.res (nest p qs dss))) (hq : qs[k]? = some q) {xs : List V} {ds : List PyData} (r : RpA G xs ds) : Sta F G0 G (L2.upd H q (.lst xs)) σ (ρ.set i (.res (nest p qs (dss.set k ds)))) := by
  obtain ⟨v, e1, ⟨hv, h1, h2, h3, h4, h5⟩, hfp⟩ := s.getR h0
  have hin : q ∈ (nest p qs dss).fp := List.mem_cons_of_mem _ (List.mem_of_getElem? hq)
  obtain ⟨nF, nG, nH⟩ := hfp q hin
  have hi : i < ρ.length := (List.getElem?_eq_some_iff.mp h0).1
  have pq : p ≠ q := fun z => h4 (by rw [z]; exact List.mem_of_getElem? hq)
  refine ⟨fun a o e => ?_, fun a o e => ?_, s.g0, s.new, by rw [List.length_set, s.len], fun j x e => ?_, fun j l x y hjl ej el a ha hb => ?_⟩
  · rw [upd_ne fun z => by rw [z, nF] at e; cases e]
    exact s.fh a o e
  · rw [upd_ne fun z => by rw [z, nG] at e; cases e]
    exact s.gh a o e
  · by_cases hj : i = j
    · subst hj
      rw [List.getElem?_set_self hi] at e
      cases e
      refine ⟨v, by rw [e1]; rfl, ⟨hv, by rw [upd_ne pq]; exact h1, by rw [List.length_set]; exact h2, h3, h4, fun l q' ds' a1 a2 => ?_⟩, fun a ha => ?_⟩
      · by_cases hl : k = l
        · subst hl
          rw [hq] at a1
          cases a1
          have hk : k < dss.length := by
            have := (List.getElem?_eq_some_iff.mp hq).1
            omega
          rw [List.getElem?_set_self hk] at a2
          cases a2
          exact ⟨xs, upd_same, r⟩
        · rw [List.getElem?_set_ne hl] at a2
          obtain ⟨ys, b1, b2⟩ := h5 l q' ds' a1 a2
          exact ⟨ys, by rw [upd_ne fun z => hl (nodup_at h3 hq (by rw [← z]; exact a1))]; exact b1, b2⟩
      · obtain ⟨c1, c2, c3⟩ := hfp a ha
        refine ⟨c1, c2, ?_⟩
        by_cases haq : a = q
        · rw [haq, upd_same]
          simp
        · rw [upd_ne haq]
          exact c3
    · rw [List.getElem?_set_ne hj] at e
      have z := s.slot j x e
      cases x with
      | any => trivial
      | val d => exact z
      | res r' =>
        obtain ⟨v', e', kk, n'⟩ := z
        have hne : ∀ a ∈ r'.fp, a ≠ q := fun a ha z => by
          rcases Nat.lt_or_ge i j with hl | hl
          · exact s.apart i j _ _ hl h0 e q hin (by rw [← z]; exact ha)
          · exact s.apart j i _ _ (by omega) e h0 a ha (by rw [z]; exact hin)
        refine ⟨v', e', r'.mono kk (Same.refl G) fun a ha => upd_ne (hne a ha), fun a ha => ⟨(n' a ha).1, (n' a ha).2.1, ?_⟩⟩
        rw [upd_ne (hne a ha)]
        exact (n' a ha).2.2
  · by_cases hj : i = j
    · subst hj
      rw [List.getElem?_set_self hi] at ej
      cases ej
      rw [List.getElem?_set_ne (by omega)] at el
      exact s.apart i l _ y hjl h0 el a ha hb
    · rw [List.getElem?_set_ne hj] at ej
      by_cases hl : i = l
      · subst hl
        rw [List.getElem?_set_self hi] at el
        cases el
        exact s.apart j i x _ hjl ej h0 a ha hb
      · rw [List.getElem?_set_ne hl] at el
        exact s.apart j l x y hjl ej el a ha hb
end
section
variable {te ti : TE} {ρ : Rho} {K : PySem.W.Frag} {i j k c r : Nat} {p q : Addr} {qs : List Addr} {dss : List (List PyData)} {F G0 : Hp} {nx bk ct : Rho → Prop} {rt : PyData → Rho → Prop}
/-- row[e] = d, row one of ours -/
theorem q_setQ (h : We te ρ fun d ρ1 => ρ1[j]? = some (.res (ptrR q)) ∧ We ti ρ1 fun kk ρ2 => ∃ dss ds n l, ρ2[i]? = some (.res (nest p qs dss)) ∧ qs[k]? = some q ∧ dss[k]? = some ds ∧ kk = .int n ∧ ixN ds.length n = some l ∧ nx (ρ2.set i (.res (nest p qs (dss.set k (ds.set l d)))))) :
    Ws F G0 (tAsg te (gSub (tVar j) ti rSetL)) ρ ⟨nx, rt, bk, ct⟩ := fun G H σ s D q1 q2 q3 q4 =>
  h F G0 G H σ s _ fun u d ρ1 G1 H1 s1 g1 r1 ⟨hj, hi⟩ => by
    obtain ⟨v, e, ev, _⟩ := s1.getR hj
    have ev' : v = .ref q := ev
    subst ev'
    refine ⟨_, e, hi F G0 G1 H1 σ s1 _ fun w kk ρ2 G2 H2 s2 g2 r2 ⟨dss, ds, n, l, h2, hq, hd, ek, el, cont⟩ => ?_⟩
    subst ek
    cases r2
    obtain ⟨G', a, b, _, _, _, _, _, inn⟩ := s2.see h2
    obtain ⟨_, xs, hx, rx⟩ := inn k q ds hq hd
    exact ⟨q, xs, n, l, rfl, rfl, hx, by rw [rx.len]; exact el, q1 _ _ G2 _ (s2.updN h2 hq (rx.set (r1.mono g2) l)) (g1.trans g2) cont⟩
theorem wipe_eq_set {σ : L2.St} {vs : List Nat} {r : Nat} {x : Option V} (hr : r ∈ vs) : L2.wipe ((L2.wipe σ vs).set r x) vs = L2.wipe σ vs := by
  exact (wipe_eq (by rw [List.length_set]) fun k hk => List.getElem?_set_ne fun z => hk (by rw [← z]; exact hr)).trans wipe_wipe
theorem we_lenN {Φ : PyData → Rho → Prop} (hi : ρ[i]? = some (.res (nest p qs dss))) (h : Φ (.int dss.length) ρ) : We (tCB (rLen K) (tCons (tVar i) tNil)) ρ Φ := fun F G0 G H σ s Q kk => by
  obtain ⟨G', a, b, _, e, hp, hl, _⟩ := s.see hi
  exact ⟨_, e, .ref p, dss.length, rfl, .inl ⟨qs.map V.ref, .inl (.inl hp), by rw [List.length_map, hl]⟩, kk _ _ ρ G H s (Same.refl G) (.int _) h⟩
theorem ixN_nat {n r : Nat} (h : r < n) : ixN n (r : Int) = some r := by
  unfold ixN
  rw [if_pos (by omega), if_pos (by omega), Int.toNat_natCast]
theorem sig_rpa {G : Hp} (z : Str) : RpA G (z.cps.toList.map fun c => V.str ⟨#[c]⟩) (signs z) := RpA.of_map (fun c => .str _) _
/-- rows = [list(row) for row in texts] -/
theorem q_setNest {vs : List Nat} {zs : List Str} (hr : r ∈ vs) (hc : ρ[c]? = some (.val (.list (zs.map .str)))) (hlen : zs.length < 100000) (hz : ∀ z ∈ zs, z.length ≤ 100000) (hm : mergeR ρ (wipeR ρ vs) vs = ρ) (hrl : r < ρ.length)
    (h : ∀ p qs, qs.length = zs.length → nx (ρ.set i (.res (nest p qs (zs.map signs))))) :
    Ws F G0 (tAsg (tLc (iList K (tVar c)) (gName r) tYes (tCB (rLstU K) (tCons (tVar r) tNil)) vs) (gName i)) ρ ⟨nx, rt, bk, ct⟩ := fun G H σ s D q1 q2 q3 q4 => by
  unfold tAsg tLc
  refine (wi_list (we_var hc ⟨_, rfl, (⟨rfl, rfl⟩ : (zs.map PyData.str) = zs.map PyData.str ∧ ρ = ρ)⟩) : Wi (iList K (tVar c)) ρ fun ds ρ1 => ds = zs.map PyData.str ∧ ρ1 = ρ) F G0 G H σ s _ fun J ds ρ1 G1 H1 s1 g1 wk ⟨eds, eρ⟩ => ?_
  subst eds
  subst eρ
  intro D' nD
  have nF : F D' = none := none_of s1.fh nD
  have st0 : Sta F G0 G1 (L2.upd H1 D' (.lst [])) (L2.wipe σ vs) (wipeR ρ1 vs) := (s1.laid nD).wipe vs
  have fp0 : ∀ (j : Nat) (x : Slot), (wipeR ρ1 vs)[j]? = some x → D' ∉ x.fp := fun j x e => by
    rcases wipeR_get e with e | rfl
    · exact s1.nofp nD j x e
    · intro z
      cases z
  refine ⟨fun t m H' => m = zs.length - t ∧ t ≤ zs.length ∧ ∃ G' qs, Sta F G0 G' H' (L2.wipe σ vs) (wipeR ρ1 vs) ∧ Same G1 G' ∧ H' D' = some (.lst (qs.map V.ref)) ∧ G' D' = none ∧ qs.length = t ∧ qs.Nodup ∧ D' ∉ qs ∧
      (∀ a ∈ D' :: qs, F a = none ∧ G' a = none ∧ H' a ≠ none ∧ ∀ (j : Nat) (x : Slot), (wipeR ρ1 vs)[j]? = some x → a ∉ x.fp) ∧ ∀ (k : Nat) (q : Addr) (z : Str), qs[k]? = some q → zs[k]? = some z → H' q = some (.lst (z.cps.toList.map fun c => V.str ⟨#[c]⟩)),
    ⟨zs.length, by omega, Nat.zero_le _, G1, [], st0, Same.refl G1, upd_same, none_of s1.gh nD, rfl, List.nodup_nil, by simp, fun a ha => ?_, fun k q z e => by simp at e⟩, ?_⟩
  · obtain rfl := List.mem_singleton.mp ha
    exact ⟨nF, none_of s1.gh nD, by rw [upd_same]; simp, fp0⟩
  rintro t m H' ⟨rfl, ht, G', qs, s', g', hD, nG, hql, hnd, hDq, hfr, hin⟩
  obtain ⟨w1, w2⟩ := wk G' H' g' s'.gh
  by_cases hlt : t < zs.length
  · have ez : zs[t]? = some zs[t] := List.getElem?_eq_getElem hlt
    have ed : (zs.map PyData.str)[t]? = some (.str zs[t]) := by rw [List.getElem?_map, ez]; rfl
    obtain ⟨v1, v2⟩ := w2 t _ ed
    refine .inr ⟨v1, fun H2 => ∃ G2 qs2, Sta F G0 G2 H2 (L2.wipe σ vs) (wipeR ρ1 vs) ∧ Same G1 G2 ∧ H2 D' = some (.lst (qs2.map V.ref)) ∧ G2 D' = none ∧ qs2.length = t + 1 ∧ qs2.Nodup ∧ D' ∉ qs2 ∧
      (∀ a ∈ D' :: qs2, F a = none ∧ G2 a = none ∧ H2 a ≠ none ∧ ∀ (j : Nat) (x : Slot), (wipeR ρ1 vs)[j]? = some x → a ∉ x.fp) ∧ ∀ (k : Nat) (q : Addr) (z : Str), qs2[k]? = some q → zs[k]? = some z → H2 q = some (.lst (z.cps.toList.map fun c => V.str ⟨#[c]⟩)),
      fun H2 ⟨G2, qs2, b⟩ => ⟨zs.length - (t + 1), by omega, rfl, hlt, G2, qs2, b⟩, fun x H2 y => ?_⟩
    obtain ⟨G3, gr, rx⟩ := v2 x H2 y
    cases rx with
    | str _ =>
    have s3 := s'.grow gr
    have hrw : r < (L2.wipe σ vs).length := by
      rw [wipe_length, s1.len]
      exact hrl
    refine ⟨wipe_eq_set hr, ?_⟩
    show (tCB (rLstU K) (tCons (tVar r) tNil)) ((L2.wipe σ vs).set r (some (.str zs[t]))) H2 _
    refine ⟨.str zs[t], by rw [List.getElem?_set_self hrw], .inr ⟨zs[t], rfl, szl (hz _ (List.getElem_mem hlt)), fun l hl => ?_⟩⟩
    have keep : ∀ a ∈ D' :: qs, H2 a = H' a := fun a ha => by
      obtain ⟨_, _, c3, _⟩ := hfr a ha
      cases q : H' a with
      | none => exact absurd q c3
      | some u => exact gr.h a u q
    have lne : ∀ a ∈ D' :: qs, a ≠ l := fun a ha z => by
      have := keep a ha
      rw [z, hl] at this
      exact (hfr a ha).2.2.1 (by rw [z]; exact this.symm)
    have hD2 : L2.upd H2 l (.lst (zs[t].cps.toList.map fun c => V.str ⟨#[c]⟩)) D' = some (.lst (qs.map V.ref)) := by
      rw [upd_ne (lne D' List.mem_cons_self), keep D' List.mem_cons_self]
      exact hD
    refine ⟨qs.map V.ref, hD2, by rw [List.length_map, hql]; exact szs (by omega), G3, qs ++ [l], ?_, g'.trans gr.g, by rw [upd_same, List.map_append]; rfl, ?_, by simp [hql], ?_, ?_, ?_, ?_⟩
    · have s4 : Sta F G0 G3 (L2.upd H2 l (.lst (zs[t].cps.toList.map fun c => V.str ⟨#[c]⟩))) (L2.wipe σ vs) (wipeR ρ1 vs) := s3.laid hl
      refine s4.put nF ?_ (hfr D' List.mem_cons_self).2.2.2
      cases q : G3 D' with
      | none => rfl
      | some u =>
        have := gr.new D' u q (hfr D' List.mem_cons_self).2.2.1
        rw [nG] at this
        cases this
    · cases q : G3 D' with
      | none => rfl
      | some u =>
        have := gr.new D' u q (hfr D' List.mem_cons_self).2.2.1
        rw [nG] at this
        cases this
    · rw [List.nodup_append]
      exact ⟨hnd, by simp, fun a ha b hb => by
        obtain rfl := List.mem_singleton.mp hb
        exact lne a (List.mem_cons_of_mem _ ha)⟩
    · intro z
      rcases List.mem_append.mp z with z | z
      · exact hDq z
      · exact lne D' List.mem_cons_self (List.mem_singleton.mp z)
    · intro a ha
      have hl3 : a = l ∨ a ∈ D' :: qs := by
        rcases List.mem_cons.mp ha with h | h
        · exact .inr (by rw [h]; exact List.mem_cons_self)
        · rcases List.mem_append.mp h with h | h
          · exact .inr (List.mem_cons_of_mem _ h)
          · exact .inl (List.mem_singleton.mp h)
      rcases hl3 with rfl | hm'
      · refine ⟨none_of s3.fh hl, none_of s3.gh hl, ?_, s3.nofp hl⟩
        rw [upd_ne (Ne.symm (lne D' List.mem_cons_self)), upd_same]
        simp
      · obtain ⟨c1, c2, c3, c4⟩ := hfr a hm'
        refine ⟨c1, ?_, ?_, c4⟩
        · cases q : G3 a with
          | none => rfl
          | some u =>
            have := gr.new a u q c3
            rw [c2] at this
            cases this
        · by_cases haD : a = D'
          · rw [haD, upd_same]
            simp
          · rw [upd_ne haD, upd_ne (lne a hm'), keep a hm']
            exact c3
    · intro k q z e1 e2
      by_cases hk : k < qs.length
      · rw [List.getElem?_append_left hk] at e1
        have hm' : q ∈ D' :: qs := List.mem_cons_of_mem _ (List.mem_of_getElem? e1)
        have hqD : q ≠ D' := fun z => hDq (by rw [← z]; exact List.mem_of_getElem? e1)
        rw [upd_ne hqD, upd_ne (lne q hm'), keep q hm']
        exact hin k q z e1 e2
      · rw [List.getElem?_append_right (by omega)] at e1
        have hk0 : k - qs.length = 0 := by
          have := (List.getElem?_eq_some_iff.mp e1).1
          simp at this
          omega
        rw [hk0] at e1
        have el : l = q := by simpa using e1
        subst el
        have hkt : k = t := by omega
        subst hkt
        rw [ez] at e2
        cases e2
        rw [upd_ne (Ne.symm (lne D' List.mem_cons_self)), upd_same]
  · have e : t = zs.length := by omega
    subst e
    refine .inl ⟨by simpa using w1, ?_⟩
    have sm := s'.merge s1 g'
    rw [hm] at sm
    refine q1 _ _ G' H' (sm.setR (v := .ref D') (r := nest D' qs (zs.map signs)) ⟨rfl, hD, by simp [hql], hnd, hDq, fun k q ds e1 e2 => ?_⟩ (fun a ha => ?_) (fun j x hji ex a ha hb => ?_)) (g1.trans g') (h D' qs hql)
    · rw [List.getElem?_map] at e2
      cases qz : zs[k]? with
      | none => rw [qz] at e2; cases e2
      | some z =>
        rw [qz] at e2
        cases e2
        exact ⟨_, hin k q z e1 qz, sig_rpa z⟩
    · obtain ⟨c1, c2, c3, _⟩ := hfr a ha
      exact ⟨c1, c2, c3⟩
    · have ex2 : (mergeR ρ1 (wipeR ρ1 vs) vs)[j]? = some x := by rw [hm]; exact ex
      rcases mergeR_get ex2 with ⟨_, e⟩ | rfl
      · exact (hfr a hb).2.2.2 j x e ha
      · rw [keepV_fp] at ha
        cases ha
end
end Dv

namespace Dv
open PySem L2 PyProof.Rows PySem.Spec
section
variable {tas : TA} {ρ : Rho} {F G0 : Hp} {nx bk ct : Rho → Prop} {rt : PyData → Rho → Prop} {i j l : Nat}
theorem q_par3 (h : Wa tas ρ fun ds ρ1 => ∃ x y z, ds = [x, y, z] ∧ nx (((ρ1.set i (.val x)).set j (.val y)).set l (.val z))) : Ws F G0 (tPar3 i j l tas) ρ ⟨nx, rt, bk, ct⟩ := fun G H σ s D q1 q2 q3 q4 =>
  h F G0 G H σ s _ fun vs ds ρ1 G1 H1 s1 g1 r1 ⟨x, y, z, e, p⟩ => by
    subst e
    cases r1 with
    | cons ra rb =>
      cases rb with
      | cons rb rc =>
        cases rc with
        | cons rc rd =>
          cases rd
          exact ⟨_, _, _, rfl, q1 _ _ G1 H1 (((s1.setV ra).setV rb).setV rc) g1 p⟩
theorem tripL {α : Type} {a b c : α} {φ : α → α → α → Prop} (h : φ a b c) : ∃ x y z, [a, b, c] = [x, y, z] ∧ φ x y z := ⟨a, b, c, rfl, h⟩
end
end Dv

namespace Dv
open PySem L2
/-! ### trees whose lists are nobody else's: L tells where the lists lie -/
mutual
inductive Tr (G H : Hp) : V → PyData → List Addr → Prop
  | flt {v : V} {d : PyData} : Rp G v d → flat d = true → Tr G H v d []
  | lst {a : Addr} {xs : List V} {ds : List PyData} {L : List Addr} : H a = some (.lst xs) → TrA G H xs ds L → a ∉ L → Tr G H (.ref a) (.list ds) (a :: L)
  | tup {a : Addr} {xs : List V} {ds : List PyData} {L : List Addr} : G a = some (.tup xs) → TrA G H xs ds L → Tr G H (.ref a) (.tuple ds) L
inductive TrA (G H : Hp) : List V → List PyData → List Addr → Prop
  | nil : TrA G H [] [] []
  | cons {v : V} {vs : List V} {d : PyData} {ds : List PyData} {L M : List Addr} : Tr G H v d L → TrA G H vs ds M → (∀ a ∈ L, a ∉ M) → TrA G H (v :: vs) (d :: ds) (L ++ M)
end
mutual
theorem Tr.mono {G H G' H' : Hp} (e : Same G G') : ∀ {d : PyData} {v : V} {L : List Addr}, Tr G H v d L → (∀ a ∈ L, H' a = H a) → Tr G' H' v d L
  | .none, _, _, h, k => by cases h with | flt r f => exact .flt (r.mono e) f
  | .bool b, _, _, h, k => by cases h with | flt r f => exact .flt (r.mono e) f
  | .int b, _, _, h, k => by cases h with | flt r f => exact .flt (r.mono e) f
  | .str b, _, _, h, k => by cases h with | flt r f => exact .flt (r.mono e) f
  | .list ds, _, _, h, k => by
    cases h with
    | flt r f => cases f
    | lst h1 h2 h3 => exact .lst ((k _ List.mem_cons_self).trans h1) (TrA.mono e h2 fun a ha => k a (List.mem_cons_of_mem _ ha)) h3
  | .tuple ds, _, _, h, k => by
    cases h with
    | flt r f => cases f
    | tup h1 h2 => exact .tup (e _ _ h1) (TrA.mono e h2 k)
  | .dict ds, _, _, h, k => by
    cases h with
    | flt r f => cases f
theorem TrA.mono {G H G' H' : Hp} (e : Same G G') : ∀ {ds : List PyData} {vs : List V} {L : List Addr}, TrA G H vs ds L → (∀ a ∈ L, H' a = H a) → TrA G' H' vs ds L
  | [], _, _, h, k => by cases h; exact .nil
  | d :: ds, _, _, h, k => by
    cases h with
    | cons h1 h2 h3 => exact .cons (Tr.mono e h1 fun a ha => k a (List.mem_append_left _ ha)) (TrA.mono e h2 fun a ha => k a (List.mem_append_right _ ha)) h3
end
/-- G, and what H tells at M -/
def frz (G H : Hp) (M : List Addr) : Hp := fun a => if a ∈ M then H a else G a
theorem frz_in {G H : Hp} {M : List Addr} {a : Addr} (h : a ∈ M) : frz G H M a = H a := if_pos h
theorem frz_out {G H : Hp} {M : List Addr} {a : Addr} (h : a ∉ M) : frz G H M a = G a := if_neg h
theorem frz_same {G H : Hp} {M : List Addr} (h : ∀ a ∈ M, G a = none) : Same G (frz G H M) := fun a o e => by
  rw [frz_out fun z => by rw [h a z] at e; cases e]
  exact e
theorem frz_le {G H : Hp} {M : List Addr} (s : Same G H) : Same (frz G H M) H := fun a o e => by
  by_cases h : a ∈ M
  · rw [frz_in h] at e
    exact e
  · rw [frz_out h] at e
    exact s a o e
mutual
theorem Tr.rp {G H : Hp} {M : List Addr} (n : ∀ a ∈ M, G a = none) : ∀ {d : PyData} {v : V} {L : List Addr}, Tr G H v d L → (∀ a ∈ L, a ∈ M) → Rp (frz G H M) v d
  | .none, _, _, h, k => by cases h with | flt r f => exact r.mono (frz_same n)
  | .bool b, _, _, h, k => by cases h with | flt r f => exact r.mono (frz_same n)
  | .int b, _, _, h, k => by cases h with | flt r f => exact r.mono (frz_same n)
  | .str b, _, _, h, k => by cases h with | flt r f => exact r.mono (frz_same n)
  | .list ds, _, _, h, k => by
    cases h with
    | flt r f => cases f
    | lst h1 h2 h3 => exact .lst (by rw [frz_in (k _ List.mem_cons_self)]; exact h1) (TrA.rp n h2 fun a ha => k a (List.mem_cons_of_mem _ ha))
  | .tuple ds, _, _, h, k => by
    cases h with
    | flt r f => cases f
    | tup h1 h2 => exact .tup (frz_same n _ _ h1) (TrA.rp n h2 k)
  | .dict ds, _, _, h, k => by
    cases h with
    | flt r f => cases f
theorem TrA.rp {G H : Hp} {M : List Addr} (n : ∀ a ∈ M, G a = none) : ∀ {ds : List PyData} {vs : List V} {L : List Addr}, TrA G H vs ds L → (∀ a ∈ L, a ∈ M) → RpA (frz G H M) vs ds
  | [], _, _, h, k => by cases h; exact .nil
  | d :: ds, _, _, h, k => by
    cases h with
    | cons h1 h2 h3 => exact .cons (Tr.rp n h1 fun a ha => k a (List.mem_append_left _ ha)) (TrA.rp n h2 fun a ha => k a (List.mem_append_right _ ha))
end
mutual
theorem Tr.live {G H : Hp} : ∀ {d : PyData} {v : V} {L : List Addr}, Tr G H v d L → ∀ a ∈ L, H a ≠ none
  | .none, _, _, h => by cases h with | flt r f => intro a ha; cases ha
  | .bool b, _, _, h => by cases h with | flt r f => intro a ha; cases ha
  | .int b, _, _, h => by cases h with | flt r f => intro a ha; cases ha
  | .str b, _, _, h => by cases h with | flt r f => intro a ha; cases ha
  | .list ds, _, _, h => by
    cases h with
    | flt r f => cases f
    | lst h1 h2 h3 =>
      intro a ha
      rcases List.mem_cons.mp ha with rfl | ha
      · rw [h1]; simp
      · exact TrA.live h2 a ha
  | .tuple ds, _, _, h => by
    cases h with
    | flt r f => cases f
    | tup h1 h2 => exact TrA.live h2
  | .dict ds, _, _, h => by
    cases h with
    | flt r f => cases f
theorem TrA.live {G H : Hp} : ∀ {ds : List PyData} {vs : List V} {L : List Addr}, TrA G H vs ds L → ∀ a ∈ L, H a ≠ none
  | [], _, _, h => by cases h; intro a ha; cases ha
  | d :: ds, _, _, h => by
    cases h with
    | cons h1 h2 h3 =>
      intro a ha
      rcases List.mem_append.mp ha with ha | ha
      · exact Tr.live h1 a ha
      · exact TrA.live h2 a ha
end
theorem TrA.len {G H : Hp} : ∀ {ds : List PyData} {vs : List V} {L : List Addr}, TrA G H vs ds L → vs.length = ds.length
  | [], _, _, h => by cases h; rfl
  | d :: ds, _, _, h => by
    cases h with
    | cons h1 h2 h3 => simp [TrA.len h2]
/-! no list is in it -/
mutual
def nl : PyData → Bool
  | .list _ => false
  | .dict _ => false
  | .tuple ds => nlA ds
  | _ => true
def nlA : List PyData → Bool
  | [] => true
  | d :: ds => nl d && nlA ds
end
mutual
theorem Tr.of_nl {G H : Hp} : ∀ {d : PyData} {v : V}, nl d = true → Rp G v d → Tr G H v d []
  | .none, _, h, r => .flt r rfl
  | .bool b, _, h, r => .flt r rfl
  | .int b, _, h, r => .flt r rfl
  | .str b, _, h, r => .flt r rfl
  | .list ds, _, h, r => by simp [nl] at h
  | .dict ds, _, h, r => by simp [nl] at h
  | .tuple ds, _, h, r => by
    cases r with
    | tup h1 h2 => exact .tup h1 (TrA.of_nl (by simpa [nl] using h) h2)
theorem TrA.of_nl {G H : Hp} : ∀ {ds : List PyData} {vs : List V}, nlA ds = true → RpA G vs ds → TrA G H vs ds []
  | [], _, h, r => by cases r; exact .nil
  | d :: ds, _, h, r => by
    cases r with
    | cons r1 r2 =>
      simp only [nlA, Bool.and_eq_true] at h
      exact .cons (L := []) (M := []) (Tr.of_nl h.1 r1) (TrA.of_nl h.2 r2) (by simp)
end
theorem nlA_all {ds : List PyData} : nlA ds = ds.all nl := by
  induction ds with
  | nil => rfl
  | cons d ds ih => simp [nlA, ih]
theorem nl_flat {d : PyData} (h : flat d = true) : nl d = true := by
  cases d <;> first | rfl | cases h
theorem TrA.app {G H : Hp} : ∀ {ds es : List PyData} {vs ws : List V} {L M : List Addr}, TrA G H vs ds L → TrA G H ws es M → (∀ a ∈ L, a ∉ M) → TrA G H (vs ++ ws) (ds ++ es) (L ++ M)
  | [], _, _, _, _, _, h, k, _ => by cases h; exact k
  | d :: ds, _, _, _, _, _, h, k, n => by
    cases h with
    | cons h1 h2 h3 =>
      rw [List.append_assoc]
      refine .cons h1 (TrA.app h2 k fun a ha => n a (List.mem_append_right _ ha)) fun a ha hb => ?_
      rcases List.mem_append.mp hb with hb | hb
      · exact h3 a ha hb
      · exact n a (List.mem_append_left _ ha) hb
/-- a thing that is nobody else's -/
def own (L : List Addr) (d : PyData) : Res where
  fp := L
  ok := fun G H v => Tr G H v d L
  mono := fun h g k => h.mono g k
/-- a list at a whose items are nobody's concern any more -/
def rawL (a : Addr) (n : Nat) : Res where
  fp := [a]
  ok := fun _ H v => v = .ref a ∧ ∃ xs, H a = some (.lst xs) ∧ xs.length = n
  mono := by
    rintro G H G' H' v ⟨e, xs, h1, h2⟩ g k
    exact ⟨e, xs, (k a List.mem_cons_self).trans h1, h2⟩
section
variable {F G0 G H G' H' : Hp} {σ : L2.St} {ρ : Rho} {M : List Addr}
/-- lists of nobody's become data -/
theorem Sta.freezeM (s : Sta F G0 G H σ ρ) (n : ∀ a ∈ M, F a = none ∧ G a = none) (ap : ∀ (j : Nat) (x : Slot), ρ[j]? = some x → ∀ a ∈ x.fp, a ∉ M) : Sta F G0 (frz G H M) H σ ρ where
  fh := s.fh
  gh := frz_le s.gh
  g0 := s.g0.trans (frz_same fun a ha => (n a ha).2)
  new := fun a o e nF => by
    by_cases h : a ∈ M
    · exact absurd (n a h).1 nF
    · rw [frz_out h] at e
      exact s.new a o e nF
  len := s.len
  slot := fun i x e => by
    have q := s.slot i x e
    have sm : Same G (frz G H M) := frz_same fun a ha => (n a ha).2
    cases x with
    | any => trivial
    | val d =>
      obtain ⟨v, e, r⟩ := q
      exact ⟨v, e, r.mono sm⟩
    | res r =>
      obtain ⟨v, e', k, n'⟩ := q
      refine ⟨v, e', r.mono k sm fun a ha => rfl, fun a ha => ⟨(n' a ha).1, ?_, (n' a ha).2.2⟩⟩
      rw [frz_out (ap i _ e a ha)]
      exact (n' a ha).2.1
  apart := s.apart
theorem Sta.holdM (s : Sta F G0 G H σ ρ) (n : ∀ a ∈ M, G a = none) (ap : ∀ (j : Nat) (x : Slot), ρ[j]? = some x → ∀ a ∈ x.fp, a ∉ M) : Sta (frz F H M) G0 G H σ ρ where
  fh := frz_le s.fh
  gh := s.gh
  g0 := s.g0
  new := fun a o e nF => by
    by_cases h : a ∈ M
    · rw [n a h] at e
      cases e
    · rw [frz_out h] at nF
      exact s.new a o e nF
  len := s.len
  slot := fun i x e => by
    have q := s.slot i x e
    cases x with
    | any => trivial
    | val d => exact q
    | res r =>
      obtain ⟨v, e', k, n'⟩ := q
      refine ⟨v, e', k, fun a ha => ⟨?_, (n' a ha).2⟩⟩
      rw [frz_out (ap i _ e a ha)]
      exact (n' a ha).1
  apart := s.apart
theorem Sta.unholdM {H0 : Hp} (s : Sta (frz F H0 M) G0 G H σ ρ) (n : ∀ a ∈ M, F a = none ∧ G0 a = none ∧ H0 a ≠ none) : Sta F G0 G H σ ρ ∧ (∀ a ∈ M, H a = H0 a) ∧ (∀ a ∈ M, G a = none) ∧ ∀ (j : Nat) (x : Slot), ρ[j]? = some x → ∀ a ∈ x.fp, a ∉ M := by
  have hH : ∀ a ∈ M, H a = H0 a := fun a ha => by
    cases q : H0 a with
    | none => exact absurd q (n a ha).2.2
    | some u => exact s.fh a u (by rw [frz_in ha]; exact q)
  refine ⟨⟨fun a o e => s.fh a o ?_, s.gh, s.g0, fun a o e nF => s.new a o e ?_, s.len, fun i x e => ?_, s.apart⟩, hH, fun a ha => ?_, fun j x e a hx ha => ?_⟩
  · rw [frz_out fun z => by rw [(n a z).1] at e; cases e]
    exact e
  · rw [frz_out fun z => nF (n a z).1]
    exact nF
  · have q := s.slot i x e
    cases x with
    | any => trivial
    | val d => exact q
    | res r =>
      obtain ⟨v, e', k, n'⟩ := q
      refine ⟨v, e', k, fun a ha => ⟨?_, (n' a ha).2⟩⟩
      have z := (n' a ha).1
      by_cases hb : a ∈ M
      · exact (n a hb).1
      · rw [frz_out hb] at z
        exact z
  · cases q : G a with
    | none => rfl
    | some o =>
      have z := s.new a o q (by rw [frz_in ha]; exact (n a ha).2.2)
      rw [(n a ha).2.1] at z
      cases z
  · have q := s.slot j x e
    cases x with
    | any => cases hx
    | val d => cases hx
    | res r =>
      obtain ⟨v, e', k, n'⟩ := q
      have z := (n' a hx).1
      rw [frz_in ha] at z
      exact (n a ha).2.2 z
/-- what lies at new places is in no slot -/
theorem Sta.newL {L : List Addr} (s : Sta F G0 G H σ ρ) (n : ∀ a ∈ L, H a = none) : ∀ (j : Nat) (x : Slot), ρ[j]? = some x → ∀ a ∈ x.fp, a ∉ L := fun j x e a hx ha => by
  have q := s.slot j x e
  cases x with
  | any => cases hx
  | val d => cases hx
  | res r =>
    obtain ⟨v, e', k, n'⟩ := q
    exact (n' a hx).2.2 (n a ha)
end
/-- what is told is nobody else's -/
def Wr (te : TE) (ρ : Rho) (Φ : PyData → Rho → Prop) : Prop := ∀ (F G0 G H : Hp) (σ : L2.St), Sta F G0 G H σ ρ → ∀ Q : VK, (∀ v d L ρ' G' H', Sta F G0 G' H' σ ρ' → Same G G' → Tr G' H' v d L → (∀ a ∈ L, F a = none ∧ G' a = none) → (∀ (j : Nat) (x : Slot), ρ'[j]? = some x → ∀ a ∈ x.fp, a ∉ L) → Φ d ρ' → Q v H') → te σ H Q
/-- a def that tells something of nobody's -/
def SpO (pre : List PyData → (PyData → Prop) → Prop) : Sp := fun vs H Q _ => ∃ G ds φ, Same G H ∧ RpA G vs ds ∧ pre ds φ ∧ ∀ v d L G' H', Grow G H G' H' → Tr G' H' v d L → (∀ a ∈ L, H a = none ∧ G' a = none) → φ d → Q v H'
theorem spo_len {pre : List PyData → (PyData → Prop) → Prop} {n : Nat} (hl : ∀ ds φ, pre ds φ → ds.length = n) : ∀ vs H Q E, SpO pre vs H Q E → vs.length = n := fun vs H Q E ⟨G, ds, φ, s, r, p, k⟩ => by rw [r.len, hl ds φ p]
/-- a suite that returns something of nobody's -/
def WsO (F G0 : Hp) (ts : TS) (ρ : Rho) (rt : PyData → Rho → Prop) : Prop := ∀ (G H : Hp) (σ : L2.St), Sta F G0 G H σ ρ → ∀ D : Ends,
  (∀ v d L σ' ρ' G' H', Sta F G0 G' H' σ' ρ' → Same G G' → Tr G' H' v d L → (∀ a ∈ L, F a = none ∧ G' a = none) → rt d ρ' → D.rt v H') → ts D σ H
theorem fn_own {pre : List PyData → (PyData → Prop) → Prop} {t : TS} {N : List Str} {n : Nat} (hn : n ≤ N.length) (hl : ∀ ds φ, pre ds φ → ds.length = n)
    (h : ∀ F G0 ds φ, pre ds φ → WsO F G0 t (slots0 N.length ds) fun d _ => φ d) {vs : List V} {H : Hp} {Q : VK} {E : XK} (hs : SpO pre vs H Q E) : t { nx := fun _ H' => Q .non H', rt := Q } (L2.start N vs) H := by
  obtain ⟨G, ds, φ, s, r, p, k⟩ := hs
  have hv : vs.length ≤ N.length := by rw [r.len, hl ds φ p]; exact hn
  exact h H G ds φ p G H _ (sta_start s r hv) _ fun v d L σ' ρ' G' H' s' g r' nL q => k v d L G' H' ⟨g, s'.fh, s'.gh, s'.new⟩ r' nL q
section
variable {te ta tb tc : TE} {tt tu : TT} {tas : TA} {ts tsu : TS} {ρ : Rho} {Φ Φ' : PyData → Rho → Prop} {Φb : Bool → Rho → Prop} {K : PySem.W.Frag} {g : TG} {wi : TI}
theorem Wr.imp (h : Wr te ρ Φ) (k : ∀ d ρ', Φ d ρ' → Φ' d ρ') : Wr te ρ Φ' := fun F G0 G H σ s Q q => h F G0 G H σ s Q fun v d L ρ' G' H' s' g r a b p => q v d L ρ' G' H' s' g r a b (k d ρ' p)
/-- it may be taken as data -/
theorem we_own (h : Wr te ρ Φ) : We te ρ Φ := fun F G0 G H σ s Q k => h F G0 G H σ s Q fun v d L ρ' G' H' s' g r n ap p =>
  k v d ρ' (frz G' H' L) H' (s'.freezeM n ap) (g.trans (frz_same fun a ha => (n a ha).2)) (r.rp (fun a ha => (n a ha).2) fun _ h => h) p
theorem wr_new (h : Wn te ρ fun ds ρ1 => nlA ds = true ∧ Φ (.list ds) ρ1) : Wr te ρ Φ := fun F G0 G H σ s Q k =>
  h F G0 G H σ s Q fun p xs ds ρ' G' H' s' g hp r hF hG hn ⟨hnl, q⟩ => k _ _ [p] ρ' G' H' s' g (.lst hp (TrA.of_nl hnl r) (by simp)) (fun a ha => by rw [List.mem_singleton.mp ha]; exact ⟨hF, hG⟩)
    (fun j x e a hx ha => hn j x e (by rw [← List.mem_singleton.mp ha]; exact hx)) q
theorem wr_nl (h : We te ρ fun d ρ1 => nl d = true ∧ Φ d ρ1) : Wr te ρ Φ := fun F G0 G H σ s Q k =>
  h F G0 G H σ s Q fun v d ρ' G' H' s' g r ⟨hn, q⟩ => k v d [] ρ' G' H' s' g (Tr.of_nl hn r) (by simp) (by simp) q
theorem wr_if (h : Wt tt ρ fun b ρ1 => (b = true → Wr ta ρ1 Φ) ∧ (b = false → Wr tb ρ1 Φ)) : Wr (tIf tt ta tb) ρ Φ := fun F G0 G H σ s Q k =>
  h F G0 G H σ s _ fun b ρ1 G1 H1 s1 g1 ⟨p1, p2⟩ => by
    cases b with
    | true => exact p1 rfl F G0 G1 H1 σ s1 Q fun v d L ρ' G' H' s' g r a b p => k v d L ρ' G' H' s' (g1.trans g) r a b p
    | false => exact p2 rfl F G0 G1 H1 σ s1 Q fun v d L ρ' G' H' s' g r a b p => k v d L ρ' G' H' s' (g1.trans g) r a b p
theorem wr_call {pre : List PyData → (PyData → Prop) → Prop} {E : XK} (h : Wa tas ρ fun ds ρ1 => pre ds fun d => Φ d ρ1) : Wr (tCall (SpO pre) [] E tas) ρ Φ := fun F G0 G H σ s Q k =>
  h F G0 G H σ s _ fun vs ds ρ1 G1 H1 s1 g1 r1 p => ⟨G1, ds, _, s1.gh, by rw [List.append_nil]; exact r1, p, fun v d L G' H' gr r n q =>
    k v d L ρ1 G' H' (s1.grow gr) (g1.trans gr.g) r (fun a ha => ⟨none_of s1.fh (n a ha).1, (n a ha).2⟩) (s1.newL fun a ha => (n a ha).1) q⟩
theorem wr_callK {pre : List PyData → (PyData → Prop) → Prop} {E : XK} {n : Nat} {π : List Nat} {tk : TA} (h : Wa tk ρ fun ds ρ1 => pre (permL n π [] ds) fun d => Φ d ρ1) : Wr (tCallK (SpO pre) (permL n π) E tNil tk) ρ Φ := fun F G0 G H σ s Q k =>
  h F G0 G H σ s _ fun vs ds ρ1 G1 H1 s1 g1 r1 p => ⟨G1, _, _, s1.gh, perm_rpa r1, p, fun v d L G' H' gr r n q =>
    k v d L ρ1 G' H' (s1.grow gr) (g1.trans gr.g) r (fun a ha => ⟨none_of s1.fh (n a ha).1, (n a ha).2⟩) (s1.newL fun a ha => (n a ha).1) q⟩
/-- a list of nobody's is told -/
theorem wr_varR {i : Nat} {p : Addr} {ds : List PyData} (h : ρ[i]? = some (.res (lst p ds))) (hn : nlA ds = true) (q : Φ (.list ds) (ρ.set i .any)) : Wr (tVar i) ρ Φ := fun F G0 G H σ s Q k => by
  obtain ⟨v, e, ⟨rfl, xs, ds', hp, ra, rfl⟩, hfp⟩ := s.getR h
  obtain ⟨nF, nG, nH⟩ := hfp p List.mem_cons_self
  have hi : i < ρ.length := (List.getElem?_eq_some_iff.mp h).1
  have s1 : Sta F G0 G H (σ.set i (some (.ref p))) (ρ.set i .any) := s.setN
  have eσ : σ.set i (some (.ref p)) = σ := by
    have hl : i < σ.length := by rw [s.len]; exact hi
    have e2 := e
    rw [List.getElem?_eq_getElem hl] at e2
    rw [← Option.some.inj e2]
    exact List.set_getElem_self hl
  rw [eσ] at s1
  refine ⟨_, e, k _ _ [p] _ G H s1 (Same.refl G) (.lst hp (TrA.of_nl hn ra) (by simp)) (fun a ha => by rw [List.mem_singleton.mp ha]; exact ⟨nF, nG⟩) (fun j x ej a hx ha => ?_) q⟩
  rw [List.mem_singleton.mp ha] at hx
  by_cases hj : i = j
  · subst hj
    rw [List.getElem?_set_self hi] at ej
    cases ej
    cases hx
  · rw [List.getElem?_set_ne hj] at ej
    rcases Nat.lt_or_ge i j with hl | hl
    · exact s.apart i j _ _ hl h ej p List.mem_cons_self hx
    · exact s.apart j i _ _ (by omega) ej h p hx List.mem_cons_self
/-! ### suites that return something of nobody's -/
theorem o_seq {F G0 : Hp} {rt : PyData → Rho → Prop} (h : Ws F G0 ts ρ ⟨fun ρ' => WsO F G0 tsu ρ' rt, fun d ρ' => nl d = true ∧ rt d ρ', fun _ => False, fun _ => False⟩) : WsO F G0 (tSeq ts tsu) ρ rt := fun G H σ s D q =>
  h G H σ s { D with nx := tsu D } (fun σ' ρ' G' H' s' g p => p G' H' σ' s' D fun v d L σ2 ρ2 G2 H2 s2 g2 r n p2 => q v d L σ2 ρ2 G2 H2 s2 (g.trans g2) r n p2)
    (fun v d σ' ρ' G' H' s' g r ⟨hn, p⟩ => q v d [] σ' ρ' G' H' s' g (Tr.of_nl hn r) (by simp) p) (fun _ _ _ _ _ _ z => z.elim) (fun _ _ _ _ _ _ z => z.elim)
theorem o_if {F G0 : Hp} {rt : PyData → Rho → Prop} (h : Wt tt ρ fun b ρ1 => (b = true → WsO F G0 ts ρ1 rt) ∧ (b = false → WsO F G0 tsu ρ1 rt)) : WsO F G0 (tIfS tt ts tsu) ρ rt := fun G H σ s D q =>
  h F G0 G H σ s _ fun b ρ1 G1 H1 s1 g1 p => by
    have a := fun v d L σ2 ρ2 G2 H2 s2 g2 r n p2 => q v d L σ2 ρ2 G2 H2 s2 (g1.trans g2) r n p2
    cases b with
    | true => exact p.1 rfl G1 H1 σ s1 D a
    | false => exact p.2 rfl G1 H1 σ s1 D a
theorem o_ret {F G0 : Hp} {rt : PyData → Rho → Prop} (h : Wr te ρ rt) : WsO F G0 (tRet te) ρ rt := fun G H σ s D q => h F G0 G H σ s _ fun v d L ρ1 G1 H1 s1 g1 r n ap p => q v d L _ ρ1 G1 H1 s1 g1 r n p
/-! ### slots -/
theorem q_setO {F G0 : Hp} {i : Nat} {nx bk ct : Rho → Prop} {rt : PyData → Rho → Prop} (h : Wr te ρ fun d ρ1 => ∀ L, nx (ρ1.set i (.res (own L d)))) : Ws F G0 (tAsg te (gName i)) ρ ⟨nx, rt, bk, ct⟩ := fun G H σ s D q1 q2 q3 q4 =>
  h F G0 G H σ s _ fun v d L ρ1 G1 H1 s1 g1 r n ap p => q1 _ _ G1 H1 (s1.setR (v := v) (r := own L d) r (fun a ha => ⟨(n a ha).1, (n a ha).2, r.live a ha⟩) (fun j x _ e a ha hb => ap j x e a ha hb)) g1 (p L)
/-- a, b = something of nobody's, x -/
theorem q_parO {F G0 : Hp} {i j : Nat} {nx bk ct : Rho → Prop} {rt : PyData → Rho → Prop} (h : Wr ta ρ fun d ρ1 => We tb ρ1 fun y ρ2 => ∀ L, nx ((ρ2.set i (.res (own L d))).set j (.val y))) : Ws F G0 (tPar i j (tCons ta (tCons tb tNil))) ρ ⟨nx, rt, bk, ct⟩ := fun G H σ s D q1 q2 q3 q4 =>
  h F G0 G H σ s _ fun v d L ρ1 G1 H1 s1 g1 r n ap q =>
    q _ _ _ _ _ (s1.holdM (M := L) (fun a ha => (n a ha).2) ap) _ fun u y ρ2 G2 H2 s2 g2 r2 k => by
      obtain ⟨s3, e3, n3, ap3⟩ := s2.unholdM fun a ha => ⟨(n a ha).1, none_of s1.g0 (n a ha).2, r.live a ha⟩
      refine ⟨_, _, rfl, q1 _ _ G2 H2 (Sta.setV (s3.setR (v := v) (r := own L d) (r.mono g2 e3) (fun a ha => ⟨(n a ha).1, n3 a ha, by rw [e3 a ha]; exact r.live a ha⟩) (fun j x _ e a ha hb => ap3 j x e a ha hb)) r2) (g1.trans g2) (k L)⟩
/-- only data stays to be seen -/
def seen : Slot → Slot
  | .res _ => .any
  | x => x
theorem Sta.lend {F G0 G H : Hp} {σ : L2.St} {i : Nat} {L : List Addr} {d : PyData} (s : Sta F G0 G H σ ρ) (h : ρ[i]? = some (.res (own L d))) : Sta H (frz G H L) (frz G H L) H σ ((ρ.map seen).set i (.val d)) ∧ Same G (frz G H L) := by
  obtain ⟨v, e, r, n⟩ := s.getR h
  have r : Tr G H v d L := r
  have n : ∀ a ∈ L, F a = none ∧ G a = none ∧ H a ≠ none := n
  have hi : i < ρ.length := (List.getElem?_eq_some_iff.mp h).1
  have sm : Same G (frz G H L) := frz_same fun a ha => (n a ha).2.1
  have fp0 : ∀ (j : Nat) (x : Slot), ((ρ.map seen).set i (.val d))[j]? = some x → x.fp = [] := fun j x ej => by
    by_cases hj : i = j
    · subst hj
      rw [List.getElem?_set_self (by rw [List.length_map]; exact hi)] at ej
      cases ej
      rfl
    · rw [List.getElem?_set_ne hj, List.getElem?_map] at ej
      cases q : ρ[j]? with
      | none => rw [q] at ej; cases ej
      | some y =>
        rw [q] at ej
        obtain rfl := Option.some.inj ej
        cases y <;> rfl
  refine ⟨⟨Same.refl H, frz_le s.gh, Same.refl _, fun a o e _ => e, by rw [List.length_set, List.length_map, s.len], fun j x ej => ?_, fun j k x y _ e1 _ a ha _ => ?_⟩, sm⟩
  · by_cases hj : i = j
    · subst hj
      rw [List.getElem?_set_self (by rw [List.length_map]; exact hi)] at ej
      cases ej
      exact ⟨v, by rw [e]; rfl, r.rp (fun a ha => (n a ha).2.1) fun _ h => h⟩
    · rw [List.getElem?_set_ne hj, List.getElem?_map] at ej
      cases q : ρ[j]? with
      | none => rw [q] at ej; cases ej
      | some y =>
        rw [q] at ej
        obtain rfl := Option.some.inj ej
        have z := s.slot j y q
        cases y with
        | any => trivial
        | res r => trivial
        | val d' =>
          obtain ⟨v', e', r'⟩ := z
          exact ⟨v', e', r'.mono sm⟩
  · rw [fp0 j x e1] at ha
    cases ha
/-- something of nobody's is looked at as data; the answer is flat -/
theorem we_lend {i : Nat} {L : List Addr} {d : PyData} (h : ρ[i]? = some (.res (own L d))) (q : We te ((ρ.map seen).set i (.val d)) fun d' _ => flat d' = true ∧ Φ d' ρ) : We te ρ Φ := fun F G0 G H σ s Q k => by
  obtain ⟨s1, sm⟩ := s.lend h
  exact q _ _ _ _ σ s1 Q fun v d' ρ' G' H' s' g r ⟨hf, p⟩ => k v d' ρ G H' (s.grow ⟨Same.refl G, s'.fh, s.gh.trans s'.fh, fun _ _ e _ => e⟩) (Same.refl G) (r.flat hf) p
theorem wt_lend {i : Nat} {L : List Addr} {d : PyData} (h : ρ[i]? = some (.res (own L d))) (q : Wt tt ((ρ.map seen).set i (.val d)) fun b _ => Φb b ρ) : Wt tt ρ Φb := fun F G0 G H σ s Q k => by
  obtain ⟨s1, sm⟩ := s.lend h
  exact q _ _ _ _ σ s1 Q fun b ρ' G' H' s' g p => k b ρ G H' (s.grow ⟨Same.refl G, s'.fh, s.gh.trans s'.fh, fun _ _ e _ => e⟩) (Same.refl G) p
end
end Dv

namespace Dv
open PySem L2
/-! ### something of nobody's is spoilt: each list in it gets one more item -/
def endsSp (ds : List PyData) : Bool := match ds.getLast? with
  | some (.str x) => x == "spoilt"
  | _ => false
mutual
def clean : PyData → Bool
  | .list ds => !endsSp ds && (decide (ds.length < 90000) && cleanA ds)
  | .tuple ds => decide (ds.length < 90000) && cleanA ds
  | .dict _ => false
  | .str x => decide (x.length < 90000) && x.cps.toList.all fun c => decide (c < 128)
  | _ => true
def cleanA : List PyData → Bool
  | [] => true
  | d :: ds => clean d && cleanA ds
end
theorem cleanA_all {ds : List PyData} : cleanA ds = ds.all clean := by
  induction ds with
  | nil => rfl
  | cons d ds ih => simp [cleanA, ih]
/-- growing, but for what lies at L -/
structure GrowL (L : List Addr) (G H G' H' : Hp) : Prop where
  g : Same G G'
  h : ∀ a o, a ∉ L → H a = some o → H' a = some o
  gh : Same G' H'
  new : ∀ a o, a ∉ L → G' a = some o → H a ≠ none → G a = some o
def SpS (n : Nat) : Sp := fun vs H Q _ => ∃ G v d L, vs = [v] ∧ Same G H ∧ Tr G H v d L ∧ (∀ a ∈ L, G a = none) ∧ clean d = true ∧ d.depth < n ∧ ∀ G' H', GrowL L G H G' H' → Q (.bl true) H'
theorem sps_len {n : Nat} : ∀ vs H Q E, SpS n vs H Q E → vs.length = 1 := fun vs H Q E ⟨G, v, d, L, e, _⟩ => by rw [e]; rfl
def delM (H : Hp) (L : List Addr) : Hp := fun a => if a ∈ L then none else H a
theorem delM_in {H : Hp} {L : List Addr} {a : Addr} (h : a ∈ L) : delM H L a = none := if_pos h
theorem delM_out {H : Hp} {L : List Addr} {a : Addr} (h : a ∉ L) : delM H L a = H a := if_neg h
def rawX (a : Addr) (xs : List V) : Res where
  fp := [a]
  ok := fun _ H v => v = .ref a ∧ H a = some (.lst xs)
  mono := by
    rintro G H G' H' v ⟨e, h1⟩ g k
    exact ⟨e, (k a List.mem_cons_self).trans h1⟩
section
variable {F G0 G H G' H' : Hp} {σ : L2.St} {ρ : Rho} {L : List Addr}
theorem Sta.growL (s : Sta F G0 G H σ ρ) (w : GrowL L G H G' H') (n : ∀ a ∈ L, F a = none ∧ G a = none) (ap : ∀ (j : Nat) (x : Slot), ρ[j]? = some x → ∀ a ∈ x.fp, a ∉ L) : Sta F G0 G' H' σ ρ where
  fh := fun a o e => w.h a o (fun z => by rw [(n a z).1] at e; cases e) (s.fh a o e)
  gh := w.gh
  g0 := s.g0.trans w.g
  new := fun a o e nF => s.new a o (w.new a o (fun z => nF (n a z).1) e (by
    cases q : F a with
    | none => exact absurd q nF
    | some u => rw [s.fh a u q]; simp)) nF
  len := s.len
  slot := fun i x e => by
    have q := s.slot i x e
    cases x with
    | any => trivial
    | val d =>
      obtain ⟨v, e', r⟩ := q
      exact ⟨v, e', r.mono w.g⟩
    | res r =>
      obtain ⟨v, e', k, n'⟩ := q
      have hh : ∀ a ∈ r.fp, H' a = H a := fun a ha => by
        cases z : H a with
        | none => exact absurd z (n' a ha).2.2
        | some u => exact w.h a u (ap i _ e a ha) z
      refine ⟨v, e', r.mono k w.g hh, fun a ha => ⟨(n' a ha).1, ?_, by rw [hh a ha]; exact (n' a ha).2.2⟩⟩
      cases z : G' a with
      | none => rfl
      | some u => rw [← w.new a u (ap i _ e a ha) z (n' a ha).2.2]; exact (n' a ha).2.1
  apart := s.apart
theorem wipeR_fp {vs : List Nat} {j : Nat} {x : Slot} {a : Addr} (h : ∀ (j : Nat) (x : Slot), ρ[j]? = some x → a ∉ x.fp) (e : (wipeR ρ vs)[j]? = some x) : a ∉ x.fp := by
  rcases wipeR_get e with e | rfl
  · exact h j x e
  · intro z
    cases z
theorem mergeR_fp {vs : List Nat} {ρ1 : Rho} {j : Nat} {x : Slot} {a : Addr} (h : ∀ (j : Nat) (x : Slot), ρ[j]? = some x → a ∉ x.fp) (e : (mergeR ρ1 ρ vs)[j]? = some x) : a ∉ x.fp := by
  rcases mergeR_get e with ⟨_, e⟩ | rfl
  · exact h j x e
  · rw [keepV_fp]
    intro z
    cases z
theorem rpa_rep {n : Nat} : RpA G (List.replicate n (.bl true)) (List.replicate n (.bool true)) := by
  induction n with
  | zero => exact .nil
  | succ n ih => exact .cons (.bl true) ih
theorem spoil_loop {J : It} {xs : List V} {ds : List PyData} {n j : Nat} {D : Addr} {E : XK} {Q : VK} (s : Sta F G0 G H σ ρ) (hj : j < σ.length) (tr : TrA G H xs ds L) (nL : ∀ b ∈ L, F b = none ∧ G b = none)
    (ap : ∀ (k : Nat) (x : Slot), ρ[k]? = some x → ∀ a ∈ x.fp, a ∉ L)
    (hJ : ∀ G' H', Sta F G0 G' H' (L2.wipe σ [j]) (wipeR ρ [j]) → Same G G' → J.stop xs.length H' ∧ ∀ k x, xs[k]? = some x → J.go k H' ∧ ∀ y H'', J.yld k H' y H'' → H'' = H' ∧ y = x)
    (hc : ∀ d ∈ ds, clean d = true ∧ d.depth < n) (hl : ds.length < 100000) (nD : H D = none)
    (fin : ∀ G' H', Sta F G0 G' H' σ (mergeR ρ (wipeR ρ [j]) [j]) → Same G G' → H' D = some (.lst (List.replicate ds.length (.bl true))) → G' D = none → (∀ (k : Nat) (x : Slot), (mergeR ρ (wipeR ρ [j]) [j])[k]? = some x → D ∉ x.fp) → Q (.ref D) H') :
    ∃ W : Nat → Nat → Hp → Prop, (∃ m, W 0 m (L2.upd H D (.lst []))) ∧ ∀ i m H, W i m H →
      (J.stop i H ∧ Q (.ref D) H) ∨ (J.go i H ∧ ∃ Nx : Hp → Prop, (∀ H', Nx H' → ∃ m', m' < m ∧ W (i + 1) m' H') ∧ ∀ x H', J.yld i H x H' → gName j x (L2.wipe σ [j]) H' fun σ2 H2 => L2.wipe σ2 [j] = L2.wipe σ [j] ∧ tYes σ2 H2 fun b H3 =>
        if b = true then tCall (SpS n) [] E (tCons (tVar j) tNil) σ2 H3 fun y H4 => ∃ acc, H4 D = some (.lst acc) ∧ acc.length < sizeLine ∧ Nx (L2.upd H4 D (.lst (acc ++ [y]))) else Nx H3) := by
  have hlen := tr.len
  have nF : F D = none := none_of s.fh nD
  have DL : D ∉ L := fun z => tr.live D z nD
  have fp0 : ∀ (k : Nat) (x : Slot), (wipeR ρ [j])[k]? = some x → D ∉ x.fp := fun k x e => wipeR_fp (fun k x e => s.nofp nD k x e) e
  refine ⟨fun i m H' => m = xs.length - i ∧ i ≤ xs.length ∧ ∃ G' M, Sta F G0 G' H' (L2.wipe σ [j]) (wipeR ρ [j]) ∧ Same G G' ∧ H' D = some (.lst (List.replicate i (.bl true))) ∧ G' D = none ∧ TrA G' H' (xs.drop i) (ds.drop i) M ∧ (∀ b ∈ M, b ∈ L) ∧ (∀ b ∈ M, G' b = none),
    ⟨xs.length, by omega, Nat.zero_le _, G, L, (s.laid nD).wipe [j], Same.refl G, upd_same, none_of s.gh nD, ?_, fun _ h => h, fun b hb => (nL b hb).2⟩, ?_⟩
  · exact tr.mono (Same.refl G) fun a ha => upd_ne fun z => DL (by rw [← z]; exact ha)
  rintro i m H1 ⟨rfl, hi, G1, M, s1, g1, hD, nG1, tr1, sub, nM⟩
  obtain ⟨w1, w2⟩ := hJ G1 H1 s1 g1
  by_cases hlt : i < xs.length
  · have hlt2 : i < ds.length := by omega
    rw [List.drop_eq_getElem_cons hlt, List.drop_eq_getElem_cons hlt2] at tr1
    cases tr1 with
    | @cons _ _ _ _ L1 M1 t1 t2 dis =>
      obtain ⟨v1, v2⟩ := w2 i _ (List.getElem?_eq_getElem hlt)
      refine .inr ⟨v1, fun H2 => ∃ G' M, Sta F G0 G' H2 (L2.wipe σ [j]) (wipeR ρ [j]) ∧ Same G G' ∧ H2 D = some (.lst (List.replicate (i + 1) (.bl true))) ∧ G' D = none ∧ TrA G' H2 (xs.drop (i + 1)) (ds.drop (i + 1)) M ∧ (∀ b ∈ M, b ∈ L) ∧ (∀ b ∈ M, G' b = none),
        fun H2 q => ⟨xs.length - (i + 1), by omega, rfl, hlt, q⟩, fun x H2 y => ?_⟩
      obtain ⟨rfl, rfl⟩ := v2 x H2 y
      obtain ⟨c1, c2⟩ := hc ds[i] (List.getElem_mem hlt2)
      have D1 : D ∉ L1 := fun z => DL (sub D (List.mem_append_left _ z))
      refine ⟨by simp [L2.wipe], ?_⟩
      show tCall (SpS n) [] E (tCons (tVar j) tNil) _ H2 _
      refine ⟨xs[i], by simp [L2.wipe, hj], G1, xs[i], ds[i], L1, rfl, s1.gh, t1, fun a ha => nM a (List.mem_append_left _ ha), c1, c2, fun G2 H3 w => ?_⟩
      have nL1 : ∀ a ∈ L1, F a = none ∧ G1 a = none := fun a ha => ⟨(nL a (sub a (List.mem_append_left _ ha))).1, nM a (List.mem_append_left _ ha)⟩
      have ap1 : ∀ (k : Nat) (x : Slot), (wipeR ρ [j])[k]? = some x → ∀ a ∈ x.fp, a ∉ L1 := fun k x e a hx ha => wipeR_fp (a := a) (fun k x e hx => ap k x e a hx (sub a (List.mem_append_left _ ha))) e hx
      have s3 := s1.growL w nL1 ap1
      have nG2 : G2 D = none := by
        cases z : G2 D with
        | none => rfl
        | some u => rw [w.new D u D1 z (by rw [hD]; simp)] at nG1; cases nG1
      have hD3 : H3 D = some (.lst (List.replicate i (.bl true))) := w.h D _ D1 hD
      refine ⟨List.replicate i (.bl true), hD3, by rw [List.length_replicate]; exact szs (by omega), G2, M1, s3.put nF nG2 fp0, g1.trans w.g, ?_, nG2, ?_, fun b hb => sub b (List.mem_append_right _ hb), fun b hb => ?_⟩
      · rw [upd_same, List.replicate_succ']
      · refine t2.mono w.g fun a ha => ?_
        have na : a ∉ L1 := fun z => dis a z ha
        rw [upd_ne fun z => DL (by rw [← z]; exact sub a (List.mem_append_right _ ha))]
        cases z : H2 a with
        | none => exact absurd z (t2.live a ha)
        | some u => exact w.h a u na z
      · have nb : b ∉ L1 := fun z => dis b z hb
        cases z : G2 b with
        | none => rfl
        | some u =>
          have := nM b (List.mem_append_right _ hb)
          rw [w.new b u nb z (t2.live b hb)] at this
          cases this
  · have e : i = xs.length := by omega
    subst e
    refine .inl ⟨w1, fin G1 H1 (s1.merge s g1) g1 (by rw [← hlen]; exact hD) nG1 fun k x e => mergeR_fp (fun k x e => fp0 k x e) e⟩
end
section
variable {ρ : Rho} {K : PySem.W.Frag} {i j n : Nat} {E : XK} {L : List Addr} {ds : List PyData} {Φ : List PyData → Rho → Prop}
theorem own_at {F G0 G H : Hp} {σ : L2.St} {d : PyData} (s : Sta F G0 G H σ ρ) (h : ρ[i]? = some (.res (own L d))) : ∃ v, σ[i]? = some (some v) ∧ Tr G H v d L ∧ (∀ a ∈ L, F a = none ∧ G a = none) ∧ ∀ (k : Nat) (x : Slot), (ρ.set i .any)[k]? = some x → ∀ a ∈ x.fp, a ∉ L := by
  obtain ⟨v, e, r, n⟩ := s.getR h
  refine ⟨v, e, r, fun a ha => ⟨(n a ha).1, (n a ha).2.1⟩, fun k x ek a hx ha => ?_⟩
  have hi : i < ρ.length := (List.getElem?_eq_some_iff.mp h).1
  by_cases hj : i = k
  · subst hj
    rw [List.getElem?_set_self hi] at ek
    cases ek
    cases hx
  · rw [List.getElem?_set_ne hj] at ek
    rcases Nat.lt_or_ge i k with hl | hl
    · exact s.apart i k _ _ hl h ek a ha hx
    · exact s.apart k i _ _ (by omega) ek h a hx ha
theorem wn_spoilT (h : ρ[i]? = some (.res (own L (.tuple ds)))) (hj : j < ρ.length) (hc : ∀ d ∈ ds, clean d = true ∧ d.depth < n) (hl : ds.length < 100000) (q : Φ (List.replicate ds.length (.bool true)) (mergeR (ρ.set i .any) (wipeR (ρ.set i .any) [j]) [j])) :
    Wn (tLc (iTup K (tVar i)) (gName j) tYes (tCall (SpS n) [] E (tCons (tVar j) tNil)) [j]) ρ Φ := fun F G0 G H σ s Q k => by
  obtain ⟨v, e, r, nL, ap⟩ := own_at s h
  cases r with
  | flt r f => cases f
  | @tup a xs _ _ h1 h2 =>
    refine ⟨_, e, a, rfl, ⟨xs, .inl (.inl (s.gh _ _ h1))⟩, fun D nD => ?_⟩
    refine spoil_loop (s.forget i) (by rw [s.len]; exact hj) h2 nL ap (fun G' H' s' g' => ?_) hc hl nD fun G' H' s' g' hD nG fp => k D _ _ _ G' H' s' g' hD rpa_rep (none_of s.fh nD) nG fp q
    have hq : SqT K H' a xs := .inl (.inl (s'.gh _ _ (g' _ _ h1)))
    refine ⟨⟨xs, hq, Nat.le_refl _⟩, fun k x ex => ⟨⟨xs, x, hq, ex⟩, fun y H'' z => ?_⟩⟩
    obtain ⟨eH, z⟩ := z
    have z1 := z xs hq
    rw [ex] at z1
    exact ⟨eH, (Option.some.inj z1).symm⟩
theorem wn_spoilL (h : ρ[i]? = some (.res (own L (.list ds)))) (hj : j < ρ.length) (hij : i ≠ j) (hc : ∀ d ∈ ds, clean d = true ∧ d.depth < n) (hl : ds.length < 100000) (q : ∀ a xs, xs.length = ds.length → Φ (List.replicate ds.length (.bool true)) (mergeR (ρ.set i (.res (rawX a xs))) (wipeR (ρ.set i (.res (rawX a xs))) [j]) [j])) :
    Wn (tLc (iList K (tVar i)) (gName j) tYes (tCall (SpS n) [] E (tCons (tVar j) tNil)) [j]) ρ Φ := fun F G0 G H σ s Q k => by
  obtain ⟨v, e, r, nL, ap⟩ := own_at s h
  have hi : i < ρ.length := (List.getElem?_eq_some_iff.mp h).1
  cases r with
  | flt r f => cases f
  | @lst a xs _ L' h1 h2 h3 =>
    refine ⟨_, e, a, rfl, ⟨xs, .inl (.inl h1)⟩, fun D nD => ?_⟩
    have nA := nL a List.mem_cons_self
    have s1 : Sta F G0 G H σ (ρ.set i (.res (rawX a xs))) := by
      have s0 := (s.forget i).setR (i := i) (v := .ref a) (r := rawX a xs) ⟨rfl, h1⟩ (fun b hb => by
        have e' : b = a := List.mem_singleton.mp hb
        subst e'
        exact ⟨nA.1, nA.2, by rw [h1]; simp⟩) (fun k x _ ek b hb hb2 => ap k x ek b hb (by
          rw [show b = a from List.mem_singleton.mp hb2]
          exact List.mem_cons_self))
      have eσ : σ.set i (some (.ref a)) = σ := by
        have hl : i < σ.length := by rw [s.len]; exact hi
        have e2 := e
        rw [List.getElem?_eq_getElem hl] at e2
        rw [← Option.some.inj e2]
        exact List.set_getElem_self hl
      rw [eσ, List.set_set] at s0
      exact s0
    have ap1 : ∀ (k : Nat) (x : Slot), (ρ.set i (.res (rawX a xs)))[k]? = some x → ∀ b ∈ x.fp, b ∉ L' := fun k x ek b hx hb => by
      by_cases hk : i = k
      · subst hk
        rw [List.getElem?_set_self hi] at ek
        cases ek
        have e' : b = a := List.mem_singleton.mp hx
        exact h3 (e' ▸ hb)
      · rw [List.getElem?_set_ne hk] at ek
        exact ap k x (by rw [List.getElem?_set_ne hk]; exact ek) b hx (List.mem_cons_of_mem _ hb)
    refine spoil_loop s1 (by rw [s.len]; exact hj) h2 (fun b hb => nL b (List.mem_cons_of_mem _ hb)) ap1 (fun G' H' s' g' => ?_) hc hl nD fun G' H' s' g' hD nG fp => k D _ _ _ G' H' s' g' hD rpa_rep (none_of s.fh nD) nG fp (q a xs h2.len)
    have hs : (wipeR (ρ.set i (.res (rawX a xs))) [j])[i]? = some (.res (rawX a xs)) := by
      show ((ρ.set i (.res (rawX a xs))).set j .any)[i]? = _
      rw [List.getElem?_set_ne (fun z => hij z.symm), List.getElem?_set_self hi]
    obtain ⟨v', e', ⟨_, hx⟩, _⟩ := s'.getR hs
    have hq : SqL K H' a xs := .inl (.inl hx)
    refine ⟨⟨xs, hq, Nat.le_refl _⟩, fun k x ex => ⟨⟨xs, x, hq, ex⟩, fun y H'' z => ?_⟩⟩
    obtain ⟨eH, z⟩ := z
    have z1 := z xs hq
    rw [ex] at z1
    exact ⟨eH, (Option.some.inj z1).symm⟩
/-- a list that was walked gets one more item, and is forgotten -/
theorem q_appX {F G0 : Hp} {te : TE} {nx bk ct : Rho → Prop} {rt : PyData → Rho → Prop} {a : Addr} {xs : List V} (h0 : ρ[i]? = some (.res (rawX a xs))) (hx : xs.length < 100000) (h : We te ρ fun _ ρ1 => ρ1 = ρ ∧ nx (ρ.set i .any)) : Ws F G0 (tDrop (tBM K "list" rAppend (tVar i) (tCons te tNil))) ρ ⟨nx, rt, bk, ct⟩ := fun G H σ s D q1 q2 q3 q4 => by
  obtain ⟨v, e, ⟨rfl, hp0⟩, _⟩ := s.getR h0
  refine ⟨_, e, .inl ⟨rfl, xs, .inl (.inl hp0)⟩, h F G0 G H σ s _ fun u d ρ1 G1 H1 s1 g1 r1 ⟨e1, k2⟩ => ?_⟩
  subst e1
  obtain ⟨v1, e1, ⟨rfl, hp⟩, n⟩ := s1.getR h0
  obtain ⟨nF, nG, _⟩ := n a List.mem_cons_self
  have hi : i < ρ1.length := (List.getElem?_eq_some_iff.mp h0).1
  refine ⟨a, xs, u, rfl, rfl, hp, szs hx, q1 _ _ G1 _ ((s1.forget i).put nF nG fun k x ek hx => ?_) g1 k2⟩
  by_cases hk : i = k
  · subst hk
    rw [List.getElem?_set_self hi] at ek
    cases ek
    cases hx
  · rw [List.getElem?_set_ne hk] at ek
    rcases Nat.lt_or_ge i k with hl | hl
    · exact s1.apart i k _ _ hl h0 ek a List.mem_cons_self hx
    · exact s1.apart k i _ _ (by omega) ek h0 a hx List.mem_cons_self
/-- the call -/
theorem we_spoilt {d : PyData} {Φ : PyData → Rho → Prop} (h : ρ[i]? = some (.res (own L d))) (hc : clean d = true) (hd : d.depth < n) (q : Φ (.bool true) (ρ.set i .any)) : We (tCall (SpS n) [] E (tCons (tVar i) tNil)) ρ Φ := fun F G0 G H σ s Q k => by
  obtain ⟨v, e, r, nL, ap⟩ := own_at s h
  exact ⟨v, e, G, v, d, L, rfl, s.gh, r, fun a ha => (nL a ha).2, hc, hd, fun G' H' w => k _ _ _ G' H' ((s.forget i).growL w nL ap) w.g (.bl true) q⟩
theorem fn_s {t : TS} {N : List Str} (hN : 1 ≤ N.length) (h : ∀ F G0 L d, clean d = true → d.depth < n → Ws F G0 t (slotsZ N.length (own L d) []) { nx := fun _ => False, rt := fun d' _ => d' = .bool true }) {vs : List V} {H : Hp} {Q : VK} {E : XK} (hs : SpS n vs H Q E) : t { nx := fun _ H' => Q .non H', rt := Q } (L2.start N vs) H := by
  obtain ⟨G, v, d, L, rfl, s, r, nL, hc, hd, k⟩ := hs
  have st : Sta (delM H L) G G H (L2.start N [v]) (slotsZ N.length (own L d) []) := by
    refine ⟨fun a o e => ?_, s, Same.refl G, fun a o e _ => e, ?_, fun i x e => ?_, fun i j x y hij e1 e2 a ha hb => ?_⟩
    · by_cases ha : a ∈ L
      · rw [delM_in ha] at e
        cases e
      · rw [delM_out ha] at e
        exact e
    · unfold L2.start slotsZ slots0
      simp
    · cases i with
      | zero =>
        simp only [slotsZ, List.getElem?_cons_zero, Option.some.injEq] at e
        subst e
        exact ⟨v, rfl, r, fun a ha => ⟨delM_in ha, nL a ha, r.live a ha⟩⟩
      | succ i =>
        simp only [slotsZ, List.getElem?_cons_succ] at e
        rcases slots0_get e with ⟨d, rfl, h⟩ | rfl
        · cases h
        · trivial
    · cases j with
      | zero => omega
      | succ j =>
        simp only [slotsZ, List.getElem?_cons_succ] at e2
        rcases slots0_get e2 with ⟨d, rfl, h⟩ | rfl
        · cases hb
        · cases hb
  refine h _ G L d hc hd G H _ st _ (fun _ _ _ _ _ _ z => z.elim) (fun v d' σ' ρ' G' H' s' g r' q => ?_) (fun _ _ _ _ _ _ z => z.elim) (fun _ _ _ _ _ _ z => z.elim)
  subst q
  cases r'
  refine k G' H' ⟨g, fun a o ha e => s'.fh a o (by rw [delM_out ha]; exact e), s'.gh, fun a o ha e n => s'.new a o e (by rw [delM_out ha]; exact n)⟩
end
end Dv

namespace Dv
open PySem L2 Zx
theorem RpA.of_getI {H : Hp} : ∀ {vs : List V} {ds : List PyData}, vs.length = ds.length → (∀ (i : Nat) v d, vs[i]? = some v → ds[i]? = some d → Rp H v d) → RpA H vs ds
  | [], [], _, _ => .nil
  | v :: vs, d :: ds, hl, h => .cons (h 0 v d rfl rfl) (RpA.of_getI (by simpa using hl) fun i v d e1 e2 => h (i + 1) v d (by simpa using e1) (by simpa using e2))
/-- what can be zipped -/
def SeqD (x : PyData) (xs : List PyData) : Prop := x = .list xs ∨ x = .tuple xs ∨ ∃ z, x = .str z ∧ z.length ≤ 100000 ∧ xs = signs z
theorem rpa_signs {G : Hp} {z : Str} : RpA G (signV z) (signs z) := by
  unfold signV signs
  induction z.cps.toList with
  | nil => exact .nil
  | cons c r ih => exact .cons (.str _) ih
theorem seq_src {K : PySem.W.Frag} {G H : Hp} {v : V} {x : PyData} {xs : List PyData} (s : Same G H) (r : Rp G v x) (h : SeqD x xs) : ∃ vs, Src K H v vs ∧ RpA G vs xs ∧ ∀ z, v = .str z → z.cps.size ≤ sizeLine := by
  rcases h with rfl | rfl | ⟨z, rfl, hz, rfl⟩
  · cases r with
    | lst h1 h2 => exact ⟨_, .inl ⟨_, rfl, .inl (.inl (s _ _ h1))⟩, h2, fun z e => nomatch e⟩
  · cases r with
    | tup h1 h2 => exact ⟨_, .inr (.inl ⟨_, rfl, .inl (.inl (s _ _ h1))⟩), h2, fun z e => nomatch e⟩
  · cases r
    refine ⟨_, .inr (.inr ⟨z, rfl, rfl⟩), rpa_signs, fun z' e => ?_⟩
    cases e
    exact szl hz
section
variable {te ta tb tc : TE} {tt tu : TT} {tas : TA} {ρ : Rho} {K : PySem.W.Frag} {g tg tg1 : TG} {wi wi1 : TI} {Φ : PyData → Rho → Prop}
/-- list(zip(a, b)) -/
theorem wn_listZp {Φ : List PyData → Rho → Prop} (h : Wa tas ρ fun ds ρ1 => ∃ x y xs ys, ds = [x, y] ∧ SeqD x xs ∧ SeqD y ys ∧ Φ (pairs xs ys) ρ1) : Wn (tLstZp (tZp K tas)) ρ Φ := fun F G0 G H σ s Q k =>
  h F G0 G H σ s _ fun vs ds ρ1 G1 H1 s1 g1 r1 ⟨x, y, xs, ys, e, h1, h2, q⟩ => by
    subst e
    cases r1 with
    | cons ra rb =>
      cases rb with
      | cons rb rc =>
        cases rc
        obtain ⟨us, c1, c2, c3⟩ := seq_src (K := K) s1.gh ra h1
        obtain ⟨ws, d1, d2, d3⟩ := seq_src (K := K) s1.gh rb h2
        refine ⟨_, _, us, ws, rfl, c1, d1, c3, d3, fun D H' Ts ext nD hD hl hp hT => ?_⟩
        have nT : ∀ a ∈ Ts, G1 a = none := fun a ha => none_of s1.gh (hT a ha)
        have gr : Grow G1 H1 (frz G1 H' Ts) H' := ⟨frz_same nT, ext, frz_le (s1.gh.trans ext), fun a o e n => by
          by_cases ha : a ∈ Ts
          · exact absurd (hT a ha) n
          · rw [frz_out ha] at e
            exact e⟩
        have l1 := c2.len
        have l2 := d2.len
        have nDT : D ∉ Ts := fun hm => by
          obtain ⟨j, hj, e⟩ := List.getElem_of_mem hm
          exact (hp j D (by rw [List.getElem?_eq_getElem hj, e])).1 rfl
        refine k D (Ts.map V.ref) (pairs xs ys) ρ1 _ H' (s1.grow gr) (g1.trans gr.g) hD (RpA.of_getI ?_ fun i v d e1 e2 => ?_) (none_of s1.fh nD) (by rw [frz_out nDT]; exact none_of s1.gh nD) (s1.nofp nD) q
        · rw [List.length_map, hl]
          simp [pairs]
          omega
        · rw [List.getElem?_map] at e1
          cases eT : Ts[i]? with
          | none => rw [eT] at e1; cases e1
          | some T =>
            rw [eT] at e1
            obtain rfl := (Option.some.inj e1).symm
            obtain ⟨_, u, w, e3, e4, e5⟩ := hp i T eT
            obtain ⟨du, e6, r6⟩ := c2.getV e3
            obtain ⟨dw, e7, r7⟩ := d2.getV e4
            unfold pairs at e2
            rw [List.getElem?_zipWith, e6, e7] at e2
            obtain rfl := (Option.some.inj e2).symm
            have hm : T ∈ Ts := List.mem_of_getElem? eT
            exact .tup (by rw [frz_in hm]; exact e5) (.cons (r6.mono gr.g) (.cons (r7.mono gr.g) .nil))
/-- enumerate(zip(text, text)) -/
theorem wi_enumZip {Φ : List PyData → Rho → Prop} (h : Wa tas ρ fun ds ρ1 => ∃ a b, ds = [.str a, .str b] ∧ Φ (enumd (pairs (signs a) (signs b))) ρ1) : Wi (iEnumZip tas) ρ Φ := fun F G0 G H σ s R k =>
  h F G0 G H σ s _ fun vs ds ρ1 G1 H1 s1 g1 r1 ⟨a, b, e, q⟩ => by
    subst e
    cases r1 with
    | cons ra rb =>
      cases rb with
      | cons rb rc =>
        cases rc
        cases ra
        cases rb
        refine ⟨a, b, rfl, k _ _ ρ1 G1 H1 s1 g1 (fun G2 H2 s2 s3 => ?_) q⟩
        have la : (signV a).length = (signs a).length := by simp [signV, signs]
        have lb : (signV b).length = (signs b).length := by simp [signV, signs]
        have hl : (enumd (pairs (signs a) (signs b))).length = min (signs a).length (signs b).length := by simp [enumd, pairs, inz_len]
        refine ⟨?_, fun i d e => ?_⟩
        · rw [hl]
          show _ = _ ∧ _ ≤ _ ∨ _ = _ ∧ _ ≤ _
          omega
        · have hi : i < min (signs a).length (signs b).length := by
            rw [← hl]
            exact (List.getElem?_eq_some_iff.mp e).1
          refine ⟨⟨by omega, by omega⟩, fun v H' y => ?_⟩
          obtain ⟨T, U, x, y', rfl, nT, nU, hUT, rfl, e1, e2⟩ := y
          have r1 : RpA G2 (signV a) (signs a) := rpa_signs
          have r2 : RpA G2 (signV b) (signs b) := rpa_signs
          obtain ⟨dx, e3, r3⟩ := r1.getV e1
          obtain ⟨dy, e4, r4⟩ := r2.getV e2
          have ed : d = .tuple [.int (i : Int), .tuple [dx, dy]] := by
            unfold enumd at e
            rw [List.getElem?_zipWith] at e
            have hp : (pairs (signs a) (signs b))[i]? = some (.tuple [dx, dy]) := by
              unfold pairs
              rw [List.getElem?_zipWith, e3, e4]
            have hz : (inz 0 (pairs (signs a) (signs b)).length)[i]? = some (.int (i : Int)) := by
              unfold inz
              rw [List.getElem?_map, List.getElem?_range (by simp [pairs]; omega)]
              simp
            rw [hp, hz] at e
            exact (Option.some.inj e).symm
          subst ed
          obtain ⟨gr1, rT⟩ := grow_pair s3 nT r3 r4
          have nU' : L2.upd H2 T (.tup [x, y']) U = none := by rw [upd_ne hUT]; exact nU
          obtain ⟨gr2, rU⟩ := grow_pair (x := .int (i : Nat)) (y := .ref T) gr1.gh nU' (.int _) rT
          exact ⟨_, gr1.trans gr2, rU⟩
theorem rpa_pick {H : Hp} {vs : List V} {ds : List PyData} (h : RpA H vs ds) (lo hi st : Option Int) : RpA H (pick vs lo hi st) (pick ds lo hi st) := by
  unfold pick
  rw [h.len]
  exact rpa_pair (filterMap_rel (rpa_at h) _)
/-- xs[a:b:c] -/
theorem we_slSt {tl th ts : L2.TO} (h : We te ρ fun x ρ1 => Wo tl ρ1 fun lo ρ2 => Wo th ρ2 fun hi ρ3 => Wo ts ρ3 fun st ρ4 => ∃ ds c, x = .list ds ∧ st = some c ∧ c ≠ 0 ∧ (pick ds lo hi (some c)).length ≤ 100000 ∧ Φ (.list (pick ds lo hi (some c))) ρ4) : We (tSlS K te tl th ts) ρ Φ := fun F G0 G H σ s Q k =>
  h F G0 G H σ s _ fun v x ρ1 G1 H1 s1 g1 r1 p1 => p1 F G0 G1 H1 σ s1 _ fun lo ρ2 G2 H2 s2 g2 p2 => p2 F G0 G2 H2 σ s2 _ fun hi ρ3 G3 H3 s3 g3 p3 => p3 F G0 G3 H3 σ s3 _ fun st ρ4 G4 H4 s4 g4 ⟨ds, c, ex, es, hc, hl, q⟩ => by
    subst ex es
    cases r1 with
    | @lst a xs _ h1 h2 =>
      have m := (g2.trans g3).trans g4
      have rp := rpa_pick (h2.mono m) lo hi (some c)
      refine ⟨_, _, c, rfl, rfl, hc, .inl (.inl (s4.gh _ _ (m _ _ h1))), by rw [rp.len]; exact szl hl, fun p hp => ?_⟩
      have ng := none_of s4.gh hp
      exact k _ _ ρ4 (L2.upd G4 p (.lst (pick xs lo hi (some c)))) _ (s4.grow (.laid s4.gh hp)) ((g1.trans m).trans (same_upd ng)) (.lst upd_same (rp.mono (same_upd ng))) q
/-- s.ljust(n, sign) -/
theorem we_ljust (h : We ta ρ fun x ρ1 => ∃ z, x = .str z ∧ Wa tas ρ1 fun ds ρ2 => ∃ i f, ds = [.int i, .str f] ∧ PadOk i = true ∧ f.length = 1 ∧ Φ (.str (Txt.ljustF z i (f.cps.getD 0 0))) ρ2) : We (tBM K "str" rLjF ta tas) ρ Φ := fun F G0 G H σ s Q k =>
  h F G0 G H σ s _ fun v x ρ1 G1 H1 s1 g1 r1 ⟨z, e, p⟩ => by
    subst e
    cases r1
    refine ⟨rfl, p F G0 G1 H1 σ s1 _ fun vs ds ρ2 G2 H2 s2 g2 r2 ⟨i, f, e, hp, hf, q⟩ => ?_⟩
    subst e
    cases r2 with
    | cons ra rb =>
      cases rb with
      | cons rb rc =>
        cases rc
        cases ra
        cases rb
        exact ⟨z, f, i, rfl, rfl, hp, hf, k _ _ ρ2 G2 H2 s2 (g1.trans g2) (.str _) q⟩
theorem wipe_sub {σ : L2.St} {vs vs1 : List Nat} (h : ∀ k ∈ vs1, k ∈ vs) : L2.wipe (L2.wipe σ vs1) vs = L2.wipe σ vs := wipe_eq (wipe_length σ vs1) fun k hk => wipe_out fun z => hk (h k z)
/-- two walks in one comprehension, each item by itself -/
theorem wn_lc2 {α β : Type} {vs js vs1 js1 : List Nat} {Φ : List PyData → Rho → Prop} (hj : ∀ k ∈ js, k ∈ vs) (hj1 : ∀ k ∈ js1, k ∈ vs1) (hv : ∀ k ∈ vs1, k ∈ vs)
    (h : Wi wi ρ fun ds ρ1 => ∃ (zs : List α) (gz : α → PyData) (m : Nat) (ws : α → List β) (gw : α → β → PyData) (c : α → β → Bool) (f : α → β → PyData), ds = zs.map gz ∧ zs.length * m < 100000 ∧ (∀ a ∈ zs, (ws a).length ≤ m) ∧ mergeR ρ1 (wipeR ρ1 vs) vs = ρ1 ∧
      (∀ a, a ∈ zs → Wg tg js (gz a) (wipeR ρ1 vs) fun ρ2 => wipeR (wipeR ρ2 vs1) vs = wipeR ρ1 vs ∧ Wi wi1 ρ2 fun es ρ3 => ρ3 = ρ2 ∧ es = (ws a).map (gw a) ∧
        ∀ b, b ∈ ws a → Wg tg1 js1 (gw a b) (wipeR ρ2 vs1) fun ρ4 => wipeR ρ4 vs1 = wipeR ρ2 vs1 ∧ Wt tt ρ4 fun k ρ5 => ρ5 = ρ4 ∧ k = c a b ∧ (k = true → We te ρ4 fun y ρ6 => ρ6 = ρ4 ∧ y = f a b)) ∧
      Φ (zs.flatMap fun a => ((ws a).filter (c a)).map (f a)) ρ1) : Wn (tLc2 wi tg tYes wi1 tg1 tt te vs vs1) ρ Φ := fun F G0 G H σ s Q k =>
  h F G0 G H σ s _ fun J ds ρ1 G1 H1 s1 g1 wk ⟨zs, gz, m, ws, gw, c, f, hz, hlen, hws, hm, turn, fin⟩ => by
    intro D nD
    have nF : F D = none := none_of s1.fh nD
    have nG0 : G0 D = none := none_of s1.g0 (none_of s1.gh nD)
    have st0 : Sta F G0 G1 (L2.upd H1 D (.lst [])) (L2.wipe σ vs) (wipeR ρ1 vs) := (s1.laid nD).wipe vs
    have fp0 : ∀ (j : Nat) (x : Slot), (wipeR ρ1 vs)[j]? = some x → D ∉ x.fp := fun j x e => wipeR_fp (fun j x e => s1.nofp nD j x e) e
    have hds : ds.length = zs.length := by rw [hz, List.length_map]
    refine ⟨fun i n H' => n = zs.length - i ∧ i ≤ zs.length ∧ ∃ G' acc as, Sta F G0 G' H' (L2.wipe σ vs) (wipeR ρ1 vs) ∧ Same G1 G' ∧ H' D = some (.lst acc) ∧ RpA G' acc as ∧ G' D = none ∧ as = (zs.take i).flatMap (fun a => ((ws a).filter (c a)).map (f a)) ∧ as.length ≤ i * m,
      ⟨zs.length, by omega, Nat.zero_le _, G1, [], [], st0, Same.refl G1, upd_same, .nil, none_of s1.gh nD, rfl, by simp⟩, ?_⟩
    rintro i n H' ⟨rfl, hi, G', acc, as, s', g', hD, ra, nG, eas, hal⟩
    obtain ⟨w1, w2⟩ := wk G' H' g' s'.gh
    by_cases hlt : i < zs.length
    · have ed : ds[i]? = some (gz zs[i]) := by rw [hz, List.getElem?_map, List.getElem?_eq_getElem hlt]; rfl
      obtain ⟨v1, v2⟩ := w2 i _ ed
      have hmem : zs[i] ∈ zs := List.getElem_mem hlt
      generalize ea : zs[i] = a at hmem
      have et : zs.take (i + 1) = zs.take i ++ [a] := by rw [List.take_add_one, List.getElem?_eq_getElem hlt, ea]; rfl
      refine .inr ⟨v1, fun H2 => ∃ G2 acc as, Sta F G0 G2 H2 (L2.wipe σ vs) (wipeR ρ1 vs) ∧ Same G1 G2 ∧ H2 D = some (.lst acc) ∧ RpA G2 acc as ∧ G2 D = none ∧ as = (zs.take (i + 1)).flatMap (fun a => ((ws a).filter (c a)).map (f a)) ∧ as.length ≤ (i + 1) * m,
        fun H2 q => ⟨zs.length - (i + 1), by omega, rfl, hlt, q⟩, fun x H2 y => ?_⟩
      obtain ⟨G3, gr, rx⟩ := v2 x H2 y
      rw [ea] at rx
      have s3 := (s'.hold hD nF nG fp0).grow gr
      refine turn a hmem (L2.upd F D (.lst acc)) G0 G3 H2 (L2.wipe σ vs) x s3 rx _ fun σ4 ρ4 s4 e4 ⟨hw, p4⟩ => ?_
      have el : σ4.length = (L2.wipe σ vs).length := e4.1
      have ew : L2.wipe σ4 vs = L2.wipe σ vs := by
        rw [← wipe_wipe (σ := σ)]
        exact wipe_eq el fun k hk => e4.2 k fun z => hk (hj k z)
      refine ⟨ew, ?_⟩
      show wi1 σ4 H2 _
      refine p4 _ _ _ _ _ s4 _ fun J1 es ρ5 G5 H5 s5 g5 wk1 ⟨eρ, ees, turn1⟩ => ?_
      subst eρ ees
      obtain ⟨s6, hD6, nG6, fp6⟩ := s5.unhold nF nG0
      have fp7 : ∀ (j : Nat) (x : Slot), (wipeR ρ5 vs1)[j]? = some x → D ∉ x.fp := fun j x e => wipeR_fp fp6 e
      have hwa := hws a hmem
      refine ⟨fun j n H' => n = (ws a).length - j ∧ j ≤ (ws a).length ∧ ∃ G' acc' as', Sta F G0 G' H' (L2.wipe σ4 vs1) (wipeR ρ5 vs1) ∧ Same G5 G' ∧ H' D = some (.lst acc') ∧ RpA G' acc' as' ∧ G' D = none ∧ as' = as ++ (((ws a).take j).filter (c a)).map (f a) ∧ as'.length ≤ i * m + j,
        ⟨(ws a).length, by omega, Nat.zero_le _, G5, acc, as, s6.wipe vs1, Same.refl G5, hD6, ra.mono (gr.g.trans g5), nG6, by simp, by omega⟩, ?_⟩
      rintro j n H7 ⟨rfl, hjl, G7, acc', as', s7, g7, hD7, ra7, nG7, eas', hal'⟩
      obtain ⟨u1, u2⟩ := wk1 G7 H7 g7 s7.gh
      rw [List.length_map] at u1
      by_cases hlt1 : j < (ws a).length
      · have ed1 : ((ws a).map (gw a))[j]? = some (gw a (ws a)[j]) := by rw [List.getElem?_map, List.getElem?_eq_getElem hlt1]; rfl
        obtain ⟨y1, y2⟩ := u2 j _ ed1
        have hmem1 : (ws a)[j] ∈ ws a := List.getElem_mem hlt1
        generalize eb : (ws a)[j] = b at hmem1
        have et1 : (ws a).take (j + 1) = (ws a).take j ++ [b] := by rw [List.take_add_one, List.getElem?_eq_getElem hlt1, eb]; rfl
        refine .inr ⟨y1, fun H2 => ∃ G' acc' as', Sta F G0 G' H2 (L2.wipe σ4 vs1) (wipeR ρ5 vs1) ∧ Same G5 G' ∧ H2 D = some (.lst acc') ∧ RpA G' acc' as' ∧ G' D = none ∧ as' = as ++ (((ws a).take (j + 1)).filter (c a)).map (f a) ∧ as'.length ≤ i * m + (j + 1),
          fun H2 q => ⟨(ws a).length - (j + 1), by omega, rfl, hlt1, q⟩, fun x1 H8 y3 => ?_⟩
        obtain ⟨G8, gr8, rx8⟩ := y2 x1 H8 y3
        rw [eb] at rx8
        have s8 := (s7.hold hD7 nF nG7 fp7).grow gr8
        refine turn1 b hmem1 (L2.upd F D (.lst acc')) G0 G8 H8 (L2.wipe σ4 vs1) x1 s8 rx8 _ fun σ9 ρ9 s9 e9 ⟨hw9, p9⟩ => ?_
        have ew9 : L2.wipe σ9 vs1 = L2.wipe σ4 vs1 := by
          rw [← wipe_wipe (σ := σ4)]
          exact wipe_eq e9.1 fun k hk => e9.2 k fun z => hk (hj1 k z)
        refine ⟨ew9, p9 _ _ _ _ _ s9 _ fun kb ρ10 G10 H10 s10 g10 ⟨eρ10, ekb, p10⟩ => ?_⟩
        subst eρ10
        cases kb with
        | true =>
          show te σ9 H10 _
          refine p10 rfl _ _ _ _ _ s10 _ fun u y ρ11 G11 H11 s11 g11 r11 ⟨eρ11, ey⟩ => ?_
          subst eρ11 ey
          obtain ⟨s12, hD12, nG12, fp12⟩ := s11.unhold nF nG0
          have ra12 := ra7.mono ((gr8.g.trans g10).trans g11)
          have hi1 : i * m + j < zs.length * m := by
            have h1 : (i + 1) * m ≤ zs.length * m := Nat.mul_le_mul_right m hlt
            rw [Nat.succ_mul] at h1
            omega
          refine ⟨acc', hD12, by rw [ra12.len]; exact szs (by omega), G11, acc' ++ [u], as' ++ [f a b], ?_, ((g7.trans gr8.g).trans g10).trans g11, upd_same, ra12.app (.one r11), nG12, ?_, by rw [List.length_append]; exact Nat.succ_le_succ hal'⟩
          · rw [← ew9, ← hw9]
            exact (s12.put nF nG12 fp12).wipe vs1
          · rw [eas', et1, List.filter_append, List.map_append, List.append_assoc, List.filter_cons, ← ekb]
            rfl
        | false =>
          show ∃ _, _
          obtain ⟨s12, hD12, nG12, fp12⟩ := s10.unhold nF nG0
          refine ⟨G10, acc', as', ?_, (g7.trans gr8.g).trans g10, hD12, ra7.mono (gr8.g.trans g10), nG12, ?_, by omega⟩
          · rw [← ew9, ← hw9]
            exact s12.wipe vs1
          · rw [eas', et1, List.filter_append, List.map_append, List.filter_cons, ← ekb]
            simp
      · have e : j = (ws a).length := by omega
        subst e
        refine .inl ⟨u1, G7, acc', as', ?_, ((g'.trans gr.g).trans g5).trans g7, hD7, ra7, nG7, ?_, by rw [Nat.succ_mul]; omega⟩
        · rw [← ew, ← wipe_sub hv, ← hw]
          exact s7.wipe vs
        · rw [eas', eas, et, List.take_length, List.flatMap_append]
          simp
    · have e : i = zs.length := by omega
      subst e
      rw [hds] at w1
      refine .inl ⟨w1, k D acc as (mergeR ρ1 (wipeR ρ1 vs) vs) G' H' (s'.merge s1 g') (g1.trans g') hD ra nF nG (fun j x e => mergeR_fp fp0 e) ?_⟩
      rw [hm, eas, List.take_length]
      exact fin
end
end Dv

namespace Dv
open PySem L2 Zx PyProof.Rows PySem.Spec
/-! ### rules with the written part by its name -/
section
variable {X : Cx} {K : PySem.W.Frag} {e e2 o : Expr} {es : List Expr} {ta te : TE} {t : TA} {p p2 pos pos2 apos cpos tpos : Pos} {kk : Nat} {elts : List Expr}
theorem k_listZp (h : X.K = K) (hc : X.calm = true) (hg : Gl X "list") (hm : X.mg "list" = none) (hg2 : Gl X "zip") (hm2 : X.mg "zip" = none) (ha : PA X [e, e2] t) (hs : starEach [e, e2] X.env = (false, eval e X.env) :: starEach [e2] X.env := by rfl) (hpl : (backTo pos2 (starEach [e2] X.env)).any (·.1) = false := by rfl)
    (na : starEach [.Call (.Name "zip" p2) [e, e2] [] pos2] X.env = (false, eval (.Call (.Name "zip" p2) [e, e2] [] pos2) X.env) :: starEach [] X.env := by rfl) : PE X (.Call (.Name "list" p) [.Call (.Name "zip" p2) [e, e2] [] pos2] [] pos) (tLstZp (tZp K t)) := by
  subst h
  exact pe_listZp hc hg hm (pzp hg2 hm2 ha hs hpl) na
theorem k_slS (h : X.K = K) {st : Expr} {lo hi : Option Expr} {tl th ts : L2.TO} {p3 : Pos} (he : PE X e te) (hl : PO X lo tl) (hu : PO X hi th) (hst : PO X (some st) ts)
    (htail : ∀ (a b : Addr), subscripted (.Slice lo hi (some st) p3) false (.ref a) (.ref b) = operate [.ref a, .ref b] (getItem (.ref a) (.ref b)) := by intros; with_unfolding_all rfl) : PE X (.Subscript e (.Slice lo hi (some st) p3) pos) (tSlS K te tl th ts) := by
  subst h
  exact pe_slS he hl hu hst htail
theorem k_ljust (h : X.K = K) (ho : PE X o ta) (ha : PA X (e :: es) t)
    (hbase : attributeBase o "ljust" X.env (eval o X.env) = eval o X.env := by rfl)
    (hfew : ((backTo cpos (starEach (e :: es) X.env)).all (fun x => !x.1) && (backToKw cpos (keywordEach [] X.env)).all (fun x => x.1.isSome)
      && decide ((e :: es).length + ([] : List Keyword).length + (if ([] : List Keyword).isEmpty then 0 else 1) < 30)) = true := by rfl)
    (hline : (apos.endLine == cpos.line) = true := by rfl) (hs : starEach (e :: es) X.env = (false, eval e X.env) :: starEach es X.env := by rfl) (hplain : (backTo cpos (starEach es X.env)).any (·.1) = false := by rfl) :
    PE X (.Call (.Attribute o "ljust" apos) (e :: es) [] cpos) (tBM K "str" rLjF ta t) := by
  subst h
  exact pe_bm PySem.F.plainAttrs_str PySem.F.slot_str_ljust PySem.F.type_str_ljust mt_ljustF ho ha hbase hfew hline hs hplain
theorem k_sortedS (h : X.K = K) : CallR X (.builtin "sorted") (rSortedS K) := by subst h; exact cr_sortedS
theorem k_pzipA (h : X.K = K) (hg : Gl X "zip") (hm : X.mg "zip" = none) (ha : PA X [e, e2] t)
    (hs : starEach [e, e2] X.env = (false, eval e X.env) :: starEach [e2] X.env := by rfl) (hpl : (backTo pos (starEach [e2] X.env)).any (·.1) = false := by rfl) : PI X (.Tuple elts kk tpos) (.Call (.Name "zip" p) [e, e2] [] pos) (RZ.iZipA K t) := by
  subst h
  exact RZ.pi_zipA hg hm ha hs hpl
/-- xs[i] as what stands ahead of xs[i] += e -/
theorem k_pget (h : X.K = K) : PGet X (rIxL K) := by
  subst h
  intro pins s σ H x y v u Q I rx ry h
  obtain ⟨p, xs, i, z, rfl, rfl, hq, he, q⟩ := h
  cases rx
  obtain ⟨t, rfl⟩ := ry
  obtain ⟨its, r, pl, hz⟩ := I.list hq
  obtain ⟨j, h1, h2, h3, h4, h5⟩ := atI_get he
  obtain ⟨w, ew, rw'⟩ := r.get h2
  have hl := r.length
  have hn := line63
  by_cases h0 : 0 ≤ i
  · have hj : i.toNat = j := by
      rw [seqIndex_of h0 h5] at h1
      exact Option.some.inj h1
    exact wpAny_getItem_list pl.isList h0 (by omega) (by rw [hj]; simpa using ew) ⟨z, H, I, rw', q⟩
  · have hj : (i + (its.toArray.size : Int)).toNat = j := by
      rw [seqIndex_neg (by omega) h4] at h1
      rw [List.size_toArray, ← hl]
      exact Option.some.inj h1
    exact wpAny_getItem_list_neg pl.isList (by omega) (by rw [List.size_toArray] <;> omega) (by omega) (by rw [hj]; simpa using ew) ⟨z, H, I, rw', q⟩
end
/-! ### by values -/
section
variable {te ta ti ty : TE} {tas : TA} {ρ : Rho} {K : PySem.W.Frag} {Φ : PyData → Rho → Prop} {φ : List PyData → Prop} {i : Nat} {p : Addr} {tip : TIp} {nx bk ct : Rho → Prop} {rt : PyData → Rho → Prop}
/-- xs[i] += e -/
theorem q_augL {F G0 : Hp} {ds0 : List PyData} (h0 : ρ[i]? = some (.res (lst p ds0))) (h : We ti ρ fun k ρ1 => ∃ ds n x, ρ1[i]? = some (.res (lst p ds)) ∧ k = .int n ∧ atI ds n = some x ∧ flat x = true ∧ We te ρ1 fun y ρ2 => Op2 tip x y fun z => ∃ ds2 j, ρ2[i]? = some (.res (lst p ds2)) ∧ ixN ds2.length n = some j ∧ nx (ρ2.set i (.res (lst p (ds2.set j z))))) :
    Ws F G0 (tAugS (tVar i) ti te (rIxL K) tip rSetL) ρ ⟨nx, rt, bk, ct⟩ := fun G H σ s D q1 q2 q3 q4 => by
  obtain ⟨v, e, ⟨rfl, _⟩, _⟩ := s.getR h0
  refine ⟨_, e, h F G0 G H σ s _ fun u k ρ1 G1 H1 s1 g1 r1 ⟨ds, n, x, k1, ek, ex, hf, hy⟩ => ?_⟩
  subst ek
  cases r1
  obtain ⟨v1, e1, ⟨rfl, xs, _, hp, ra, rfl⟩, _⟩ := s1.getR k1
  obtain ⟨w, ew, rw'⟩ := ra.atI ex
  refine ⟨p, xs, n, w, rfl, rfl, .inl (.inl hp), ew, hy F G0 G1 H1 σ s1 _ fun u2 y ρ2 G2 H2 s2 g2 r2 op => ?_⟩
  refine op G2 H2 w u2 s2.gh (rw'.flat hf) r2 _ fun z dz G3 H3 gr rz ⟨ds2, j, k2, ej, q⟩ => ?_
  have s3 := s2.grow gr
  obtain ⟨v2, e2, ⟨_, ys, _, hp2, ra2, rfl⟩, _⟩ := s3.getR k2
  exact ⟨p, ys, n, j, rfl, rfl, hp2, by rw [ra2.len]; exact ej, q1 _ _ G3 _ (s3.upd k2 (P' := fun x => x = List.set _ j dz) (ra2.set rz j) rfl) ((g1.trans g2).trans gr.g) q⟩
theorem tPairs_c {σ : L2.St} {Q : List (V × V) → Hp → Prop} : ∀ (kv : List (Str × Str)) (H : Hp), Q (kv.map fun p => (V.str p.1, V.str p.2)) H → tPairs (kv.map fun p => (tC (.str p.1), tC (.str p.2))) σ H Q
  | [], H, q => q
  | a :: kv, H, q => tPairs_c (Q := fun ps H3 => Q ((V.str a.1, V.str a.2) :: ps) H3) kv H q
def lookS : List (Str × Str) → Str → Option Str
  | [], _ => none
  | p :: r, k => if p.1 = k then some p.2 else lookS r k
theorem valV_S {k v : Str} : ∀ {kv : List (Str × Str)}, lookS kv k = some v → valV (kv.map fun p => ((.inr p.1 : Key), V.str p.2)) (.inr k) = some (.str v)
  | [], h => by cases h
  | p :: r, h => by
    unfold lookS at h
    rw [List.map_cons]
    by_cases e : p.1 = k
    · rw [if_pos e] at h
      rw [valV_pos (by rw [e])]
      rw [Option.some.inj h]
    · rw [if_neg e] at h
      rw [valV_neg (fun z => e (Sum.inr.inj z))]
      exact valV_S h
/-- {text: text, ..}[e] -/
theorem we_dispS {kv : List (Str × Str)} (hm : mergeK [] (kv.map fun p => ((.inr p.1 : Key), V.str p.2)) = kv.map fun p => ((.inr p.1 : Key), V.str p.2)) (hl : kv.length ≤ 15)
    (h : We ty ρ fun y ρ1 => ∃ k v, y = .str k ∧ lookS kv k = some v ∧ Φ (.str v) ρ1) : We (tDGet (tDisp (kv.map fun p => (tC (.str p.1), tC (.str p.2)))) ty) ρ Φ := fun F G0 G H σ s Q k => by
  intro p hp
  refine tPairs_c kv _ ⟨upd_same, kv.map fun p => ((.inr p.1 : Key), V.str p.2), by rw [List.map_map]; rfl, by rw [List.length_map]; exact hl, ?_⟩
  rw [upd_upd, hm]
  have gr : Grow G H (L2.upd G p (.dK (kv.map fun p => ((.inr p.1 : Key), V.str p.2)))) (L2.upd H p (.dK (kv.map fun p => ((.inr p.1 : Key), V.str p.2)))) := .laid s.gh hp
  refine h F G0 _ _ σ (s.grow gr) _ fun u y ρ1 G1 H1 s1 g1 r1 ⟨kx, v, ey, ev, q⟩ => ?_
  subst ey
  cases r1
  exact ⟨p, .str v, rfl, .inl ⟨_, .inr kx, .inl (s1.gh _ _ (g1 _ _ upd_same)), rfl, (valV_S ev).symm⟩, k _ _ ρ1 G1 H1 s1 (gr.g.trans g1) (.str _) q⟩
/-- sorted texts -/
theorem opn_sortedS {ss : List Str} (hl : ss.length < 64) (q : ∀ ys : List Str, ys.Perm ss → sortedS ys = true → φ (ys.map .str)) : OpN (rSortedS K) [.list (ss.map .str)] φ := fun G H vs s r Q k => by
  cases r with
  | cons r1 r2 =>
    cases r2
    cases r1 with
    | lst h1 h2 =>
      have e : ∀ {ss : List Str} {xs : List V}, RpA G xs (ss.map PyData.str) → xs = ss.map V.str := by
        intro ss
        induction ss with
        | nil => intro xs h; cases h; rfl
        | cons a ss ih =>
          intro xs h
          cases h with
          | cons ra rb =>
            cases ra
            rw [ih rb]
            rfl
      obtain rfl := e h2
      exact ⟨_, ss, rfl, .inl (.inl (s _ _ h1)), hl, fun ys p hp hs hn => k p (ys.map V.str) (ys.map .str) G H (.refl s) hn (RpA.of_map (fun x => .str x) ys) (q ys hp hs)⟩
/-- zip of two lists or of two tuples -/
theorem wi_zipA {Ψ : List PyData → Rho → Prop} (h : Wa tas ρ fun vs ρ1 => ∃ ds es, (vs = [.list ds, .list es] ∨ vs = [.tuple ds, .tuple es]) ∧ Ψ (pairs ds es) ρ1) : Wi (RZ.iZipA K tas) ρ Ψ := fun F G0 G H σ s R k =>
  h F G0 G H σ s _ fun vs ls ρ1 G1 H1 s1 g1 r1 ⟨ds, es, e, q⟩ => by
    have turn : ∀ {xs ys : List V} {G2 H2 : Hp} {i : Nat} {d : PyData}, RpA G1 xs ds → RpA G1 ys es → Same G1 G2 → Same G2 H2 → (pairs ds es)[i]? = some d → ∃ v u da db, xs[i]? = some v ∧ ys[i]? = some u ∧ Rp G2 v da ∧ Rp G2 u db ∧ d = .tuple [da, db] := by
      intro xs ys G2 H2 i d h2 h4 s2 s3 e
      unfold pairs at e
      rw [List.getElem?_zipWith] at e
      cases qa : ds[i]? with
      | none => rw [qa] at e; cases e
      | some da =>
        cases qb : es[i]? with
        | none => rw [qa, qb] at e; cases e
        | some db =>
          rw [qa, qb] at e
          obtain rfl := (Option.some.inj e).symm
          obtain ⟨v, ev, rv⟩ := h2.get qa
          obtain ⟨u, eu, ru⟩ := h4.get qb
          exact ⟨v, u, da, db, ev, eu, rv.mono s2, ru.mono s2, rfl⟩
    rcases e with e | e
    · subst e
      cases r1 with
      | cons ra rb =>
        cases rb with
        | cons rb rc =>
          cases rc
          cases ra with
          | lst h1 h2 =>
            cases rb with
            | lst h3 h4 =>
              rename_i a xs b ys
              refine ⟨a, b, xs, ys, rfl, .inl ⟨.inl (.inl (s1.gh _ _ h1)), .inl (.inl (s1.gh _ _ h3)), k _ _ ρ1 G1 H1 s1 g1 (fun G2 H2 s2 s3 => ?_) q⟩⟩
              have hq : SqL K H2 a xs := .inl (.inl (s3 _ _ (s2 _ _ h1)))
              have hq' : SqL K H2 b ys := .inl (.inl (s3 _ _ (s2 _ _ h3)))
              have e1 := h2.len
              have e2 := h4.len
              refine ⟨⟨xs, ys, hq, hq', by simp [pairs]; omega⟩, fun i d e => ?_⟩
              obtain ⟨v, u, da, db, ev, eu, rv, ru, rfl⟩ := turn h2 h4 s2 s3 e
              refine ⟨⟨xs, ys, v, u, hq, hq', ev, eu⟩, fun x H' y => ?_⟩
              obtain ⟨T, x1, x2, rfl, nT, rfl, f1, f2⟩ := y
              have z1 := f1 _ hq
              have z2 := f2 _ hq'
              rw [ev] at z1
              rw [eu] at z2
              cases z1
              cases z2
              exact ⟨_, grow_pair s3 nT rv ru⟩
    · subst e
      cases r1 with
      | cons ra rb =>
        cases rb with
        | cons rb rc =>
          cases rc
          cases ra with
          | tup h1 h2 =>
            cases rb with
            | tup h3 h4 =>
              rename_i a xs b ys
              refine ⟨a, b, xs, ys, rfl, .inr ⟨.inl (.inl (s1.gh _ _ h1)), .inl (.inl (s1.gh _ _ h3)), k _ _ ρ1 G1 H1 s1 g1 (fun G2 H2 s2 s3 => ?_) q⟩⟩
              have hq : SqT K H2 a xs := .inl (.inl (s3 _ _ (s2 _ _ h1)))
              have hq' : SqT K H2 b ys := .inl (.inl (s3 _ _ (s2 _ _ h3)))
              have e1 := h2.len
              have e2 := h4.len
              refine ⟨⟨xs, ys, hq, hq', by simp [pairs]; omega⟩, fun i d e => ?_⟩
              obtain ⟨v, u, da, db, ev, eu, rv, ru, rfl⟩ := turn h2 h4 s2 s3 e
              refine ⟨⟨xs, ys, v, u, hq, hq', ev, eu⟩, fun x H' y => ?_⟩
              obtain ⟨T, x1, x2, rfl, nT, rfl, f1, f2⟩ := y
              have z1 := f1 _ hq
              have z2 := f2 _ hq'
              rw [ev] at z1
              rw [eu] at z2
              cases z1
              cases z2
              exact ⟨_, grow_pair s3 nT rv ru⟩
end
/-! ### defs with defaults that are all None -/
structure FunT (K : PySem.W.Frag) (x qual : Str) (st : Stmt) (its : List Value) (f : Addr) (fd : FuncData) : Prop where
  ex : ∃ (oc : Value) (od : Option Addr) (dT : Addr) (kV doc pm : Value) (an : Option Addr) (cdv ct : Value) (osl : Array (Option Value)),
    fd = PySem.W.fnOf x qual (defArgs st) (defBody st) (defScope st) (.ref dT) kV doc pm an cdv ct ∧ K.lookup f = some ⟨oc, od, .func fd, osl⟩ ∧ PySem.W.codeIn K cdv qual = true ∧ ∃ o n, K.lookup dT = some o ∧ o.data = .seq its.toArray n
  kp : PySem.W.keepIn K (.ref f) = true
section
variable {P : Program} {w : World} {K : PySem.W.Frag} {mg : Str → Option Value} {base : Heap} {x qual : Str} {st : Stmt} {its : List Value} {f : Addr} {fd : FuncData} {ps : List Str}
theorem FunT.binds (F : FunT K x qual st its f fd) (n j : Nat) (hn : n + (its.length - j) = ps.length)
    (h : ∀ (T : Addr) (kV doc pm : Value) (an : Option Addr) (cdv ct : Value) (us : List Value), us.length = n →
      ∃ k, bindArgs (PySem.W.fnOf x qual (defArgs st) (defBody st) (defScope st) (.ref T) kV doc pm an cdv ct) ⟨us, []⟩ = seqItems? (.ref T) >>= k ∧ k (some its.toArray) = pure (ps.zip (us ++ its.drop j))) : Binds K fd ps (its.drop j) := by
  obtain ⟨oc, od, dT, kV, doc, pm, an, cdv, ct, osl, rfl, lk, hcd, o, m, lT, oT⟩ := F.ex
  intro s us X hlen
  have l2 : us.length = n := by
    rw [List.length_append, List.length_drop] at hlen
    omega
  obtain ⟨k, e1, e2⟩ := h dT kV doc pm an cdv ct us l2
  refine BindsTo.of_looks fun M => ?_
  rw [e1]
  exact looks_items X lT oT (.of_pure e2)
theorem FnG.okT {N : List Str} {k : Nat} {sp : Sp} (F : FunT K x qual st its f fd) (S : FnScope N ps (defScope st)) (len : ∀ vs H Q E, sp vs H Q E → vs.length = ps.length)
    (hb : ∀ (cdv : Value) (A : Around) (outer : List PySem.Env) (s : Shared) (H : Hp) (vs : List V) (Q : VK) (E : XK), Room k (cxOf CX0 P w K mg base N qual (defScope st) f cdv A outer s H E).nox.A → (cxOf CX0 P w K mg base N qual (defScope st) f cdv A outer s H E).nox.A.guards = some [] → sp vs H Q E →
      ∃ t, PSs (cxOf CX0 P w K mg base N qual (defScope st) f cdv A outer s H E).nox (defBody st) t ∧ t { nx := fun _ H' => Q .non H', rt := Q } (L2.start N vs) H) : FnG P w K mg base CX0 (k + 1) f fd ps sp := by
  obtain ⟨oc, od, dT, kV, doc, pm, an, cdv, ct, osl, rfl, lk, hcd, _⟩ := F.ex
  refine FnG.of lk hcd S len fun A outer s H vs Q E hr hg hsp => ?_
  obtain ⟨t, h, q⟩ := hb cdv A outer s H vs Q E hr hg hsp
  exact ⟨t, h.nox, q⟩
theorem FnG.okTX {N : List Str} {k : Nat} {sp : Sp} (F : FunT K x qual st its f fd) (S : FnScope N ps (defScope st)) (len : ∀ vs H Q E, sp vs H Q E → vs.length = ps.length)
    (hb : ∀ (cdv : Value) (A : Around) (outer : List PySem.Env) (s : Shared) (H : Hp) (vs : List V) (Q : VK) (E : XK), Room k (cxOf (L2.CX P w) P w K mg base N qual (defScope st) f cdv A outer s H E).A → (cxOf (L2.CX P w) P w K mg base N qual (defScope st) f cdv A outer s H E).A.guards = some [] → sp vs H Q E →
      ∃ t, PSs (cxOf (L2.CX P w) P w K mg base N qual (defScope st) f cdv A outer s H E) (defBody st) t ∧ t { nx := fun _ H' => Q .non H', rt := Q } (L2.start N vs) H) : FnG P w K mg base (L2.CX P w) (k + 1) f fd ps sp := by
  obtain ⟨oc, od, dT, kV, doc, pm, an, cdv, ct, osl, rfl, lk, hcd, _⟩ := F.ex
  exact FnG.of lk hcd S len fun A outer s H vs Q E hr hg hsp => hb cdv A outer s H vs Q E hr hg hsp
end
section
variable {cA : String → Addr} {E : XK} {tas : TA} {ρ : Rho} {Φ : PyData → Rho → Prop}
theorem we_callXD {pre : List PyData → (PyData → Prop) → (String → PyData → Prop) → Prop} {dvs : List V} {dd : List PyData} (hd : ∀ G, RpA G dvs dd) (h : Wa tas ρ fun ds ρ1 => pre (ds ++ dd) (fun d => Φ d ρ1) fun _ _ => False) : We (tCall (SpX cA pre) dvs E tas) ρ Φ := fun F G0 G H σ s Q k =>
  h F G0 G H σ s _ fun vs ds ρ1 G1 H1 s1 g1 r1 p => ⟨G1, ds ++ dd, _, _, s1.gh, r1.app (hd G1), p, fun v d G' H' gr r q => k v d ρ1 G' H' (s1.grow gr) (g1.trans gr.g) r q, .never⟩
theorem rpa_none1 : ∀ G, RpA G [V.non] [PyData.none] := fun G => .cons .non .nil
end
end Dv

/-! Dv27: a comprehension whose items are nobody else's. -/
namespace Dv
open PySem L2
section
variable {te ta tb tc : TE} {tt tu : TT} {tas : TA} {ts tsu : TS} {ρ : Rho} {K : PySem.W.Frag} {g : TG} {wi : TI} {Φ : PyData → Rho → Prop}
theorem wr_lc {vs js : List Nat} (hj : ∀ k ∈ js, k ∈ vs)
    (h : Wi wi ρ fun ds ρ1 => ds.length < 100000 ∧ mergeR ρ1 (wipeR ρ1 vs) vs = ρ1 ∧ ∃ f : PyData → PyData,
      (∀ d, d ∈ ds → Wg g js d (wipeR ρ1 vs) fun ρ2 => wipeR ρ2 vs = wipeR ρ1 vs ∧ Wr te ρ2 fun y ρ4 => ρ4 = ρ2 ∧ y = f d) ∧ Φ (.list (ds.map f)) ρ1) : Wr (tLc wi g tYes te vs) ρ Φ := fun F G0 G H σ s Q k =>
  h F G0 G H σ s _ fun J ds ρ1 G1 H1 s1 g1 wk ⟨hl, hm, f, turn, fin⟩ => by
    intro D nD
    have nF : F D = none := none_of s1.fh nD
    have st0 : Sta F G0 G1 (L2.upd H1 D (.lst [])) (L2.wipe σ vs) (wipeR ρ1 vs) := (s1.laid nD).wipe vs
    have fp0 : ∀ (j : Nat) (x : Slot), (wipeR ρ1 vs)[j]? = some x → ∀ a ∈ x.fp, a ∉ [D] := fun j x e a ha hb => by
      obtain rfl := List.mem_singleton.mp hb
      rcases wipeR_get e with e | rfl
      · exact s1.nofp nD j x e ha
      · cases ha
    refine ⟨fun i m H' => m = ds.length - i ∧ i ≤ ds.length ∧ ∃ G' acc L, Sta F G0 G' H' (L2.wipe σ vs) (wipeR ρ1 vs) ∧ Same G1 G' ∧ H' D = some (.lst acc) ∧ TrA G' H' acc ((ds.take i).map f) L ∧ (∀ a ∈ D :: L, F a = none ∧ G' a = none) ∧ D ∉ L ∧ (∀ (j : Nat) (x : Slot), (wipeR ρ1 vs)[j]? = some x → ∀ a ∈ x.fp, a ∉ D :: L),
      ⟨ds.length, by omega, Nat.zero_le _, G1, [], [], st0, Same.refl G1, upd_same, .nil, fun a ha => by rw [List.mem_singleton.mp ha]; exact ⟨nF, none_of s1.gh nD⟩, by simp, fp0⟩, ?_⟩
    rintro i m H' ⟨rfl, hi, G', acc, L, s', g', hD, ra, nM, nDL, fp'⟩
    obtain ⟨w1, w2⟩ := wk G' H' g' s'.gh
    by_cases hlt : i < ds.length
    · have ed : ds[i]? = some ds[i] := List.getElem?_eq_getElem hlt
      obtain ⟨v1, v2⟩ := w2 i _ ed
      refine .inr ⟨v1, fun H2 => ∃ G2 acc L, Sta F G0 G2 H2 (L2.wipe σ vs) (wipeR ρ1 vs) ∧ Same G1 G2 ∧ H2 D = some (.lst acc) ∧ TrA G2 H2 acc ((ds.take (i + 1)).map f) L ∧ (∀ a ∈ D :: L, F a = none ∧ G2 a = none) ∧ D ∉ L ∧ (∀ (j : Nat) (x : Slot), (wipeR ρ1 vs)[j]? = some x → ∀ a ∈ x.fp, a ∉ D :: L),
        fun H2 ⟨G2, acc, L, q⟩ => ⟨ds.length - (i + 1), by omega, rfl, hlt, G2, acc, L, q⟩, fun x H2 y => ?_⟩
      obtain ⟨G3, gr, rx⟩ := v2 x H2 y
      have s3 := (s'.holdM (M := D :: L) (fun a ha => (nM a ha).2) fp').grow gr
      have live : ∀ a ∈ D :: L, H' a ≠ none := fun a ha => by
        rcases List.mem_cons.mp ha with rfl | ha
        · rw [hD]
          simp
        · exact ra.live a ha
      refine turn _ (List.mem_of_getElem? ed) (frz F H' (D :: L)) G0 G3 H2 (L2.wipe σ vs) x s3 rx _ fun σ4 ρ4 s4 e4 p4 => ?_
      have el : σ4.length = (L2.wipe σ vs).length := e4.1
      have ew : L2.wipe σ4 vs = L2.wipe σ vs := by
        rw [← wipe_wipe (σ := σ)]
        exact wipe_eq el fun k hk => e4.2 k fun z => hk (hj k z)
      obtain ⟨hw, p4⟩ := p4
      refine ⟨ew, ?_⟩
      show te σ4 H2 _
      refine p4 _ _ _ _ _ s4 _ fun u y M ρ6 G6 H6 s6 g6 r6 n6 ap6 ⟨e6, ey⟩ => ?_
      subst e6 ey
      obtain ⟨s7, e7, n7, fp7⟩ := s6.unholdM fun a ha => ⟨(nM a ha).1, none_of s'.g0 (nM a ha).2, live a ha⟩
      have hM : ∀ a ∈ M, a ∉ D :: L := fun a ha hb => live a hb (by have := (n6 a ha).1; rw [frz_in hb] at this; exact this)
      have hMF : ∀ a ∈ M, F a = none := fun a ha => by
        have := (n6 a ha).1
        rw [frz_out (hM a ha)] at this
        exact this
      have hD6 : H6 D = some (.lst acc) := by rw [e7 D List.mem_cons_self]; exact hD
      have nDM : D ∉ M := fun z => hM D z List.mem_cons_self
      have len := ra.len
      rw [List.length_map, List.length_take] at len
      have eL : ∀ a ∈ L, (L2.upd H6 D (.lst (acc ++ [u]))) a = H' a := fun a ha => by
        have hne : a ≠ D := fun z => nDL (z ▸ ha)
        rw [upd_ne hne]
        exact e7 a (List.mem_cons_of_mem _ ha)
      have eM : ∀ a ∈ M, (L2.upd H6 D (.lst (acc ++ [u]))) a = H6 a := fun a ha => upd_ne fun z => nDM (z ▸ ha)
      have ra7 : TrA G6 (L2.upd H6 D (.lst (acc ++ [u]))) acc ((ds.take i).map f) L := ra.mono (gr.g.trans g6) eL
      have r7 : Tr G6 (L2.upd H6 D (.lst (acc ++ [u]))) u (f ds[i]) M := r6.mono (Same.refl _) eM
      have r8 : TrA G6 (L2.upd H6 D (.lst (acc ++ [u]))) [u] [f ds[i]] M := by
        have := TrA.cons r7 (TrA.nil (G := G6) (H := L2.upd H6 D (.lst (acc ++ [u])))) (by simp)
        rw [List.append_nil] at this
        exact this
      have et : (ds.take (i + 1)).map f = (ds.take i).map f ++ [f ds[i]] := by rw [List.take_add_one, ed, List.map_append]; rfl
      have s8 := ((s7.put (o := .lst (acc ++ [u])) nF (n7 D List.mem_cons_self) fun j x e ha => fp7 j x e D ha List.mem_cons_self)).wipe vs
      rw [ew, hw] at s8
      refine ⟨acc, hD6, szs (by omega), G6, acc ++ [u], L ++ M, s8, (g'.trans gr.g).trans g6, upd_same, ?_, fun a ha => ?_, fun ha => ?_, fun j x e a ha hb => ?_⟩
      · rw [et]
        exact ra7.app r8 fun a ha hb => hM a hb (List.mem_cons_of_mem _ ha)
      · rcases List.mem_cons.mp ha with rfl | ha
        · exact ⟨nF, n7 _ List.mem_cons_self⟩
        · rcases List.mem_append.mp ha with ha | ha
          · exact ⟨(nM a (List.mem_cons_of_mem _ ha)).1, n7 a (List.mem_cons_of_mem _ ha)⟩
          · exact ⟨hMF a ha, (n6 a ha).2⟩
      · rcases List.mem_append.mp ha with ha | ha
        · exact nDL ha
        · exact nDM ha
      · rcases List.mem_cons.mp hb with rfl | hb
        · exact fp' j x e a ha List.mem_cons_self
        · rcases List.mem_append.mp hb with hb | hb
          · exact fp' j x e a ha (List.mem_cons_of_mem _ hb)
          · rw [← hw] at e
            rcases wipeR_get e with e | rfl
            · exact ap6 j x e a ha hb
            · cases ha
    · have e : i = ds.length := by omega
      subst e
      rw [List.take_length] at ra
      have sm := s'.merge s1 g'
      rw [hm] at sm
      refine .inl ⟨w1, k (.ref D) _ (D :: L) ρ1 G' H' sm (g1.trans g') (.lst hD ra nDL) nM (fun j x e a ha hb => ?_) fin⟩
      rw [← hm] at e
      rcases mergeR_get e with ⟨_, e⟩ | rfl
      · exact fp' j x e a ha hb
      · rw [keepV_fp] at ha
        cases ha
end
section
variable {P : Program} {w : World} {K : PySem.W.Frag} {mg : Str → Option Value} {base : Heap} {cx : CXT} {k : Nat} {f : Addr} {fd : FuncData} {ps : List Str}
theorem FnG.noS : FnG P w K mg base cx k f fd ps (SpS 0) := by
  refine FnG.imp (sp := SpD fun _ _ => False) (FnG.no fun _ _ h => h) ?_
  rintro vs H Q E ⟨G, v, d, L, _, _, _, _, _, h, _⟩
  exact absurd h (Nat.not_lt_zero _)
end
end Dv

/-! Dv28: sorted(ints); the last item. -/
namespace Dv
open PySem L2
section
variable {K : PySem.W.Frag} {φ : List PyData → Prop}
theorem opn_sortedI {ns : List Int} (q : ∀ ys : List Int, ys.Perm ns → ys.Pairwise (· ≤ ·) → φ (ys.map .int)) : OpN (rSortedI K) [.list (ns.map .int)] φ := fun G H vs s r Q k => by
  cases r with
  | cons r1 r2 =>
    cases r2
    cases r1 with
    | lst h1 h2 =>
      obtain rfl := map_int h2
      exact ⟨_, ns, rfl, .inl (.inl (s _ _ h1)), fun ys p hp hs hn => k p (ys.map V.int) (ys.map .int) G H (.refl s) hn (RpA.of_map (fun x => .int x) ys) (q ys hp hs)⟩
theorem atI_last {α : Type} {xs : List α} {x : α} (h : xs.getLast? = some x) : atI xs (-1) = some x := by
  have hn : xs ≠ [] := fun z => by rw [z] at h; cases h
  have hl := List.length_pos_iff.mpr hn
  unfold atI ixN
  rw [if_neg (by decide), if_pos (by omega), show ((-1 : Int) + (xs.length : Int)).toNat = xs.length - 1 by omega]
  rw [List.getLast?_eq_getElem?] at h
  exact h
end
end Dv

/-! Dv29: what may be spoilt may be compared; a kept error is not None. -/
namespace Dv
open PySem L2
mutual
theorem clean_nod : ∀ d : PyData, clean d = true → d.hasDict = false
  | .none, _ => rfl
  | .bool _, _ => rfl
  | .int _, _ => rfl
  | .str _, _ => rfl
  | .list ds, h => by
    simp only [clean, Bool.and_eq_true] at h
    exact cleanA_nod ds h.2.2
  | .tuple ds, h => by
    simp only [clean, Bool.and_eq_true] at h
    exact cleanA_nod ds h.2
  | .dict _, h => by simp [clean] at h
theorem cleanA_nod : ∀ ds : List PyData, cleanA ds = true → PyData.hasDictAll ds = false
  | [], _ => rfl
  | d :: ds, h => by
    simp only [cleanA, Bool.and_eq_true] at h
    simp only [PyData.hasDictAll, clean_nod d h.1, cleanA_nod ds h.2, Bool.or_false]
end
mutual
theorem clean_lay : ∀ d : PyData, clean d = true → d.canLay0 = true
  | .none, _ => rfl
  | .bool _, _ => rfl
  | .int _, _ => rfl
  | .str x, h => by
    simp only [clean, Bool.and_eq_true] at h
    exact (OkdN.str (n := 0) fun c hc => of_decide_eq_true (List.all_eq_true.mp h.2 c hc)).lay
  | .list ds, h => by
    simp only [clean, Bool.and_eq_true] at h
    exact cleanA_lay ds h.2.2
  | .tuple ds, h => by
    simp only [clean, Bool.and_eq_true] at h
    exact cleanA_lay ds h.2
  | .dict _, h => by simp [clean] at h
theorem cleanA_lay : ∀ ds : List PyData, cleanA ds = true → PyData.canLayAll0 ds = true
  | [], _ => rfl
  | d :: ds, h => by
    simp only [cleanA, Bool.and_eq_true] at h
    simp only [PyData.canLayAll0, clean_lay d h.1, cleanA_lay ds h.2, Bool.and_true]
end
theorem clean_okd {d : PyData} (h : clean d = true) : OkdN d.depth d := ⟨clean_nod d h, clean_lay d h, Nat.le_refl _⟩
theorem dep_list {ds : List PyData} {n : Nat} (h : (PyData.list ds).depth < n + 1) : ∀ d ∈ ds, d.depth < n := fun d hd => by
  have := dep_mem hd
  have e : (PyData.list ds).depth = PyData.depthAll ds + 1 := by simp [PyData.depth, Nat.add_comm]
  omega
theorem dep_tup {ds : List PyData} {n : Nat} (h : (PyData.tuple ds).depth < n + 1) : ∀ d ∈ ds, d.depth < n := fun d hd => by
  have := dep_mem hd
  have e : (PyData.tuple ds).depth = PyData.depthAll ds + 1 := by simp [PyData.depth, Nat.add_comm]
  omega
section
variable {ρ : Rho} {Φ : PyData → Rho → Prop} {K : PySem.W.Frag} {a C dx : Addr} {d : PyData} {j : Nat}
theorem we_isntX (h0 : ρ[j]? = some (.res (excR a C dx d))) (q : Φ (.bool true) ρ) : We (tOp rNotN (tVar j) (tC .non)) ρ Φ := fun F G0 G H σ s Q k => by
  obtain ⟨v, e, ⟨rfl, ea, y, ed, ry⟩, _⟩ := s.getR h0
  exact ⟨_, e, rfl, k _ _ ρ G H s (Same.refl G) (.bl true) q⟩
end
end Dv

/-! Dv30: the script, a list that is looked at only; slices of it. -/
namespace Dv
open PySem L2
theorem sql_same {K : PySem.W.Frag} {G H : Hp} {a : Addr} {xs : List V} (s : Same G H) (h : SqL K G a xs) : SqL K H a xs := by
  rcases h with (h | ⟨o, h⟩) | h
  · exact .inl (.inl (s _ _ h))
  · exact .inl (.inr ⟨o, s _ _ h⟩)
  · exact .inr h
/-- a list of ints that is only looked at -/
def scr (K : PySem.W.Frag) (a : Addr) (ns : List Int) : Res where
  fp := []
  ok := fun G H v => v = .ref a ∧ SqL K G a (ns.map V.int)
  mono := by
    rintro G H G' H' v ⟨e, h⟩ g k
    exact ⟨e, sql_same g h⟩
section
variable {te ta : TE} {ρ : Rho} {K : PySem.W.Frag} {a : Addr} {ns : List Int} {i : Nat} {tl th : TO}
theorem wn_slScr {Φ : List PyData → Rho → Prop} (h0 : ρ[i]? = some (.res (scr K a ns))) (h : Wo tl ρ fun lo ρ2 => Wo th ρ2 fun hi ρ3 => Φ ((cutD ns lo hi).map .int) ρ3) : Wn (tSl (rSlU K) (tVar i) tl th) ρ Φ := fun F G0 G H σ s Q k => by
  obtain ⟨v, e, ⟨rfl, hS⟩, _⟩ := s.getR h0
  refine ⟨_, e, h F G0 G H σ s _ fun lo ρ2 G2 H2 s2 g2 p2 => p2 F G0 G2 H2 σ s2 _ fun hi ρ3 G3 H3 s3 g3 q => ?_⟩
  refine .inl (.inl ⟨_, _, rfl, sql_same s3.gh (sql_same (g2.trans g3) hS), fun p hp => k p _ _ ρ3 G3 _ (s3.laid hp) (g2.trans g3) upd_same ?_ (none_of s3.fh hp) (none_of s3.gh hp) (s3.nofp hp) q⟩)
  have e2 : cutV (ns.map V.int) lo hi = (cutD ns lo hi).map V.int := by
    unfold cutV cutD
    rw [List.length_map, List.map_take, List.map_drop]
  rw [e2]
  exact RpA.of_map (fun x => .int x) _
theorem sta_scr {G H : Hp} {a : Addr} {ns : List Int} {N : Nat} (s : Same G H) (hS : SqL K G a (ns.map V.int)) : Sta H G G H (some (V.ref a) :: List.replicate N none) (.res (scr K a ns) :: List.replicate N .any) where
  fh := Same.refl H
  gh := s
  g0 := Same.refl G
  new := fun _ _ e _ => e
  len := by simp
  slot := fun j x e => by
    rcases j with _ | j
    · obtain rfl := Option.some.inj e
      exact ⟨.ref a, rfl, ⟨rfl, hS⟩, fun b hb => nomatch hb⟩
    · have h3 := List.mem_of_getElem? e
      have e' : (List.replicate N Slot.any)[j]? = some x := e
      have h4 := List.mem_of_getElem? e'
      rw [List.eq_of_mem_replicate h4]
      trivial
  apart := fun i j x y hij e1 e2 b hb hc => by
    rcases i with _ | i
    · obtain rfl := Option.some.inj e1
      cases hb
    · have e' : (List.replicate N Slot.any)[i]? = some x := e1
      rw [List.eq_of_mem_replicate (List.mem_of_getElem? e')] at hb
      cases hb
end
end Dv

/-! Dv31: rows of ours made by any rule, rows[i][k] looked at and set; reversed(text), int(text, 2), f"{n:b}", str(n). -/
namespace Dv
open PySem L2 Zx
theorem tr_flats {G H : Hp} : ∀ {ds : List PyData} {xs : List V} {L : List Addr}, TrA G H xs ds L → (∀ d ∈ ds, flat d = true) → L = [] ∧ RpA G xs ds
  | [], _, _, h, _ => by
    cases h
    exact ⟨rfl, .nil⟩
  | d :: ds, _, _, h, hf => by
    cases h with
    | cons h1 h2 h3 =>
      obtain ⟨rfl, r2⟩ := tr_flats h2 fun e he => hf e (List.mem_cons_of_mem _ he)
      have f1 := hf d List.mem_cons_self
      cases h1 with
      | flt r f => exact ⟨rfl, .cons r r2⟩
      | lst a b c => cases f1
      | tup a b => cases f1
theorem tr_rows {G H : Hp} : ∀ {dss : List (List PyData)} {xs : List V} {L : List Addr}, TrA G H xs (dss.map .list) L → (∀ ds ∈ dss, ∀ d ∈ ds, flat d = true) →
    xs = L.map V.ref ∧ L.length = dss.length ∧ L.Nodup ∧ ∀ (k : Nat) (q : Addr) (ds : List PyData), L[k]? = some q → dss[k]? = some ds → ∃ ys, H q = some (.lst ys) ∧ RpA G ys ds
  | [], _, _, h, _ => by
    cases h
    exact ⟨rfl, rfl, .nil, fun k q ds e => by simp at e⟩
  | ds :: dss, _, _, h, hf => by
    cases h with
    | cons h1 h2 h3 =>
      obtain ⟨e1, e2, e3, e4⟩ := tr_rows h2 fun e he => hf e (List.mem_cons_of_mem _ he)
      cases h1 with
      | flt r f => cases f
      | @lst a ys _ L' h4 h5 h6 =>
        obtain ⟨rfl, r⟩ := tr_flats h5 (hf ds List.mem_cons_self)
        refine ⟨by rw [e1]; rfl, by simp [e2], List.nodup_cons.mpr ⟨h3 a (by simp), e3⟩, fun k q es k1 k2 => ?_⟩
        cases k with
        | zero =>
          cases k1
          cases k2
          exact ⟨ys, h4, r⟩
        | succ k => exact e4 k q es k1 k2
theorem tr_nest {G H : Hp} {v : V} {dss : List (List PyData)} {L : List Addr} (h : Tr G H v (.list (dss.map .list)) L) (hf : ∀ ds ∈ dss, ∀ d ∈ ds, flat d = true) : ∃ p qs, v = .ref p ∧ L = p :: qs ∧ qs.length = dss.length ∧ (nest p qs dss).ok G H v := by
  cases h with
  | flt r f => cases f
  | @lst a xs _ L' h1 h2 h3 =>
    obtain ⟨e1, e2, e3, e4⟩ := tr_rows h2 hf
    subst e1
    exact ⟨a, L', rfl, rfl, e2, rfl, h1, e2, e3, h3, e4⟩
section
variable {te ta tb ti : TE} {tas : TA} {ρ : Rho} {Φ : PyData → Rho → Prop} {K : PySem.W.Frag} {i a b k : Nat} {p : Addr} {qs : List Addr} {dss : List (List PyData)} {F G0 : Hp} {nx bk ct : Rho → Prop} {rt : PyData → Rho → Prop}
theorem q_setNO (h : Wr te ρ fun d ρ1 => ∃ dss, d = .list (dss.map .list) ∧ (∀ ds ∈ dss, ∀ d ∈ ds, flat d = true) ∧ ∀ p qs, qs.length = dss.length → nx (ρ1.set i (.res (nest p qs dss)))) : Ws F G0 (tAsg te (gName i)) ρ ⟨nx, rt, bk, ct⟩ := fun G H σ s D q1 q2 q3 q4 =>
  h F G0 G H σ s _ fun v d L ρ1 G1 H1 s1 g1 r n ap ⟨dss, e, hf, q⟩ => by
    subst e
    have hl := r.live
    obtain ⟨p, qs, rfl, rfl, el, ok⟩ := tr_nest r hf
    exact q1 _ _ G1 H1 (s1.setR (v := .ref p) (r := nest p qs dss) ok (fun a ha => ⟨(n a ha).1, (n a ha).2, hl a ha⟩) (fun j x _ e a ha hb => ap j x e a ha hb)) g1 (q p qs el)
/-- rows[x][y] -/
theorem we_ixNN {n m : Int} {ds : List PyData} {d : PyData} (h : ρ[i]? = some (.res (nest p qs dss))) (ha : ρ[a]? = some (.val (.int n))) (hb : ρ[b]? = some (.val (.int m))) (e1 : ixN dss.length n = some k) (e2 : dss[k]? = some ds) (e3 : atI ds m = some d) (q : Φ d ρ) :
    We (tOp (rIx K) (tOp (rIx K) (tVar i) (tVar a)) (tVar b)) ρ Φ := fun F G0 G H σ s Q kk => by
  obtain ⟨G', g1, g2, _, e, hp, hl, _, inn⟩ := s.see h
  obtain ⟨va, ea, ra⟩ := s.get ha
  obtain ⟨vb, eb, rb⟩ := s.get hb
  cases ra
  cases rb
  have hk : k < qs.length := by
    rw [hl]
    exact (ixN_seq e1).2.1
  refine ⟨_, e, _, ea, .inl ⟨p, qs.map V.ref, n, .ref qs[k], rfl, rfl, .inl (.inl hp), ?_, ?_⟩⟩
  · unfold atI
    rw [List.length_map, hl, e1]
    show (qs.map V.ref)[k]? = _
    rw [List.getElem?_map, List.getElem?_eq_getElem hk]
    rfl
  · obtain ⟨_, xs, hx, rx⟩ := inn k _ ds (List.getElem?_eq_getElem hk) e2
    obtain ⟨w, e4, e5⟩ := rx.atI e3
    exact ⟨_, eb, .inl ⟨_, xs, m, w, rfl, rfl, .inl (.inl hx), e4, kk w d ρ G H s (Same.refl G) e5 q⟩⟩
/-- rows[x][y] = e -/
theorem q_setNN (h : We te ρ fun d ρ1 => ∃ (p : Addr) (qs : List Addr) (dss : List (List PyData)) (n m : Int) (ds : List PyData) (k l : Nat), ρ1[i]? = some (.res (nest p qs dss)) ∧ ρ1[a]? = some (.val (.int n)) ∧ ρ1[b]? = some (.val (.int m)) ∧ ixN dss.length n = some k ∧ dss[k]? = some ds ∧ ixN ds.length m = some l ∧
      nx (ρ1.set i (.res (nest p qs (dss.set k (ds.set l d)))))) :
    Ws F G0 (tAsg te (gSub (tOp (rIx K) (tVar i) (tVar a)) (tVar b) rSetL)) ρ ⟨nx, rt, bk, ct⟩ := fun G H σ s D q1 q2 q3 q4 =>
  h F G0 G H σ s _ fun u d ρ1 G1 H1 s1 g1 r1 ⟨p, qs, dss, n, m, ds, k, l, k1, ha, hb, e1, e2, e3, cont⟩ => by
    obtain ⟨G', _, _, _, e, hp, hl, _, inn⟩ := s1.see k1
    obtain ⟨va, ea, ra⟩ := s1.get ha
    obtain ⟨vb, eb, rb⟩ := s1.get hb
    cases ra
    cases rb
    have hk : k < qs.length := by
      rw [hl]
      exact (ixN_seq e1).2.1
    refine ⟨_, e, _, ea, .inl ⟨p, qs.map V.ref, n, .ref qs[k], rfl, rfl, .inl (.inl hp), ?_, ?_⟩⟩
    · unfold atI
      rw [List.length_map, hl, e1]
      show (qs.map V.ref)[k]? = _
      rw [List.getElem?_map, List.getElem?_eq_getElem hk]
      rfl
    · have hq := List.getElem?_eq_getElem hk
      obtain ⟨_, xs, hx, rx⟩ := inn k _ ds hq e2
      exact ⟨_, eb, qs[k], xs, m, l, rfl, rfl, hx, by rw [rx.len]; exact e3, q1 _ _ G1 _ (s1.updN k1 hq (rx.set r1 l)) g1 cont⟩
/-- for c in reversed(text) -/
theorem wi_revS {Φ : List PyData → Rho → Prop} (h : We te ρ fun d ρ1 => ∃ z, d = .str z ∧ z.length ≤ 100000 ∧ Φ (signs z).reverse ρ1) : Wi (iRevS te) ρ Φ := fun F G0 G H σ s R k =>
  h F G0 G H σ s _ fun v d ρ1 G1 H1 s1 g1 r1 ⟨z, e, hz, q⟩ => by
    subst e
    cases r1
    refine ⟨z, rfl, szl hz, k (Irz z) _ ρ1 G1 H1 s1 g1 (fun G2 H2 s2 s3 => ⟨?_, fun j d ed => ⟨?_, fun x H' y => ?_⟩⟩) q⟩
    · show z.cps.size ≤ _
      rw [List.length_reverse]
      simp [signs]
    · show j < z.cps.size
      have := (List.getElem?_eq_some_iff.mp ed).1
      rw [List.length_reverse] at this
      simpa [signs] using this
    · obtain ⟨rfl, c, hc, rfl⟩ := y
      have hj := (List.getElem?_eq_some_iff.mp ed).1
      rw [List.length_reverse] at hj
      rw [List.getElem?_reverse hj] at ed
      have hl : (signs z).length = z.cps.size := by simp [signs]
      rw [hl] at ed
      have hd : d = .str ⟨#[c]⟩ := by
        unfold signs at ed
        rw [List.getElem?_map, Array.getElem?_toList, hc] at ed
        exact (Option.some.inj ed).symm
      subst hd
      exact ⟨G2, .refl s3, .str _⟩
theorem we_fmtB (h : We te ρ fun d ρ1 => ∃ n : Nat, d = .int (n : Int) ∧ (binS n).length ≤ 100000 ∧ Φ (.str (binS n)) ρ1) : We (tFmtB te) ρ Φ := fun F G0 G H σ s Q k =>
  h F G0 G H σ s _ fun v d ρ1 G1 H1 s1 g1 r1 ⟨n, e, hn, q⟩ => by
    subst e
    cases r1
    exact ⟨(n : Int), rfl, by omega, by rw [Int.natAbs_natCast]; exact szl hn, by rw [Int.natAbs_natCast]; exact k _ _ ρ1 G1 H1 s1 g1 (.str _) q⟩
theorem opc_strI {φ : PyData → Prop} {n : Int} (h : n.natAbs.log2 < 1920) (q : φ (.str (toString n : String))) : OpFC (fun xs H Q => ∃ i, xs = [.int i] ∧ i.natAbs.log2 < 1920 ∧ Q (.str (toString i : String)) H) [.int n] φ := fun G H vs s r Q k => by
  cases r with
  | cons ra rb =>
    cases rb
    cases ra
    exact ⟨n, rfl, h, k _ _ (fun _ => .str _) q⟩
theorem opc_bin {φ : PyData → Prop} {x : Str} (h1 : x.cps.toList ≠ []) (h2 : x.length ≤ 640) (h3 : ∀ c ∈ x.cps.toList, Bit c) (q : φ (.int ((binV x.cps.toList : Nat) : Int))) : OpFC rIntB [.str x, .int 2] φ := fun G H vs s r Q k => by
  cases r with
  | cons ra rb =>
    cases rb with
    | cons rb rc =>
      cases rc
      cases ra
      cases rb
      exact ⟨x, rfl, h1, h2, h3, k _ _ (fun _ => .int _) q⟩
end
end Dv

/-! Dv32: a def that draws and looks at a list that goes on changing elsewhere (SpZR); tuples and lists of things of nobody's; tuples cut; in and not in. -/
namespace Dv
open PySem L2

/-- a list with these very items -/
def lstV (p : Addr) (vs : List V) (ds : List PyData) : Res where
  fp := [p]
  ok := fun G H v => v = .ref p ∧ H p = some (.lst vs) ∧ RpA G vs ds
  mono := by
    rintro G H G' H' v ⟨e, h1, h2⟩ g k
    exact ⟨e, (k p List.mem_cons_self).trans h1, h2.mono g⟩
def SpZR (P : Nat → List PyData → Prop) (pre : Nat → List PyData → (Nat → PyData → Prop) → Prop) : Sp := fun vs H Q _ => ∃ G p a us xs n φ, vs = [.ref p, .ref a] ∧ (lstP p (P n)).ok G H (.ref p) ∧ G p = none ∧ H a = some (.lst us) ∧ RpA G us xs ∧ G a = none ∧ p ≠ a ∧ Same G H ∧ pre n xs φ ∧
  ∀ v d n' G' H', GrowP p G H G' H' → (lstP p (P n')).ok G' H' (.ref p) → Rp G' v d → φ n' d → Q v H'
theorem spzr_len {P : Nat → List PyData → Prop} {pre : Nat → List PyData → (Nat → PyData → Prop) → Prop} : ∀ vs H Q E, SpZR P pre vs H Q E → vs.length = 2 := by
  rintro _ H Q E ⟨G, p, a, us, xs, n, φ, rfl, _⟩
  rfl
theorem fn_zR {P : Nat → List PyData → Prop} {pre : Nat → List PyData → (Nat → PyData → Prop) → Prop} {t : TS} {N : List Str} (hn : 2 ≤ N.length)
    (h : ∀ F G0 p a us m xs φ, pre m xs φ → Ws F G0 t (.res (lstP p (P m)) :: .res (lstV a us xs) :: List.replicate (N.length - 2) .any) { nx := fun _ => False, rt := fun d ρ' => ∃ m', ρ'[0]? = some (.res (lstP p (P m'))) ∧ ρ'[1]? = some (.res (lstV a us xs)) ∧ φ m' d, bk := fun _ => False, ct := fun _ => False })
    {vs : List V} {H : Hp} {Q : VK} {E : XK} (hs : SpZR P pre vs H Q E) : t { nx := fun _ H' => Q .non H', rt := Q } (L2.start N vs) H := by
  obtain ⟨G, p, a, us, xs, m, φ, rfl, hok, hG, ha, ra, hGa, hpa, s, hp, k⟩ := hs
  obtain ⟨_, ys, es, hx, rx, hP⟩ := id hok
  have st : Sta (delH (delH H p) a) G G H (L2.start N [.ref p, .ref a]) (.res (lstP p (P m)) :: .res (lstV a us xs) :: List.replicate (N.length - 2) .any) := by
    refine ⟨fun b o e => ?_, s, Same.refl G, fun b o e _ => e, ?_, fun i x e => ?_, fun i j x y hij e1 e2 b hb hc => ?_⟩
    · by_cases h1 : b = a
      · rw [h1, delH_same] at e; cases e
      · rw [delH_ne h1] at e
        by_cases h2 : b = p
        · rw [h2, delH_same] at e; cases e
        · rw [delH_ne h2] at e
          exact e
    · unfold L2.start
      simp
    · rcases i with _ | _ | i
      · simp only [List.getElem?_cons_zero, Option.some.injEq] at e
        subst e
        refine ⟨.ref p, rfl, hok, fun b hb => ?_⟩
        have e' : b = p := by simpa [lstP] using hb
        subst e'
        exact ⟨by rw [delH_ne hpa, delH_same], hG, by rw [hx]; simp⟩
      · simp only [List.getElem?_cons_succ, List.getElem?_cons_zero, Option.some.injEq] at e
        subst e
        refine ⟨.ref a, rfl, ⟨rfl, ha, ra⟩, fun b hb => ?_⟩
        have e' : b = a := by simpa [lstV] using hb
        subst e'
        exact ⟨delH_same, hGa, by rw [ha]; simp⟩
      · have hx : x = .any := by
          simp only [List.getElem?_cons_succ] at e
          have h3 := List.mem_of_getElem? e
          exact List.eq_of_mem_replicate h3
        subst hx
        trivial
    · rcases j with _ | _ | j
      · omega
      · have : i = 0 := by omega
        subst this
        simp at e1 e2
        subst e1 e2
        have h1 : b = p := by simpa [Slot.fp, lstP] using hb
        have h2 : b = a := by simpa [Slot.fp, lstV] using hc
        exact hpa (h1.symm.trans h2)
      · have hy : y = .any := by
          simp only [List.getElem?_cons_succ] at e2
          have h3 := List.mem_of_getElem? e2
          exact List.eq_of_mem_replicate h3
        subst hy
        cases hc
  refine h _ G p a us m xs φ hp G H _ st _ (fun _ _ _ _ _ _ z => z.elim) (fun v d σ' ρ' G' H' s' g r' ⟨m', e, e2, q⟩ => ?_) (fun _ _ _ _ _ _ z => z.elim) (fun _ _ _ _ _ _ z => z.elim)
  obtain ⟨v0, e0, ⟨hv0, ys, fs, hy, ry, hP'⟩, hfp⟩ := s'.getR e
  obtain ⟨v1, e1, ⟨hv1, ha1, ra1⟩, hfp1⟩ := s'.getR e2
  have nG := (hfp p List.mem_cons_self).2.1
  have nGa := (hfp1 a List.mem_cons_self).2.1
  refine k v d m' G' H' ⟨g, fun b o hb e => ?_, s'.gh, fun b o e n => ?_⟩ ⟨rfl, ys, fs, hy, ry, hP'⟩ r' q
  · by_cases h1 : b = a
    · subst h1
      rw [ha] at e
      rw [ha1]
      exact e
    · exact s'.fh b o (by rw [delH_ne h1, delH_ne hb]; exact e)
  · refine s'.new b o e ?_
    rw [delH_ne (fun z => by rw [z, nGa] at e; cases e), delH_ne (fun z => by rw [z, nG] at e; cases e)]
    exact n
section
variable {te ta tb tc : TE} {tt tu : TT} {tas : TA} {ts tsu : TS} {ρ : Rho} {Φ Φ' : PyData → Rho → Prop} {Φb : Bool → Rho → Prop} {Ψ : Outs} {K : PySem.W.Frag} {g : TG} {wi : TI}
theorem we_callZR {P : Nat → List PyData → Prop} {pre : Nat → List PyData → (Nat → PyData → Prop) → Prop} {E : XK} {i j : Nat} {p a : Addr} {n0 : Nat} {xs : List PyData} (h0 : ρ[i]? = some (.res (lstP p (P n0)))) (h1 : ρ[j]? = some (.res (lst a xs))) (hij : i ≠ j)
    (h : pre n0 xs fun n' d => Φ d (ρ.set i (.res (lstP p (P n'))))) : We (tCall (SpZR P pre) [] E (tCons (tVar i) (tCons (tVar j) tNil))) ρ Φ := fun F G0 G H σ s Q k => by
  obtain ⟨v, e, ok, hfp⟩ := s.getR h0
  obtain ⟨v1, e1, ok1, hfp1⟩ := s.getR h1
  have hv : v = .ref p := ok.1
  subst hv
  obtain ⟨hv1, us, ds', ha, ra, rfl⟩ := ok1
  subst hv1
  refine ⟨_, e, _, e1, G, p, a, us, _, n0, _, rfl, ok, (hfp p List.mem_cons_self).2.1, ha, ra, (hfp1 a List.mem_cons_self).2.1, ?_, s.gh, h, fun v d n' G' H' gr ok r q => k v d _ G' H' (s.growP h0 gr ok) gr.g r q⟩
  intro hpa
  subst hpa
  rcases Nat.lt_or_ge i j with hl | hl
  · exact s.apart i j _ _ hl h0 h1 p List.mem_cons_self List.mem_cons_self
  · exact s.apart j i _ _ (by omega) h1 h0 p List.mem_cons_self List.mem_cons_self
theorem we_ixV {i : Nat} {a : Addr} {us : List V} {ds : List PyData} (h : ρ[i]? = some (.res (lstV a us ds))) (q : We tb ρ fun y ρ1 => ∃ n d, ρ1[i]? = some (.res (lstV a us ds)) ∧ y = .int n ∧ atI ds n = some d ∧ Φ d ρ1) : We (tOp (rIx K) (tVar i) tb) ρ Φ := fun F G0 G H σ s Q k => by
  obtain ⟨v, e, ⟨hv, _, _⟩, _⟩ := s.getR h
  subst hv
  refine ⟨_, e, q F G0 G H σ s _ fun u y ρ1 G1 H1 s1 g1 r1 ⟨n, d, h1, ey, ed, pz⟩ => ?_⟩
  subst ey
  cases r1
  obtain ⟨v1, e1, ⟨hv1, ha, ra⟩, _⟩ := s1.getR h1
  obtain ⟨j, ej, ed⟩ := atI_some ed
  obtain ⟨w, ew, rw'⟩ := ra.get ed
  exact .inl ⟨a, us, n, w, rfl, rfl, .inl (.inl ha), by unfold atI; rw [ra.len, ej]; exact ew, k w d ρ1 G1 H1 s1 g1 rw' pz⟩
theorem we_lenV {i : Nat} {a : Addr} {us : List V} {ds : List PyData} (h : ρ[i]? = some (.res (lstV a us ds))) (q : Φ (.int ds.length) ρ) : We (tCB (rLen K) (tCons (tVar i) tNil)) ρ Φ := fun F G0 G H σ s Q k => by
  obtain ⟨v, e, ⟨hv, ha, ra⟩, _⟩ := s.getR h
  subst hv
  exact ⟨_, e, .ref a, ds.length, rfl, .inl ⟨us, .inl (.inl ha), ra.len.symm⟩, k _ _ ρ G H s (Same.refl G) (.int _) q⟩

/-! ### several things of nobody's -/
def Wra (tas : TA) (ρ : Rho) (Φ : List PyData → Rho → Prop) : Prop := ∀ (F G0 G H : Hp) (σ : L2.St), Sta F G0 G H σ ρ → ∀ Q : List V → Hp → Prop, (∀ vs ds L ρ' G' H', Sta F G0 G' H' σ ρ' → Same G G' → TrA G' H' vs ds L → (∀ a ∈ L, F a = none ∧ G' a = none) → (∀ (j : Nat) (x : Slot), ρ'[j]? = some x → ∀ a ∈ x.fp, a ∉ L) → Φ ds ρ' → Q vs H') → tas σ H Q
theorem wra_nil {Φ : List PyData → Rho → Prop} (q : Φ [] ρ) : Wra tNil ρ Φ := fun F G0 G H σ s Q k => k [] [] [] ρ G H s (Same.refl G) .nil (by simp) (by simp) q
theorem wra_cons {Φ : List PyData → Rho → Prop} (h : Wr te ρ fun d ρ1 => Wra tas ρ1 fun ds ρ2 => Φ (d :: ds) ρ2) : Wra (tCons te tas) ρ Φ := fun F G0 G H σ s Q k =>
  h F G0 G H σ s _ fun v d L ρ1 G1 H1 s1 g1 r n ap q =>
    q _ _ _ _ _ (s1.holdM (M := L) (fun a ha => (n a ha).2) ap) _ fun vs ds M ρ2 G2 H2 s2 g2 r2 n2 ap2 p => by
      obtain ⟨s3, e3, n3, ap3⟩ := s2.unholdM fun a ha => ⟨(n a ha).1, none_of s1.g0 (n a ha).2, r.live a ha⟩
      have dj : ∀ a ∈ L, a ∉ M := fun a ha hm => by
        have := (n2 a hm).1
        rw [frz_in ha] at this
        exact r.live a ha this
      refine k _ _ (L ++ M) ρ2 G2 H2 s3 (g1.trans g2) (.cons (r.mono g2 e3) r2 dj) (fun a ha => ?_) (fun j x e a hx ha => ?_) p
      · rcases List.mem_append.mp ha with h | h
        · exact ⟨(n a h).1, n3 a h⟩
        · refine ⟨?_, (n2 a h).2⟩
          have := (n2 a h).1
          by_cases hl : a ∈ L
          · exact absurd h (dj a hl)
          · rw [frz_out hl] at this
            exact this
      · rcases List.mem_append.mp ha with h | h
        · exact ap3 j x e a hx h
        · exact ap2 j x e a hx h
theorem wra_wa {Φ : List PyData → Rho → Prop} (h : Wa tas ρ fun ds ρ1 => nlA ds = true ∧ Φ ds ρ1) : Wra tas ρ Φ := fun F G0 G H σ s Q k =>
  h F G0 G H σ s _ fun vs ds ρ1 G1 H1 s1 g1 r ⟨hn, p⟩ => k vs ds [] ρ1 G1 H1 s1 g1 (TrA.of_nl hn r) (by simp) (by simp) p
/-- a tuple of such things -/
theorem wr_tup (h : Wra tas ρ fun ds ρ1 => ds.length ≤ 100000 ∧ Φ (.tuple ds) ρ1) : Wr (tTup tas) ρ Φ := fun F G0 G H σ s Q k =>
  h F G0 G H σ s _ fun vs ds L ρ1 G1 H1 s1 g1 r n ap ⟨hl, p⟩ => ⟨by rw [r.len]; exact szl hl, fun p' hp => by
    have w : Grow G1 H1 (upd G1 p' (.tup vs)) (upd H1 p' (.tup vs)) := .laid s1.gh hp
    have ne : ∀ a ∈ L, a ≠ p' := fun a ha z => r.live a ha (by rw [z]; exact hp)
    refine k _ _ L ρ1 _ _ (s1.grow w) (g1.trans w.g) (.tup upd_same (r.mono w.g fun a ha => upd_ne (ne a ha))) (fun a ha => ⟨(n a ha).1, ?_⟩) ap p
    rw [upd_ne (ne a ha)]
    exact (n a ha).2⟩
/-- a list of such things -/
theorem wr_lst (h : Wra tas ρ fun ds ρ1 => ds.length ≤ 100000 ∧ Φ (.list ds) ρ1) : Wr (tLst tas) ρ Φ := fun F G0 G H σ s Q k =>
  h F G0 G H σ s _ fun vs ds L ρ1 G1 H1 s1 g1 r n ap ⟨hl, p⟩ => ⟨by rw [r.len]; exact szl hl, fun p' hp => by
    have ne : ∀ a ∈ L, a ≠ p' := fun a ha z => r.live a ha (by rw [z]; exact hp)
    refine k _ _ (p' :: L) ρ1 G1 _ (s1.laid hp) g1 (.lst upd_same (r.mono (Same.refl _) fun a ha => upd_ne (ne a ha)) fun z => ne p' z rfl) (fun a ha => ?_) (fun j x e a hx ha => ?_) p
    · rcases List.mem_cons.mp ha with rfl | h
      · exact ⟨none_of s1.fh hp, none_of s1.gh hp⟩
      · exact n a h
    · rcases List.mem_cons.mp ha with rfl | h
      · exact s1.nofp hp j x e hx
      · exact ap j x e a hx h⟩

/-! ### tuples cut -/
theorem we_slT {tl th : TO} (h : We te ρ fun x ρ1 => Wo tl ρ1 fun lo ρ2 => Wo th ρ2 fun hi ρ3 => ∃ ds, x = .tuple ds ∧ Φ (.tuple (cutD ds lo hi)) ρ3) : We (tSl (rSlU K) te tl th) ρ Φ := fun F G0 G H σ s Q k =>
  h F G0 G H σ s _ fun v x ρ1 G1 H1 s1 g1 r1 p1 => p1 F G0 G1 H1 σ s1 _ fun lo ρ2 G2 H2 s2 g2 p2 => p2 F G0 G2 H2 σ s2 _ fun hi ρ3 G3 H3 s3 g3 ⟨ds, e, q⟩ => by
    subst e
    cases r1 with
    | tup h1 h2 =>
      have m := g2.trans g3
      rename_i a xs
      have el := h2.len
      refine .inr ⟨a, xs, rfl, .inl (.inl (s3.gh _ _ (m _ _ h1))), fun hw => ?_, fun hw p hp => ?_⟩
      · have ec : cutD ds lo hi = ds := by
          unfold cutD
          rw [← el, hw.1, hw.2, List.drop_zero, Nat.sub_zero, el, List.take_length]
        rw [ec] at q
        exact k _ _ ρ3 G3 H3 s3 (g1.trans m) (.tup (m _ _ h1) (h2.mono m)) q
      · have w : Grow G3 H3 (upd G3 p (.tup (cutV xs lo hi))) (upd H3 p (.tup (cutV xs lo hi))) := .laid s3.gh hp
        exact k _ _ ρ3 _ _ (s3.grow w) ((g1.trans m).trans w.g) (.tup upd_same ((h2.mono m).cut.mono w.g)) q
/-! ### in, not in -/
theorem op2_inD {x : PyData} {ds : List PyData} {φ : PyData → Prop} (hx : Okd x) (hd : Okd (.list ds)) (q : φ (.bool (ds.any fun z => PyData.eqv z x))) : OpF2 (rInD K) x (.list ds) φ := fun G H v u s r1 r2 Q k =>
  ⟨x, ds, Rp.dp hx.nd (r1.mono s), Rp.dp hd.nd (r2.mono s), hx.sh, hd.sh, k _ _ (fun _ => .bl _) q⟩
theorem op2_notInD {x : PyData} {ds : List PyData} {φ : PyData → Prop} (hx : Okd x) (hd : Okd (.list ds)) (q : φ (.bool (!ds.any fun z => PyData.eqv z x))) : OpF2 (rNotInD K) x (.list ds) φ := fun G H v u s r1 r2 Q k =>
  ⟨x, ds, Rp.dp hx.nd (r1.mono s), Rp.dp hd.nd (r2.mono s), hx.sh, hd.sh, k _ _ (fun _ => .bl _) q⟩
theorem any_ints {α : Type} (f : α → Int) (i : Int) (xs : List α) : ((xs.map fun a => PyData.int (f a)).any fun z => PyData.eqv z (.int i)) = xs.any fun a => f a == i := by
  rw [List.any_map]
  rfl
end
end Dv

/-! Dv33: suites that may return something of nobody's out of loops. -/
namespace Dv
open PySem L2
def WsP (F G0 : Hp) (ts : TS) (ρ : Rho) (Ψ : Outs) : Prop := ∀ (G H : Hp) (σ : L2.St), Sta F G0 G H σ ρ → ∀ D : Ends,
  (∀ σ' ρ' G' H', Sta F G0 G' H' σ' ρ' → Same G G' → Ψ.nx ρ' → D.nx σ' H') → (∀ v d L σ' ρ' G' H', Sta F G0 G' H' σ' ρ' → Same G G' → Tr G' H' v d L → (∀ a ∈ L, F a = none ∧ G' a = none) → Ψ.rt d ρ' → D.rt v H') →
  (∀ σ' ρ' G' H', Sta F G0 G' H' σ' ρ' → Same G G' → Ψ.bk ρ' → D.bk σ' H') → (∀ σ' ρ' G' H', Sta F G0 G' H' σ' ρ' → Same G G' → Ψ.ct ρ' → D.ct σ' H') → ts D σ H
section
variable {te ta tb tc : TE} {tt tu : TT} {tas : TA} {ts tsu : TS} {ρ : Rho} {Φ Φ' : PyData → Rho → Prop} {Φb : Bool → Rho → Prop} {K : PySem.W.Frag} {g : TG} {wi : TI} {nx bk ct : Rho → Prop} {rt : PyData → Rho → Prop} {F G0 : Hp}
theorem p_ws (h : Ws F G0 ts ρ ⟨nx, fun d ρ' => nl d = true ∧ rt d ρ', bk, ct⟩) : WsP F G0 ts ρ ⟨nx, rt, bk, ct⟩ := fun G H σ s D q1 q2 q3 q4 =>
  h G H σ s D q1 (fun v d σ' ρ' G' H' s' g r ⟨hn, p⟩ => q2 v d [] σ' ρ' G' H' s' g (Tr.of_nl hn r) (by simp) p) q3 q4
theorem p_seq (h : WsP F G0 ts ρ ⟨fun ρ' => WsP F G0 tsu ρ' ⟨nx, rt, bk, ct⟩, rt, bk, ct⟩) : WsP F G0 (tSeq ts tsu) ρ ⟨nx, rt, bk, ct⟩ := fun G H σ s D q1 q2 q3 q4 =>
  h G H σ s { D with nx := tsu D } (fun σ' ρ' G' H' s' g p => p G' H' σ' s' D (fun σ2 ρ2 G2 H2 s2 g2 p2 => q1 σ2 ρ2 G2 H2 s2 (g.trans g2) p2) (fun v d L σ2 ρ2 G2 H2 s2 g2 r n p2 => q2 v d L σ2 ρ2 G2 H2 s2 (g.trans g2) r n p2)
    (fun σ2 ρ2 G2 H2 s2 g2 p2 => q3 σ2 ρ2 G2 H2 s2 (g.trans g2) p2) (fun σ2 ρ2 G2 H2 s2 g2 p2 => q4 σ2 ρ2 G2 H2 s2 (g.trans g2) p2)) q2 q3 q4
theorem p_if (h : Wt tt ρ fun b ρ1 => (b = true → WsP F G0 ts ρ1 ⟨nx, rt, bk, ct⟩) ∧ (b = false → WsP F G0 tsu ρ1 ⟨nx, rt, bk, ct⟩)) : WsP F G0 (tIfS tt ts tsu) ρ ⟨nx, rt, bk, ct⟩ := fun G H σ s D q1 q2 q3 q4 =>
  h F G0 G H σ s _ fun b ρ1 G1 H1 s1 g1 p => by
    have a1 := fun σ2 ρ2 G2 H2 s2 g2 p2 => q1 σ2 ρ2 G2 H2 s2 (g1.trans g2) p2
    have a2 := fun v d L σ2 ρ2 G2 H2 s2 g2 r n p2 => q2 v d L σ2 ρ2 G2 H2 s2 (g1.trans g2) r n p2
    have a3 := fun σ2 ρ2 G2 H2 s2 g2 p2 => q3 σ2 ρ2 G2 H2 s2 (g1.trans g2) p2
    have a4 := fun σ2 ρ2 G2 H2 s2 g2 p2 => q4 σ2 ρ2 G2 H2 s2 (g1.trans g2) p2
    cases b with
    | true => exact p.1 rfl G1 H1 σ s1 D a1 a2 a3 a4
    | false => exact p.2 rfl G1 H1 σ s1 D a1 a2 a3 a4
theorem p_nx (q : nx ρ) : WsP F G0 tNext ρ ⟨nx, rt, bk, ct⟩ := p_ws (q_nx q)
theorem p_ret (h : Wr te ρ rt) : WsP F G0 (tRet te) ρ ⟨nx, rt, bk, ct⟩ := fun G H σ s D q1 q2 q3 q4 => h F G0 G H σ s _ fun v d L ρ1 G1 H1 s1 g1 r n ap p => q2 v d L _ ρ1 G1 H1 s1 g1 r n p
theorem p_for {js : List Nat} (h : Wi wi ρ fun ds ρ1 => ∃ Iv : Nat → Rho → Prop, Iv 0 ρ1 ∧ (∀ i d ρ', ds[i]? = some d → Iv i ρ' → Wg g js d ρ' fun ρ2 => WsP F G0 ts ρ2 ⟨Iv (i + 1), rt, nx, Iv (i + 1)⟩) ∧ ∀ ρ', Iv ds.length ρ' → nx ρ') :
    WsP F G0 (tFor wi g ts) ρ ⟨nx, rt, bk, ct⟩ := fun G H σ s D q1 q2 q3 q4 =>
  h F G0 G H σ s _ fun J ds ρ1 G1 H1 s1 g1 wk ⟨Iv, i0, turn, fin⟩ => by
    refine ⟨fun i m σ' H' => m = ds.length - i ∧ i ≤ ds.length ∧ ∃ ρ' G', Sta F G0 G' H' σ' ρ' ∧ Same G1 G' ∧ Iv i ρ', ⟨ds.length, by omega, Nat.zero_le _, ρ1, G1, s1, Same.refl G1, i0⟩, ?_⟩
    rintro i m σ' H' ⟨rfl, hi, ρ', G', s', g', iv⟩
    obtain ⟨w1, w2⟩ := wk G' H' g' s'.gh
    by_cases hlt : i < ds.length
    · have ed : ds[i]? = some ds[i] := List.getElem?_eq_getElem hlt
      obtain ⟨v1, v2⟩ := w2 i _ ed
      refine .inr ⟨v1, fun σ2 H2 => ∃ ρ2 G2, Sta F G0 G2 H2 σ2 ρ2 ∧ Same G1 G2 ∧ Iv (i + 1) ρ2, fun σ2 H2 ⟨ρ2, G2, a, b, c⟩ => ⟨ds.length - (i + 1), by omega, rfl, hlt, ρ2, G2, a, b, c⟩, fun x H2 y => ?_⟩
      obtain ⟨G3, gr, rx⟩ := v2 x H2 y
      have s3 := s'.grow gr
      refine turn i _ ρ' ed iv F G0 G3 H2 σ' x s3 rx _ fun σ4 ρ4 s4 _ p4 => ?_
      have gg : Same G1 G3 := g'.trans gr.g
      exact p4 G3 H2 σ4 s4 _ (fun σ5 ρ5 G5 H5 s5 g5 p5 => ⟨ρ5, G5, s5, gg.trans g5, p5⟩) (fun v d L σ5 ρ5 G5 H5 s5 g5 r5 n5 p5 => q2 v d L σ5 ρ5 G5 H5 s5 ((g1.trans gg).trans g5) r5 n5 p5) (fun σ5 ρ5 G5 H5 s5 g5 p5 => q1 σ5 ρ5 G5 H5 s5 ((g1.trans gg).trans g5) p5) (fun σ5 ρ5 G5 H5 s5 g5 p5 => ⟨ρ5, G5, s5, gg.trans g5, p5⟩)
    · have e : i = ds.length := by omega
      subst e
      exact .inl ⟨w1, q1 σ' ρ' G' H' s' (g1.trans g') (fin ρ' iv)⟩
theorem o_seqP {rt : PyData → Rho → Prop} (h : WsP F G0 ts ρ ⟨fun ρ' => WsO F G0 tsu ρ' rt, rt, fun _ => False, fun _ => False⟩) : WsO F G0 (tSeq ts tsu) ρ rt := fun G H σ s D q =>
  h G H σ s { D with nx := tsu D } (fun σ' ρ' G' H' s' g p => p G' H' σ' s' D fun v d L σ2 ρ2 G2 H2 s2 g2 r n p2 => q v d L σ2 ρ2 G2 H2 s2 (g.trans g2) r n p2)
    q (fun _ _ _ _ _ _ z => z.elim) (fun _ _ _ _ _ _ z => z.elim)
end
end Dv

/-! Dv34: sizes of shown numbers. -/
namespace Dv
open PySem L2
theorem log_small {n : Nat} (h : n < 10 ^ 10) : n.log2 < 1920 := by
  by_cases e : n = 0
  · subst e
    decide
  · have : n < 2 ^ 40 := by omega
    have := (Nat.log2_lt e).mpr this
    omega
theorem OksN.nat {k n : Nat} (h : n < 10 ^ 10) : OksN k 10 (.int (n : Int)) := ⟨rfl, by
  show decide ((n : Int).natAbs.log2 < 1920) = true
  exact decide_eq_true (by rw [Int.natAbs_natCast]; exact log_small h), Nat.zero_le _, by
  show (PySem.Str.ofString (toString (n : Int))).length ≤ 10
  exact PySem.W.KT.len_num (by omega) (by omega)⟩
end Dv

/-! Dv35: things that are known to the object while others run (pins); a lambda called, by its body. -/
namespace Dv
open PySem PySem.Spec PyProof.Rows L2 LamX NdefX
def pinO (a : Addr) (o : Obj) : HO := .frz o (.own a)
abbrev Pins := List (Addr × Obj)
def dom (pn : Pins) : List Addr := pn.map (·.1)
def withP (H : Hp) (pn : Pins) : Hp := fun a => match pn.find? (fun p => p.1 == a) with
  | some p => some (pinO a p.2)
  | none => H a
theorem dom_mem {pn : Pins} {p : Addr × Obj} (h : p ∈ pn) : p.1 ∈ dom pn := List.mem_map.mpr ⟨p, h, rfl⟩
theorem withP_out {H : Hp} {pn : Pins} {a : Addr} (h : a ∉ dom pn) : withP H pn a = H a := by
  unfold withP
  rw [List.find?_eq_none.mpr fun p hp e => h (by rw [← (show p.1 = a by simpa using e)]; exact dom_mem hp)]
theorem withP_in {H : Hp} {pn : Pins} {h : Heap} (u : ∀ p ∈ pn, h.get? p.1 = some p.2) {p : Addr × Obj} (hp : p ∈ pn) : withP H pn p.1 = some (pinO p.1 p.2) := by
  unfold withP
  cases e : pn.find? (fun q => q.1 == p.1) with
  | none => exact absurd (List.find?_eq_none.mp e p hp) (by simp)
  | some q =>
    have h1 : q.1 = p.1 := by simpa using List.find?_some e
    have h2 := u q (List.mem_of_find?_eq_some e)
    have h3 := u p hp
    rw [h1, h3] at h2
    show some (pinO p.1 q.2) = some (pinO p.1 p.2)
    rw [Option.some.inj h2]
structure PinsOk (base : Heap) (outer : List PySem.Env) (h : Heap) (H : Hp) (pn : Pins) : Prop where
  at_ : ∀ p ∈ pn, h.get? p.1 = some p.2
  nb : ∀ p ∈ pn, base.get? p.1 = none
  nf : ∀ p ∈ pn, p.1 ∉ frs outer
  nh : ∀ p ∈ pn, H p.1 = none
section
variable {P : Program} {w : World} {K : PySem.W.Frag} {mg : Str → Option Value} {base : Heap} {A : Around} {outer : List PySem.Env} {s s' : Shared} {H : Hp} {pn : Pins} {h : Heap} {Q : VK} {E : XK} {u : Value}
theorem hok_in (hok : HOk P w H h) (at_ : ∀ p ∈ pn, h.get? p.1 = some p.2) (nh : ∀ p ∈ pn, H p.1 = none) : HOk P w (withP H pn) h := fun a o e => by
  have out : ∀ b u, H b = some u → b ∉ dom pn := fun b u q hd => by
    obtain ⟨p, hp, rfl⟩ := List.mem_map.mp hd
    rw [nh p hp] at q
    cases q
  by_cases ha : a ∈ dom pn
  · obtain ⟨p, hp, rfl⟩ := List.mem_map.mp ha
    rw [withP_in at_ hp] at e
    cases e
    exact ⟨at_ p hp, ⟨_, at_ p hp⟩⟩
  · rw [withP_out ha] at e
    exact (hok a o e).stay (fun _ _ _ q => q) (fun b q => by rw [withP_out (out b _ q)]; exact q) fun b xs q => by rw [withP_out (out b _ q)]; exact q
theorem pin_out {b : Addr} {u : HO} (hp : ∀ p ∈ pn, H p.1 = some (pinO p.1 p.2)) (q : H b = some u) (hu : ∀ a o, u ≠ pinO a o) : b ∉ dom pn := fun hd => by
  obtain ⟨p, hp', rfl⟩ := List.mem_map.mp hd
  rw [hp p hp'] at q
  exact hu _ _ (Option.some.inj q).symm
theorem hok_out (hok : HOk P w H h) (hp : ∀ p ∈ pn, H p.1 = some (pinO p.1 p.2)) : HOk P w (delM H (dom pn)) h := fun a o e => by
  by_cases ha : a ∈ dom pn
  · rw [delM_in ha] at e
    cases e
  · rw [delM_out ha] at e
    exact (hok a o e).stay (fun _ _ _ q => q) (fun b q => by rw [delM_out (pin_out hp q fun _ _ z => by cases z)]; exact q) fun b xs q => by rw [delM_out (pin_out hp q fun _ _ z => by cases z)]; exact q
theorem env_in (e0 : Env0 P w K mg base A outer s H) (pk : PinsOk base outer s.heap H pn) : Env0 P w K mg base A outer s (withP H pn) :=
  ⟨e0.frames, e0.mod, fun b o e => ⟨(e0.bs b o e).1, by
    rw [withP_out fun hd => by
      obtain ⟨p, hp, rfl⟩ := List.mem_map.mp hd
      rw [pk.nb p hp] at e
      cases e]
    exact (e0.bs b o e).2⟩, e0.bsz, e0.funs, fun b hb => by
    rw [withP_out fun hd => by
      obtain ⟨p, hp, rfl⟩ := List.mem_map.mp hd
      exact pk.nf p hp hb]
    exact e0.frf b hb, hok_in e0.hok pk.at_ pk.nh, e0.bare⟩
theorem env_out (e0 : Env0 P w K mg base A outer s H) (hp : ∀ p ∈ pn, H p.1 = some (pinO p.1 p.2)) : Env0 P w K mg base A outer s (delM H (dom pn)) := by
  have del : ∀ b, H b = none → delM H (dom pn) b = none := fun b n => by
    by_cases hd : b ∈ dom pn
    · exact delM_in hd
    · rw [delM_out hd]
      exact n
  exact ⟨e0.frames, e0.mod, fun b o e => ⟨(e0.bs b o e).1, del b (e0.bs b o e).2⟩, e0.bsz, e0.funs, fun b hb => del b (e0.frf b hb), hok_out e0.hok hp, e0.bare⟩
/-- behind a call for which some things were pinned -/
theorem ce_in (pk : PinsOk base outer s.heap H pn) (c : CE outer P w (withP H pn) s (fun v H' => (∀ p ∈ pn, H' p.1 = some (pinO p.1 p.2)) ∧ Q v (delM H' (dom pn))) u s') : CE outer P w H s Q u s' := by
  obtain ⟨v, H', os, bare, un, hok, r, q1, q2⟩ := c
  have out : ∀ b u, H b = some u → b ∉ dom pn := fun b u q hd => by
    obtain ⟨p, hp, rfl⟩ := List.mem_map.mp hd
    rw [pk.nh p hp] at q
    cases q
  refine ⟨v, delM H' (dom pn), os, bare, ⟨fun b o e n hb hx => ?_, fun b o e n hb hx => ?_, fun b o e n hx => ?_, un.there, fun b xs e => ?_, fun b o xs e => ?_, fun b ps e => ?_⟩, hok_out hok q1, r, q2⟩
  · by_cases hd : b ∈ dom pn
    · obtain ⟨p, hp, rfl⟩ := List.mem_map.mp hd
      have h1 := (hok p.1 _ (q1 p hp)).1
      rw [pk.at_ p hp] at e
      rw [← Option.some.inj e]
      exact h1
    · exact un.keep b o e (by rw [withP_out hd]; exact n) hb hx
  · exact un.slot b o e (by
      rw [withP_out fun hd => by
        obtain ⟨p, hp, rfl⟩ := List.mem_map.mp hd
        exact pk.nf p hp hb]
      exact n) hb hx
  · by_cases hd : b ∈ dom pn
    · exact delM_in hd
    · rw [delM_out hd]
      exact un.free b o e (by rw [withP_out hd]; exact n) hx
  · rw [delM_out (out b _ e)]
    exact un.tups b xs (by rw [withP_out (out b _ e)]; exact e)
  · rw [delM_out (out b _ e)]
    exact un.frzs b o xs (by rw [withP_out (out b _ e)]; exact e)
  · rw [delM_out (out b _ e)]
    exact un.tbls b ps (by rw [withP_out (out b _ e)]; exact e)
/-- behind a call for which the pins were taken out -/
theorem ce_out (e0 : Env0 P w K mg base A outer s H) (hp : ∀ p ∈ pn, H p.1 = some (pinO p.1 p.2)) (c : CE outer P w (delM H (dom pn)) s (fun v H' => (∀ p ∈ pn, H' p.1 = none) → Q v (withP H' pn)) u s') : CE outer P w H s Q u s' := by
  obtain ⟨v, H', os, bare, un, hok, r, q⟩ := c
  have at_ : ∀ p ∈ pn, s.heap.get? p.1 = some p.2 := fun p h => (e0.hok p.1 _ (hp p h)).1
  have nf : ∀ p ∈ pn, p.1 ∉ frs outer := fun p h hb => by
    have := e0.frf p.1 hb
    rw [hp p h] at this
    cases this
  have at2 : ∀ p ∈ pn, s'.heap.get? p.1 = some p.2 := fun p h => un.keep p.1 p.2 (at_ p h) (delM_in (dom_mem h)) (nf p h) (by simp)
  have nh2 : ∀ p ∈ pn, H' p.1 = none := fun p h => un.free p.1 p.2 (at_ p h) (delM_in (dom_mem h)) (by simp)
  have out0 : ∀ b, H b = none → b ∉ dom pn := fun b n hd => by
    obtain ⟨p, h, rfl⟩ := List.mem_map.mp hd
    rw [hp p h] at n
    cases n
  refine ⟨v, withP H' pn, os, bare, ⟨fun b o e n hb hx => ?_, fun b o e n hb hx => ?_, fun b o e n hx => ?_, un.there, fun b xs e => ?_, fun b o xs e => ?_, fun b ps e => ?_⟩, hok_in hok at2 nh2, r, q nh2⟩
  · exact un.keep b o e (by rw [delM_out (out0 b n)]; exact n) hb hx
  · exact un.slot b o e (by rw [delM_out (out0 b n)]; exact n) hb hx
  · rw [withP_out (out0 b n)]
    exact un.free b o e (by rw [delM_out (out0 b n)]; exact n) hx
  · have hd := pin_out hp e fun _ _ z => by cases z
    rw [withP_out hd]
    exact un.tups b xs (by rw [delM_out hd]; exact e)
  · by_cases hd : b ∈ dom pn
    · obtain ⟨p, h, rfl⟩ := List.mem_map.mp hd
      rw [hp p h] at e
      rw [withP_in at2 h, e]
    · rw [withP_out hd]
      exact un.frzs b o xs (by rw [delM_out hd]; exact e)
  · have hd := pin_out hp e fun _ _ z => by cases z
    rw [withP_out hd]
    exact un.tbls b ps (by rw [delM_out hd]; exact e)
theorem cx_out (e0 : Env0 P w K mg base A outer s H) (hp : ∀ p ∈ pn, H p.1 = some (pinO p.1 p.2)) (c : L2.CX P w outer (delM H (dom pn)) s (fun cls d H' => (∀ p ∈ pn, H' p.1 = none) → E cls d (withP H' pn)) u s') : L2.CX P w outer H s E u s' := by
  obtain ⟨a, B, H', cls, d, rfl, fl, hokB, ub, na, os, ag, hE⟩ := c
  have at_ : ∀ p ∈ pn, s.heap.get? p.1 = some p.2 := fun p h => (e0.hok p.1 _ (hp p h)).1
  have nf : ∀ p ∈ pn, p.1 ∉ frs outer := fun p h hb => by
    have := e0.frf p.1 hb
    rw [hp p h] at this
    cases this
  have at2 : ∀ p ∈ pn, B.get? p.1 = some p.2 := fun p h => ub.keep p.1 p.2 (at_ p h) (delM_in (dom_mem h)) (nf p h)
  have nh2 : ∀ p ∈ pn, H' p.1 = none := fun p h => ub.free p.1 p.2 (at_ p h) (delM_in (dom_mem h))
  have out0 : ∀ b, H b = none → b ∉ dom pn := fun b n hd => by
    obtain ⟨p, h, rfl⟩ := List.mem_map.mp hd
    rw [hp p h] at n
    cases n
  refine ⟨a, B, withP H' pn, cls, d, rfl, fl, hok_in hokB at2 nh2, ⟨fun b o e n hb => ?_, ub.slot, fun b o e n => ?_, ub.there, fun b xs e => ?_, fun b o xs e => ?_, fun b ps e => ?_⟩, ?_, os, ag, hE nh2⟩
  · exact ub.keep b o e (by rw [delM_out (out0 b n)]; exact n) hb
  · rw [withP_out (out0 b n)]
    exact ub.free b o e (by rw [delM_out (out0 b n)]; exact n)
  · have hd := pin_out hp e fun _ _ z => by cases z
    rw [withP_out hd]
    exact ub.tups b xs (by rw [delM_out hd]; exact e)
  · by_cases hd : b ∈ dom pn
    · obtain ⟨p, h, rfl⟩ := List.mem_map.mp hd
      rw [hp p h] at e
      rw [withP_in at2 h, e]
    · rw [withP_out hd]
      exact ub.frzs b o xs (by rw [delM_out hd]; exact e)
  · have hd := pin_out hp e fun _ _ z => by cases z
    rw [withP_out hd]
    exact ub.tbls b ps (by rw [delM_out hd]; exact e)
  · rw [withP_out fun hd => by
      obtain ⟨p, h, e⟩ := List.mem_map.mp hd
      have h1 := at2 p h
      rw [e, fl.2.1] at h1
      cases h1]
    exact na
/-- a lambda runs -/
theorem lam_run {N ps fr : List Str} {F : NF} {f : Addr} {us : List Value} {vs : List V} {ws : List (Option V)} {params : Arguments} {body : Expr} {pm ctv : Value} {k : Nat} {tb : TE} (S : NScope N ps fr F.scope) (hr : Room (k + 1) A) (e0 : Env0 P w K mg base A outer s H)
    (hf : s.heap.get? f = some (PySem.W.kla_obj "<lambda>" F.qual params body F.scope F.cl pm F.c ctv)) (hc : s.heap.CodeRec (.ref F.c) F.qual) (C : CellsAt F.cl fr ws s.heap H) (r : Vals vs us) (hl : vs.length = ps.length)
    (hbind : bindArgs (PySem.W.kla_fn "<lambda>" F.qual params body F.scope F.cl pm (.ref F.c) ctv) ⟨us, []⟩ = pure (ps.zip us))
    (hbody : PE (ncx (L2.CX P w) P w K mg base N F f A outer s H E) body tb) (ht : tb (startF N vs ws) H Q) : codeAny (model P w) A (.call (.ref f) ⟨us, []⟩) (CR (L2.CX P w) outer P w H s Q E) s := by
  have free : s.heap.NoLimit := e0.mod.nolimit.keeps fun a ob he => (e0.bs a ob he).1
  refine PySem.W.kla_callFunE hr.depth hf rfl S.co S.gen rfl hc ?_
  rw [hbind]
  refine wpAny_pure (wpAny_newFunctionEnv S.nocell ?_ (fun g hns hsb => ?_) S.kind)
  · rintro ⟨y, u⟩ hy
    exact S.par y (List.of_mem_zip hy).1
  · refine ⟨free.fresh _ hsb, ?_⟩
    show codeAny _ _ (.expr body (envF F f s.heap.objs.size)) _ _
    have keep : ∀ a ob, s.heap.get? a = some ob → g.get? a = some ob := fun a ob he => by
      refine hsb.extBut a ob (Nat.ne_of_lt (Heap.lt_size he)) ?_
      exact Heap.get?_push_of_some _ he
    have J : L2.Inv (ncx (L2.CX P w) P w K mg base N F f A outer s H E) [] (startF N vs ws) H { s with heap := g, toks := s.toks + (ps.zip us).length } := inv_startN S hr.hd e0 hl r C hns keep
    refine PySem.W.kla_codeExpr (wpAny_mono (hbody.run [] _ _ H Q J ht) ?_ fun _ _ z => z)
    rintro v t ⟨x, H2, J2, rx, q⟩
    exact ⟨x, H2, J2.os, J2.bare, J2.base, J2.hok, rx, q⟩
end
end Dv

/-! Dv36: tables of code objects beside a thing of ours. -/
namespace Dv
open PySem L2 LamX
/-- the tables of those defs that make lambdas; what they tell is data -/
def TabG (T : List (Addr × Str)) (G H : Hp) : Prop := ∀ p ∈ T, ∃ ps : Array Value, H p.1 = some (.tbl ps) ∧ TriplesOk ps.toList ∧ ∀ (pos : Pos) (cv : Value), codeAmong pos ps.toList = some cv → ∃ c, cv = .ref c ∧ G c = some (CodeO c p.2)
def tabs (T : List (Addr × Str)) : List Addr := T.map (·.1)
theorem TabG.mono {T : List (Addr × Str)} {G H G' H' : Hp} (t : TabG T G H) (g : Same G G') (h : ∀ a ∈ tabs T, H' a = H a) : TabG T G' H' := fun p hp => by
  obtain ⟨ps, h1, h2, h3⟩ := t p hp
  refine ⟨ps, by rw [h p.1 (List.mem_map.mpr ⟨p, hp, rfl⟩)]; exact h1, h2, fun pos cv hc => ?_⟩
  obtain ⟨c, e1, e2⟩ := h3 pos cv hc
  exact ⟨c, e1, g _ _ e2⟩
theorem TabG.live {T : List (Addr × Str)} {G H : Hp} (t : TabG T G H) : ∀ a ∈ tabs T, H a ≠ none := fun a ha => by
  obtain ⟨p, hp, rfl⟩ := List.mem_map.mp ha
  obtain ⟨ps, h1, _⟩ := t p hp
  rw [h1]
  simp
/-- a thing and the tables -/
def withT (T : List (Addr × Str)) (r : Res) : Res where
  fp := r.fp ++ tabs T
  ok := fun G H v => r.ok G H v ∧ TabG T G H ∧ ∀ a ∈ r.fp, a ∉ tabs T
  mono := by
    rintro G H G' H' v ⟨h1, h2, h3⟩ g k
    exact ⟨r.mono h1 g fun a ha => k a (List.mem_append_left _ ha), h2.mono g fun a ha => k a (List.mem_append_right _ ha), h3⟩
/-- a value that holds data, as a thing -/
def datR (d : PyData) : Res where
  fp := []
  ok := fun G _ v => Rp G v d
  mono := fun h g _ => h.mono g
/-- nothing is known -/
def noR : Res where
  fp := []
  ok := fun _ _ _ => True
  mono := fun _ _ _ => trivial
section
variable {F G0 G H : Hp} {σ : L2.St} {ρ : Rho} {i : Nat} {R r : Res} {T : List (Addr × Str)}
theorem Sta.swap (s : Sta F G0 G H σ ρ) (h : ρ[i]? = some (.res R)) (ok : ∀ v, R.ok G H v → r.ok G H v) (sub : ∀ a ∈ r.fp, a ∈ R.fp) : Sta F G0 G H σ (ρ.set i (.res r)) := by
  have hi : i < ρ.length := (List.getElem?_eq_some_iff.mp h).1
  refine ⟨s.fh, s.gh, s.g0, s.new, by rw [List.length_set, s.len], fun j x e => ?_, fun j k x y hjk e1 e2 a ha hb => ?_⟩
  · by_cases hj : i = j
    · subst hj
      rw [List.getElem?_set_self hi] at e
      cases e
      obtain ⟨v, e', k, n⟩ := s.slot i _ h
      exact ⟨v, e', ok v k, fun a ha => n a (sub a ha)⟩
    · rw [List.getElem?_set_ne hj] at e
      exact s.slot j x e
  · by_cases hj : i = j
    · subst hj
      rw [List.getElem?_set_self hi] at e1
      cases e1
      rw [List.getElem?_set_ne (by omega)] at e2
      exact s.apart i k _ y hjk h e2 a (sub a ha) hb
    · rw [List.getElem?_set_ne hj] at e1
      by_cases hk : i = k
      · subst hk
        rw [List.getElem?_set_self hi] at e2
        cases e2
        exact s.apart j i x _ hjk e1 h a ha (sub a hb)
      · rw [List.getElem?_set_ne hk] at e2
        exact s.apart j k x y hjk e1 e2 a ha hb
theorem Sta.tied {M : List Addr} (s : Sta F G0 G H σ ρ) (h : ρ[i]? = some (.res r)) (n : ∀ a ∈ M, F a = none ∧ G a = none ∧ H a ≠ none) (ap : ∀ (j : Nat) (x : Slot), ρ[j]? = some x → ∀ a ∈ x.fp, a ∉ M) (efp : R.fp = r.fp ++ M) (ok : ∀ v, r.ok G H v → R.ok G H v) : Sta F G0 G H σ (ρ.set i (.res R)) := by
  have hi : i < ρ.length := (List.getElem?_eq_some_iff.mp h).1
  refine ⟨s.fh, s.gh, s.g0, s.new, by rw [List.length_set, s.len], fun j x e => ?_, fun j k x y hjk e1 e2 a ha hb => ?_⟩
  · by_cases hj : i = j
    · subst hj
      rw [List.getElem?_set_self hi] at e
      cases e
      obtain ⟨v, e', k, n'⟩ := s.slot i _ h
      refine ⟨v, e', ok v k, fun a ha => ?_⟩
      rw [efp] at ha
      rcases List.mem_append.mp ha with z | z
      · exact n' a z
      · exact n a z
    · rw [List.getElem?_set_ne hj] at e
      exact s.slot j x e
  · by_cases hj : i = j
    · subst hj
      rw [List.getElem?_set_self hi] at e1
      cases e1
      rw [List.getElem?_set_ne (by omega)] at e2
      have ha' : a ∈ R.fp := ha
      rw [efp] at ha'
      rcases List.mem_append.mp ha' with z | z
      · exact s.apart i k _ y hjk h e2 a z hb
      · exact ap k y e2 a hb z
    · rw [List.getElem?_set_ne hj] at e1
      by_cases hk : i = k
      · subst hk
        rw [List.getElem?_set_self hi] at e2
        cases e2
        have hb' : a ∈ R.fp := hb
        rw [efp] at hb'
        rcases List.mem_append.mp hb' with z | z
        · exact s.apart j i x _ hjk e1 h a ha z
        · exact ap j x e1 a ha z
      · rw [List.getElem?_set_ne hk] at e2
        exact s.apart j k x y hjk e1 e2 a ha hb
/-- the tables are held while more is reckoned -/
theorem Sta.unT (s : Sta F G0 G H σ ρ) (h : ρ[i]? = some (.res (withT T r))) : Sta (frz F H (tabs T)) G0 G H σ (ρ.set i (.res r)) ∧ TabG T G H ∧ (∀ a ∈ tabs T, F a = none ∧ G a = none ∧ H a ≠ none) := by
  obtain ⟨v, e, ⟨k1, k2, k3⟩, n⟩ := s.getR h
  have nT : ∀ a ∈ tabs T, F a = none ∧ G a = none ∧ H a ≠ none := fun a ha => n a (List.mem_append_right _ ha)
  have s1 := s.swap (r := r) h (fun v k => k.1) fun a ha => List.mem_append_left _ ha
  refine ⟨s1.holdM (fun a ha => (nT a ha).2.1) (fun j x ej a ha hb => ?_), k2, nT⟩
  have hi : i < ρ.length := (List.getElem?_eq_some_iff.mp h).1
  by_cases hj : i = j
  · subst hj
    rw [List.getElem?_set_self hi] at ej
    cases ej
    exact k3 a ha hb
  · rw [List.getElem?_set_ne hj] at ej
    rcases Nat.lt_or_ge i j with hl | hl
    · exact s.apart i j _ _ hl h ej a (List.mem_append_right _ hb) ha
    · exact s.apart j i _ _ (by omega) ej h a ha (List.mem_append_right _ hb)
theorem Sta.reT {G' H' : Hp} {σ' : L2.St} {ρ' : Rho} {r' : Res} (s : Sta (frz F H (tabs T)) G0 G' H' σ' ρ') (g0 : Same G0 G) (g : Same G G') (t : TabG T G H) (nT : ∀ a ∈ tabs T, F a = none ∧ G a = none ∧ H a ≠ none) (h : ρ'[i]? = some (.res r')) : Sta F G0 G' H' σ' (ρ'.set i (.res (withT T r'))) := by
  obtain ⟨s1, e1, e2, ap⟩ := s.unholdM fun a ha => ⟨(nT a ha).1, none_of g0 (nT a ha).2.1, (nT a ha).2.2⟩
  refine s1.tied h (fun a ha => ⟨(nT a ha).1, e2 a ha, by rw [e1 a ha]; exact (nT a ha).2.2⟩) ap rfl fun v k => ⟨k, t.mono g e1, fun a ha hb => ap i _ h a ha hb⟩
end
section
variable {te ta tb : TE} {tt : TT} {tas : TA} {ts : TS} {ρ : Rho} {Φ : PyData → Rho → Prop} {Φb : Bool → Rho → Prop} {K : PySem.W.Frag} {i j : Nat} {r : Res} {T : List (Addr × Str)} {p : Addr}
/-- what does not touch the tables -/
theorem we_T (h : ρ[i]? = some (.res (withT T r))) (q : We te (ρ.set i (.res r)) fun d ρ' => ∃ r', ρ'[i]? = some (.res r') ∧ Φ d (ρ'.set i (.res (withT T r')))) : We te ρ Φ := fun F G0 G H σ s Q k => by
  obtain ⟨s1, t, nT⟩ := s.unT h
  exact q _ G0 G H σ s1 Q fun v d ρ' G' H' s' g rv ⟨r', e, p⟩ => k v d _ G' H' (s'.reT s.g0 g t nT e) g rv p
theorem ws_T {F G0 : Hp} {Ψ : Outs} (h : ρ[i]? = some (.res (withT T r))) (q : ∀ F, Ws F G0 ts (ρ.set i (.res r)) { nx := fun ρ' => ∃ r', ρ'[i]? = some (.res r') ∧ Ψ.nx (ρ'.set i (.res (withT T r'))), rt := fun d ρ' => ∃ r', ρ'[i]? = some (.res r') ∧ Ψ.rt d (ρ'.set i (.res (withT T r'))), bk := fun ρ' => ∃ r', ρ'[i]? = some (.res r') ∧ Ψ.bk (ρ'.set i (.res (withT T r'))), ct := fun ρ' => ∃ r', ρ'[i]? = some (.res r') ∧ Ψ.ct (ρ'.set i (.res (withT T r'))) }) : Ws F G0 ts ρ Ψ := fun G H σ s D q1 q2 q3 q4 => by
  obtain ⟨s1, t, nT⟩ := s.unT h
  exact q _ G H σ s1 D (fun σ' ρ' G' H' s' g ⟨r', e, p⟩ => q1 σ' _ G' H' (s'.reT s.g0 g t nT e) g p) (fun v d σ' ρ' G' H' s' g rv ⟨r', e, p⟩ => q2 v d σ' _ G' H' (s'.reT s.g0 g t nT e) g rv p)
    (fun σ' ρ' G' H' s' g ⟨r', e, p⟩ => q3 σ' _ G' H' (s'.reT s.g0 g t nT e) g p) (fun σ' ρ' G' H' s' g ⟨r', e, p⟩ => q4 σ' _ G' H' (s'.reT s.g0 g t nT e) g p)
/-- a draw where the purse's slot bears the tables -/
theorem we_callZW {P : Nat → List PyData → Prop} {pre : Nat → List PyData → (Nat → PyData → Prop) → Prop} {E : XK} {n0 : Nat} (h0 : ρ[i]? = some (.res (withT T (lstP p (P n0)))))
    (h : Wa tas ρ fun ds ρ1 => ∃ n, ρ1[i]? = some (.res (withT T (lstP p (P n)))) ∧ pre n ds fun n' d => Φ d (ρ1.set i (.res (withT T (lstP p (P n')))))) : We (tCall (SpZ P pre) [] E (tCons (tVar i) tas)) ρ Φ := fun F G0 G H σ s Q k => by
  obtain ⟨v, e, ⟨⟨hv, _⟩, _⟩, _⟩ := s.getR h0
  subst hv
  refine ⟨_, e, h F G0 G H σ s _ fun vs ds ρ1 G1 H1 s1 g1 r1 ⟨n, e1, hp⟩ => ?_⟩
  have hi : i < ρ1.length := (List.getElem?_eq_some_iff.mp e1).1
  obtain ⟨s2, t, nT⟩ := s1.unT e1
  have e2 : (ρ1.set i (.res (lstP p (P n))))[i]? = some (.res (lstP p (P n))) := List.getElem?_set_self hi
  obtain ⟨v1, e1', ok1, hfp⟩ := s2.getR e2
  have ev : v1 = .ref p := ok1.1
  subst ev
  refine ⟨G1, p, vs, ds, n, _, by rw [List.append_nil], ok1, (hfp p List.mem_cons_self).2.1, s1.gh, r1, hp, fun v d n' G' H' gr ok r q => ?_⟩
  have s3 := s2.growP e2 gr ok
  rw [List.set_set] at s3
  have s4 := s3.reT (T := T) (r' := lstP p (P n')) s1.g0 gr.g t nT (List.getElem?_set_self hi)
  rw [List.set_set] at s4
  exact k v d _ G' H' s4 (g1.trans gr.g) r q
/-- data read where its slot bears the tables -/
theorem we_varT {d : PyData} (h : ρ[i]? = some (.res (withT T (datR d)))) (q : Φ d ρ) : We (tVar i) ρ Φ := fun F G0 G H σ s Q k => by
  obtain ⟨v, e, ⟨r, _⟩, _⟩ := s.getR h
  exact ⟨v, e, k v d ρ G H s (Same.refl G) r q⟩
end
/-! ### defs that make lambdas -/
/-- with a purse -/
def SpZT (T : List (Addr × Str)) (P : Nat → List PyData → Prop) (pre : Nat → List PyData → (Nat → PyData → Prop) → Prop) : Sp := fun vs H Q _ => ∃ G p ws ds n φ, vs = .ref p :: ws ∧ (lstP p (P n)).ok G H (.ref p) ∧ G p = none ∧ Same G H ∧ RpA G ws ds ∧ TabG T G H ∧ (∀ a ∈ tabs T, G a = none ∧ a ≠ p) ∧ pre n ds φ ∧
  ∀ v d n' G' H', GrowL (p :: tabs T) G H G' H' → (lstP p (P n')).ok G' H' (.ref p) → TabG T G' H' → (∀ a ∈ p :: tabs T, G' a = none) → Rp G' v d → φ n' d → Q v H'
theorem spzt_len {T : List (Addr × Str)} {P : Nat → List PyData → Prop} {pre : Nat → List PyData → (Nat → PyData → Prop) → Prop} {n : Nat} (hl : ∀ m ds φ, pre m ds φ → ds.length = n) : ∀ vs H Q E, SpZT T P pre vs H Q E → vs.length = n + 1 :=
  fun vs H Q E ⟨G, p, ws, ds, m, φ, e, _, _, _, r, _, _, hp, _⟩ => by rw [e, List.length_cons, r.len, hl m ds φ hp]
/-- without -/
def SpDT (T : List (Addr × Str)) (pre : List PyData → (PyData → Prop) → Prop) : Sp := fun vs H Q _ => ∃ G ds φ, Same G H ∧ RpA G vs ds ∧ TabG T G H ∧ (∀ a ∈ tabs T, G a = none) ∧ pre ds φ ∧
  ∀ v d G' H', GrowL (tabs T) G H G' H' → TabG T G' H' → (∀ a ∈ tabs T, G' a = none) → Rp G' v d → φ d → Q v H'
theorem spdt_len {T : List (Addr × Str)} {pre : List PyData → (PyData → Prop) → Prop} {n : Nat} (hl : ∀ ds φ, pre ds φ → ds.length = n) : ∀ vs H Q E, SpDT T pre vs H Q E → vs.length = n :=
  fun vs H Q E ⟨G, ds, φ, _, r, _, _, hp, _⟩ => by rw [r.len, hl ds φ hp]
theorem fn_zT {T : List (Addr × Str)} {P : Nat → List PyData → Prop} {pre : Nat → List PyData → (Nat → PyData → Prop) → Prop} {t : TS} {N : List Str} {n : Nat} (hn : n + 1 ≤ N.length) (hl : ∀ m ds φ, pre m ds φ → ds.length = n)
    (h : ∀ F G0 p m ds φ, pre m ds φ → Ws F G0 t (slotsZ N.length (withT T (lstP p (P m))) ds) { nx := fun ρ' => ∃ m', ρ'[0]? = some (.res (withT T (lstP p (P m')))) ∧ φ m' .none, rt := fun d ρ' => ∃ m', ρ'[0]? = some (.res (withT T (lstP p (P m')))) ∧ φ m' d })
    {vs : List V} {H : Hp} {Q : VK} {E : XK} (hs : SpZT T P pre vs H Q E) : t { nx := fun _ H' => Q .non H', rt := Q } (L2.start N vs) H := by
  obtain ⟨G, p, ws, ds, m, φ, e, hok, hG, s, r, tb, nT, hp, k⟩ := hs
  subst e
  have hv : ws.length + 1 ≤ N.length := by rw [r.len, hl m ds φ hp]; exact hn
  obtain ⟨_, xs, es, hx, rx, hP⟩ := id hok
  have st : Sta (delM H (p :: tabs T)) G G H (L2.start N (.ref p :: ws)) (slotsZ N.length (withT T (lstP p (P m))) ds) := by
    refine ⟨fun a o e => ?_, s, Same.refl G, fun a o e _ => e, ?_, fun i x e => ?_, fun i j x y hij e1 e2 a ha hb => ?_⟩
    · by_cases hap : a ∈ p :: tabs T
      · rw [delM_in hap] at e
        cases e
      · rw [delM_out hap] at e
        exact e
    · unfold L2.start slotsZ slots0
      have := r.len
      simp
      omega
    · cases i with
      | zero =>
        simp only [slotsZ, List.getElem?_cons_zero, Option.some.injEq] at e
        subst e
        refine ⟨.ref p, rfl, ⟨hok, tb, fun a ha hb => (nT a hb).2 (by simpa [lstP] using ha)⟩, fun a ha => ?_⟩
        have ha' : a ∈ p :: tabs T := ha
        refine ⟨delM_in ha', ?_, ?_⟩
        · rcases List.mem_cons.mp ha' with rfl | z
          · exact hG
          · exact (nT a z).1
        · rcases List.mem_cons.mp ha' with rfl | z
          · rw [hx]; simp
          · exact tb.live a z
      | succ i =>
        simp only [slotsZ, List.getElem?_cons_succ] at e
        rcases slots0_get e with ⟨d, rfl, h⟩ | rfl
        · obtain ⟨v, e1, e2⟩ := r.get h
          exact ⟨v, by rw [start_get (show (V.ref p :: ws)[i + 1]? = some v by simpa using e1)]; rfl, e2⟩
        · trivial
    · cases j with
      | zero => omega
      | succ j =>
        simp only [slotsZ, List.getElem?_cons_succ] at e2
        rcases slots0_get e2 with ⟨d, rfl, h⟩ | rfl <;> cases hb
  have fin : ∀ (v : V) (d : PyData) (σ' : L2.St) (ρ' : Rho) (G' H' : Hp), Sta (delM H (p :: tabs T)) G G' H' σ' ρ' → Same G G' → Rp G' v d → (∃ m', ρ'[0]? = some (.res (withT T (lstP p (P m')))) ∧ φ m' d) → Q v H' := fun v d σ' ρ' G' H' s' g r' ⟨m', e, q⟩ => by
    obtain ⟨v0, e0, ⟨ok0, tb', _⟩, hfp⟩ := s'.getR e
    have ev : v0 = .ref p := ok0.1
    subst ev
    have nG : ∀ a ∈ p :: tabs T, G' a = none := fun a ha => (hfp a ha).2.1
    refine k v d m' G' H' ⟨g, fun a o ha e => s'.fh a o (by rw [delM_out ha]; exact e), s'.gh, fun a o ha e n => ?_⟩ ok0 tb' nG r' q
    refine s'.new a o e ?_
    rw [delM_out ha]
    exact n
  exact h _ G p m ds φ hp G H _ st _ (fun σ' ρ' G' H' s' g q => fin .non .none σ' ρ' G' H' s' g .non q) (fun v d σ' ρ' G' H' s' g r' q => fin v d σ' ρ' G' H' s' g r' q) (fun _ _ _ _ _ _ q => q.elim) (fun _ _ _ _ _ _ q => q.elim)
/-- the first argument's slot bears the tables -/
theorem fn_dT {T : List (Addr × Str)} {pre : List PyData → (PyData → Prop) → Prop} {t : TS} {N : List Str} {n : Nat} (hn : n + 1 ≤ N.length) (hl : ∀ ds φ, pre ds φ → ds.length = n + 1)
    (h : ∀ F G0 d0 ds φ, pre (d0 :: ds) φ → Ws F G0 t (slotsZ N.length (withT T (datR d0)) ds) { nx := fun ρ' => ρ'[0]? = some (.res (withT T (datR d0))) ∧ φ .none, rt := fun d ρ' => ρ'[0]? = some (.res (withT T (datR d0))) ∧ φ d })
    {vs : List V} {H : Hp} {Q : VK} {E : XK} (hs : SpDT T pre vs H Q E) : t { nx := fun _ H' => Q .non H', rt := Q } (L2.start N vs) H := by
  obtain ⟨G, ds, φ, s, r, tb, nT, hp, k⟩ := hs
  have hl' := hl ds φ hp
  cases r with
  | nil => simp at hl'
  | cons r0 r =>
    rename_i v0 ws d0 ds
    have hv : ws.length + 1 ≤ N.length := by rw [r.len]; simp at hl'; omega
    have st : Sta (delM H (tabs T)) G G H (L2.start N (v0 :: ws)) (slotsZ N.length (withT T (datR d0)) ds) := by
      refine ⟨fun a o e => ?_, s, Same.refl G, fun a o e _ => e, ?_, fun i x e => ?_, fun i j x y hij e1 e2 a ha hb => ?_⟩
      · by_cases hap : a ∈ tabs T
        · rw [delM_in hap] at e
          cases e
        · rw [delM_out hap] at e
          exact e
      · unfold L2.start slotsZ slots0
        have := r.len
        simp
        omega
      · cases i with
        | zero =>
          simp only [slotsZ, List.getElem?_cons_zero, Option.some.injEq] at e
          subst e
          refine ⟨v0, by rw [start_get (show (v0 :: ws)[0]? = some v0 from rfl)]; rfl, ⟨r0, tb, fun a ha => nomatch ha⟩, fun a ha => ?_⟩
          have ha' : a ∈ tabs T := ha
          exact ⟨delM_in ha', nT a ha', tb.live a ha'⟩
        | succ i =>
          simp only [slotsZ, List.getElem?_cons_succ] at e
          rcases slots0_get e with ⟨d, rfl, h⟩ | rfl
          · obtain ⟨v, e1, e2⟩ := r.get h
            exact ⟨v, by rw [start_get (show (v0 :: ws)[i + 1]? = some v by simpa using e1)]; rfl, e2⟩
          · trivial
      · cases j with
        | zero => omega
        | succ j =>
          simp only [slotsZ, List.getElem?_cons_succ] at e2
          rcases slots0_get e2 with ⟨d, rfl, h⟩ | rfl <;> cases hb
    have fin : ∀ (v : V) (d : PyData) (σ' : L2.St) (ρ' : Rho) (G' H' : Hp), Sta (delM H (tabs T)) G G' H' σ' ρ' → Same G G' → Rp G' v d → (ρ'[0]? = some (.res (withT T (datR d0))) ∧ φ d) → Q v H' := fun v d σ' ρ' G' H' s' g r' ⟨e, q⟩ => by
      obtain ⟨v1, e0, ⟨ok0, tb', _⟩, hfp⟩ := s'.getR e
      have nG : ∀ a ∈ tabs T, G' a = none := fun a ha => (hfp a ha).2.1
      refine k v d G' H' ⟨g, fun a o ha e => s'.fh a o (by rw [delM_out ha]; exact e), s'.gh, fun a o ha e n => ?_⟩ tb' nG r' q
      refine s'.new a o e ?_
      rw [delM_out ha]
      exact n
    exact h _ G d0 ds φ hp G H _ st _ (fun σ' ρ' G' H' s' g q => fin .non .none σ' ρ' G' H' s' g .non q) (fun v d σ' ρ' G' H' s' g r' q => fin v d σ' ρ' G' H' s' g r' q) (fun _ _ _ _ _ _ q => q.elim) (fun _ _ _ _ _ _ q => q.elim)
end Dv

/-! Dv37: a lambda without parameters is made and handed to a def of the text. -/
namespace Dv
open PySem PySem.Spec PyProof.Rows L2 LamX NdefX
/-- behind the making: G1 and H1 know the code object c' -/
structure Made (G H : Hp) (Pt : Addr) (q : Str) (c' : Addr) (G1 H1 : Hp) : Prop where
  how : (H1 = H ∧ G1 = G) ∨ (H c' = none ∧ ∃ ps1, H1 = upd (upd H Pt (.tbl ps1)) c' (CodeO c' q) ∧ G1 = upd G c' (CodeO c' q))
  code : G1 c' = some (CodeO c' q)
  tab : ∃ ps1 : Array Value, H1 Pt = some (.tbl ps1) ∧ TriplesOk ps1.toList ∧ ∀ (pos : Pos) (cv : Value), codeAmong pos ps1.toList = some cv → ∃ c, cv = .ref c ∧ G1 c = some (CodeO c q)
/-- f may be called as long as the pins stay: tb tells what that makes -/
def LamRun (P : Program) (w : World) (K : PySem.W.Frag) (mg : Str → Option Value) (base : Heap) (k : Nat) (f c' : Addr) (q : Str) (pn : Pins) (tb : XK → TE) (σl : L2.St) : Prop :=
  ∀ (A : Around) (outer : List PySem.Env) (s : Shared) (H : Hp) (Q : VK) (E : XK), Room k A → A.guards = some [] → Env0 P w K mg base A outer s H → (∀ p ∈ pn, H p.1 = some (pinO p.1 p.2)) → H c' = some (CodeO c' q) →
    tb (fun cls d H' => (∀ p ∈ pn, H' p.1 = none) → E cls d (withP H' pn)) σl (delM H (dom pn)) (fun v H' => (∀ p ∈ pn, H' p.1 = none) → Q v (withP H' pn)) → codeAny (model P w) A (.call (.ref f) ⟨[], []⟩) (CR (L2.CX P w) outer P w H s Q E) s
def FnObj (o : Obj) : Prop := ∃ (oc : Value) (od : Option Addr) (fd : FuncData) (sl : Array (Option Value)), o = ⟨oc, od, .func fd, sl⟩
section
variable {X : Cx} {pins : List (Addr × Obj)} {σ : L2.St} {H : Hp} {s : Shared}
theorem inv_pins {pins' : List (Addr × Obj)} (I : L2.Inv X pins σ H s) (h : ∀ b ∈ X.pn ++ pins', s.heap.get? b.1 = some b.2 ∧ H b.1 = none ∧ b.1 ≠ X.env.locals ∧ b.1 ∉ X.fs ∧ ∀ v, b.2.data ≠ .cell v) : L2.Inv X pins' σ H s :=
  ⟨I.ok, I.os, I.bare, I.base, I.loc, I.cell, I.free, I.freeC, h, I.hok, I.len⟩
theorem lam_make3 {G : Hp} {ps : Array Value} {c Pt : Addr} {params : Arguments} {body : Expr} {scope : Scope} {pos : Pos} {E : Value → Shared → Prop} {Q : Value → Shared → Prop} (I : L2.Inv X pins σ H s) (TB : TabB X.base X.mg c Pt) (hcode : X.env.code = .ref c)
    (hP : H Pt = some (.tbl ps)) (ht : TriplesOk ps.toList) (sm : Same G H) (nP : G Pt = none) (ha : ∀ (pos : Pos) (cv : Value), codeAmong pos ps.toList = some cv → ∃ c, cv = .ref c ∧ G c = some (CodeO c (X.env.qual ++ "<lambda>")))
    (hdef : defaultsOf params X.env = ([], [])) (hfree : ∀ y ∈ scope.names, y.2 = .free → ∃ c, X.env.cells.lookup y.1 = some c)
    (h : ∀ (f c' : Addr) (pm ctv : Value) (G1 H1 : Hp) (s' : Shared), L2.Inv X pins σ H1 s' → Made G H Pt (X.env.qual ++ "<lambda>") c' G1 H1 → s'.heap.get? f = some (PySem.W.kla_obj "<lambda>" (X.env.qual ++ "<lambda>") params body scope (cloFrom X.env.cells scope.names []) pm c' ctv) →
      H1 f = none → f ∉ frs X.stack → X.base.get? f = none → Q (.ref f) s') : wpAny (model X.prog X.w) X.A (eval (.Lambda params body scope pos) X.env) Q E s := by
  have tP : s.heap.get? Pt = some { cls := .none, data := .fields ps } := I.hok Pt _ hP
  have fresh : ∀ f, s.heap.objs.size ≤ f → f ∉ frs X.stack ∧ X.base.get? f = none := fun f hf => by
    refine ⟨fun z => ?_, Heap.get?_none_of_le (Nat.le_trans (Nat.le_trans I.ok.bsz I.sz) hf)⟩
    rcases List.mem_cons.mp (I.stkSub f z) with e | e
    · rw [e] at hf
      exact absurd (Nat.lt_of_lt_of_le I.lt hf) (Nat.lt_irrefl _)
    · exact I.nofs hf e
  refine PySem.W.kla_eval hdef ?_
  cases hc : codeAmong pos ps.toList with
  | some cv =>
    obtain ⟨c', rfl, hg⟩ := ha pos cv hc
    refine PySem.W.kla_makeFunctionHit (mg := X.mg) (c := c) (P := Pt) (ps := ps) (closure_ok hfree) I.ok.glob (I.mod.glob.keeps I.bk) hcode (TB.code.keeps I.bk) tP ht hc (TB.bm.keeps I.bk) fun ctv g tk kp hsz => ?_
    exact h g.objs.size c' _ ctv G H _ (I.kept fun a ob e => Heap.get?_push_of_some _ (kp a ob e)) ⟨.inl ⟨rfl, rfl⟩, hg, ps, hP, ht, ha⟩ (Heap.get?_push_size _ rfl) (I.hok.fresh hsz) (fresh _ hsz).1 (fresh _ hsz).2
  | none =>
    refine PySem.W.kla_makeFunction (mg := X.mg) (c := c) (P := Pt) (ps := ps) (closure_ok hfree) I.ok.glob (I.mod.glob.keeps I.bk) hcode (TB.code.keeps I.bk) tP ht hc TB.gP (TB.bm.keeps I.bk) fun c' ctv g tk ext hge hlt hrec htb => ?_
    obtain ⟨c2, oc, vs, t, e2, hoc, hd, hv⟩ := hrec
    cases e2
    have hsz : s.heap.objs.size ≤ g.objs.size := by omega
    have nC : H c' = none := I.hok.fresh hge
    have nPc : Pt ≠ c' := ne_of_none hP nC
    have I1 := inv_table (t' := tk) (q := X.env.qual ++ "<lambda>") (more := #[rawInt pos.line, rawInt pos.col, .ref c']) (h' := g.push (PySem.W.kla_obj "<lambda>" (X.env.qual ++ "<lambda>") params body scope (cloFrom X.env.cells scope.names []) ((X.mg "__name__").getD .none) c' ctv)) I hP
      (fun a ob ne e => Heap.get?_push_of_some _ (ext a ob ne e)) (Heap.get?_push_of_some _ htb) hge ⟨oc, vs, t, Heap.get?_push_of_some _ hoc, hd, hv⟩
    have eL : (ps ++ #[rawInt pos.line, rawInt pos.col, .ref c']).toList = ps.toList ++ [rawInt pos.line, rawInt pos.col, .ref c'] := by simp
    have nf : upd (upd H Pt (.tbl (ps ++ #[rawInt pos.line, rawInt pos.col, .ref c']))) c' (CodeO c' (X.env.qual ++ "<lambda>")) g.objs.size = none := by
      have h1 : g.objs.size ≠ c' := by omega
      have h2 : g.objs.size ≠ Pt := Nat.ne_of_gt (Nat.lt_of_lt_of_le (Heap.lt_size tP) hsz)
      rw [upd_ne h1, upd_ne h2]
      exact I.hok.fresh hsz
    refine h g.objs.size c' _ ctv (upd G c' (CodeO c' (X.env.qual ++ "<lambda>"))) _ _ I1 ⟨.inr ⟨nC, _, rfl, rfl⟩, upd_same, ps ++ #[rawInt pos.line, rawInt pos.col, .ref c'], ?_, ?_, fun pos' cv hcv => ?_⟩ (Heap.get?_push_size _ rfl) nf (fresh _ hsz).1 (fresh _ hsz).2
    · rw [upd_ne nPc, upd_same]
    · rw [eL]
      exact PySem.TriplesOk_snoc _ _ _ _ ht
    · rw [eL] at hcv
      rcases among_app _ ht hcv with z | z
      · obtain ⟨c0, e1, e2⟩ := ha pos' cv z
        refine ⟨c0, e1, ?_⟩
        rw [upd_ne fun z => by rw [z, none_of sm nC] at e2; cases e2]
        exact e2
      · exact ⟨c', z, upd_same⟩
/-- the captured cells, by their objects -/
theorem cell_pins (I : L2.Inv X pins σ H s) (hk : ∀ y, (X.env.scope.names.lookup y = some .cell ∨ X.env.scope.names.lookup y = some .free) → True) : ∀ fr : List Str, (∀ y ∈ fr, ∃ c, X.env.cells.lookup y = some c) →
    ∃ pn : Pins, (∀ p ∈ pn, ∃ y ∈ fr, X.env.cells.lookup y = some p.1 ∧ s.heap.get? p.1 = some p.2) ∧ ∀ y ∈ fr, ∀ c, X.env.cells.lookup y = some c → ∃ o, (c, o) ∈ pn
  | [], _ => ⟨[], by simp, by simp⟩
  | y :: fr, h => by
    obtain ⟨pn, h1, h2⟩ := cell_pins I hk fr fun z hz => h z (List.mem_cons_of_mem _ hz)
    obtain ⟨c, hc⟩ := h y List.mem_cons_self
    obtain ⟨v, o, ho, _⟩ := I.cell y c hc
    refine ⟨(c, o) :: pn, fun p hp => ?_, fun z hz c' hc' => ?_⟩
    · rcases List.mem_cons.mp hp with rfl | hp
      · exact ⟨y, List.mem_cons_self, hc, ho⟩
      · obtain ⟨z, hz, e1, e2⟩ := h1 p hp
        exact ⟨z, List.mem_cons_of_mem _ hz, e1, e2⟩
    · rcases List.mem_cons.mp hz with rfl | hz
      · rw [hc] at hc'
        cases hc'
        exact ⟨o, List.mem_cons_self⟩
      · obtain ⟨o', ho'⟩ := h2 z hz c' hc'
        exact ⟨o', List.mem_cons_of_mem _ ho'⟩
end
/-- g(lambda: .., e, ..): what the maker must know (a table and the code objects in it), what g is handed -/
def tLamC (Pt : Addr) (q : Str) (js : List Nat) (Lok : Addr → Addr → Pins → List (Option V) → Prop) (sp : Sp) (t : TA) : TE := fun σ H Q => ∃ (G : Hp) (ps : Array Value), Same G H ∧ G Pt = none ∧ H Pt = some (.tbl ps) ∧ TriplesOk ps.toList ∧
  (∀ (pos : Pos) (cv : Value), codeAmong pos ps.toList = some cv → ∃ c, cv = .ref c ∧ G c = some (CodeO c q)) ∧
  ∀ (f c' : Addr) (G1 H1 : Hp), Made G H Pt q c' G1 H1 → H1 f = none → t σ H1 fun vs H2 => ∀ pn : Pins, (∀ p ∈ pn, H2 p.1 = none) → (∀ p ∈ pn, ∀ H, withP H pn p.1 = some (pinO p.1 p.2)) → (∃ o, (f, o) ∈ pn ∧ FnObj o) → Lok f c' pn (js.map (slotAt σ)) →
    sp (.ref f :: vs) (withP H2 pn) (fun v H' => (∀ p ∈ pn, H' p.1 = some (pinO p.1 p.2)) ∧ Q v (delM H' (dom pn))) E0
section
variable {X : Cx} {g : Addr} {fd : FuncData} {psg : List Str} {sp : Sp} {x : Str} {p lpos pos : Pos} {es : List Expr} {t : TA} {params : Arguments} {body : Expr} {scope : Scope} {c Pt : Addr} {N fr : List Str} {js : List Nat} {tb : XK → TE} {k kb : Nat}
theorem pe_lamC (F : FnG X.prog X.w X.K X.mg X.base CX0 k g fd psg sp) (hr : Room k X.A) (hgd : X.A.guards = some []) (hg : Gl X x) (hm : X.mg x = some (.ref g)) (hk : PySem.W.keepIn X.K (.ref g) = true) (hb : Binds X.K fd psg [])
    (TB : TabB X.base X.mg c Pt) (hcode : X.env.code = .ref c) (hdef : defaultsOf params X.env = ([], [])) (S : NScope N [] fr scope)
    (hfree : ∀ y ∈ scope.names, y.2 = .free → X.env.scope.names.lookup y.1 = some .cell ∨ X.env.scope.names.lookup y.1 = some .free) (hfr : ∀ y ∈ fr, (y, NameKind.free) ∈ scope.names) (hjs : js.map (fun j => X.N[j]?) = fr.map some) (hfn : ∀ y ∈ fr, X.fn y = true)
    (hbind : ∀ (q : Str) (cl : List (Str × Addr)) (pm cv ctv : Value), bindArgs (PySem.W.kla_fn "<lambda>" q params body scope cl pm cv ctv) ⟨[], []⟩ = pure [])
    (hbody : ∀ (A : Around) (outer : List PySem.Env) (s : Shared) (H : Hp) (E : XK) (f c' : Addr) (cl : List (Str × Addr)), Room kb (A.deeper (envF ⟨"<lambda>", X.env.qual ++ "<lambda>", params, [], scope, cl, c'⟩ f s.heap.objs.size)) → A.guards = some [] →
      PE (ncx (L2.CX X.prog X.w) X.prog X.w X.K X.mg X.base N ⟨"<lambda>", X.env.qual ++ "<lambda>", params, [], scope, cl, c'⟩ f A outer s H E) body (tb E))
    (ha : PA X es t) (hdb : (x == ("__debug__" : Str)) = false := by decide) (he : starEach (.Lambda params body scope lpos :: es) X.env = (false, eval (.Lambda params body scope lpos) X.env) :: starEach es X.env := by rfl) (hpl : (backTo pos (starEach es X.env)).any (·.1) = false := by rfl) :
    PE X (.Call (.Name x p) (.Lambda params body scope lpos :: es) [] pos) (tLamC Pt (X.env.qual ++ "<lambda>") js (fun f c' pn ws => LamRun X.prog X.w X.K X.mg X.base (kb + 1) f c' (X.env.qual ++ "<lambda>") pn tb (startF N [] ws)) sp t) := by
  refine ⟨fun pins s σ H Q I h => ?_⟩
  obtain ⟨G, ps, sm, nP, hP, ht, hcs, h⟩ := h
  have hasC : ∀ y ∈ scope.names, y.2 = .free → ∃ c, X.env.cells.lookup y.1 = some c := fun y hy e => I.ok.has _ (hfree y hy e)
  refine wpAny_Call_Name_kw (ld_glob I hg hm ?_ hdb)
  refine PySem.W.callWith_K (h₀ := X.base) I.ok.mod.kin hk ?_ he hpl
  rw [he]
  show wpAny _ _ (spliced ((false, eval (.Lambda params body scope lpos) X.env) :: backTo pos (starEach es X.env))) _ _ s
  refine Calls.spliced_cons (lam_make3 I TB hcode hP ht sm nP hcs hdef hasC fun f c' pm ctv G1 H1 s1 I1 md hof nf fst fb => ?_)
  have q1 := h f c' G1 H1 md nf
  -- the function's object is pinned while the other arguments are reckoned
  have fL : f ≠ X.env.locals := fun z => by
    obtain ⟨m, ⟨o, es', ep, ho, hd, _⟩, _⟩ := I1.loc
    rw [← z, hof] at ho
    cases ho
    cases hd
  have fF : f ∉ X.fs := fun z => by
    refine fst ?_
    rcases I1.ok.stk with e | ⟨e, _⟩
    · rw [e]
      exact z
    · rw [e]
      obtain ⟨ev, hev, q⟩ := List.mem_filterMap.mp z
      exact List.mem_filterMap.mpr ⟨ev, List.mem_cons_of_mem _ hev, q⟩
  have I1' : L2.Inv X ((f, PySem.W.kla_obj "<lambda>" (X.env.qual ++ "<lambda>") params body scope (cloFrom X.env.cells scope.names []) pm c' ctv) :: pins) σ H1 s1 := inv_pins I1 fun b hb => by
    rcases List.mem_append.mp hb with z | z
    · exact I1.pin b (List.mem_append_left _ z)
    · rcases List.mem_cons.mp z with rfl | z
      · exact ⟨hof, nf, fL, fF, fun v z => by cases z⟩
      · exact I1.pin b (List.mem_append_right _ z)
  refine thn (ha.run pos _ s1 σ H1 _ I1' q1) fun us s2 ⟨vs, H2, I2', r, q2⟩ => ?_
  have I2 : L2.Inv X pins σ H2 s2 := inv_pins I2' fun b hb => by
    rcases List.mem_append.mp hb with z | z
    · exact I2'.pin b (List.mem_append_left _ z)
    · exact I2'.pin b (List.mem_append_right _ (List.mem_cons_of_mem _ z))
  obtain ⟨of2, nf2, _⟩ := I2'.pin (f, _) (List.mem_append_right _ List.mem_cons_self)
  have hfrC : ∀ y ∈ fr, ∃ c, X.env.cells.lookup y = some c := fun y hy => hasC (y, .free) (hfr y hy) rfl
  obtain ⟨pc, hp1, hp2⟩ := cell_pins I2 (fun _ _ => trivial) fr hfrC
  have cb : ∀ y ∈ fr, ∀ c, X.env.cells.lookup y = some c → X.s_0.heap.objs.size ≤ c := fun y hy c hc => I2.ok.cab y c (hfn y hy) hc
  have pk : PinsOk X.base X.stack s2.heap H2 ((f, PySem.W.kla_obj "<lambda>" (X.env.qual ++ "<lambda>") params body scope (cloFrom X.env.cells scope.names []) pm c' ctv) :: pc) := by
    refine ⟨fun b hb => ?_, fun b hb => ?_, fun b hb => ?_, fun b hb => ?_⟩
    · rcases List.mem_cons.mp hb with rfl | z
      · exact of2
      · obtain ⟨y, _, _, e⟩ := hp1 b z
        exact e
    · rcases List.mem_cons.mp hb with rfl | z
      · exact fb
      · obtain ⟨y, hy, e, _⟩ := hp1 b z
        exact Heap.get?_none_of_le (Nat.le_trans I2.ok.bsz (cb y hy _ e))
    · rcases List.mem_cons.mp hb with rfl | z
      · exact fst
      · obtain ⟨y, hy, e, _⟩ := hp1 b z
        intro hs
        rcases List.mem_cons.mp (I2.stkSub _ hs) with e2 | e2
        · exact I2.cne y _ e e2
        · obtain ⟨_, o, ho, _⟩ := I2.ok.funs.mem e2
          exact absurd (Nat.lt_of_lt_of_le (Heap.lt_size ho) (cb y hy _ e)) (Nat.lt_irrefl _)
    · rcases List.mem_cons.mp hb with rfl | z
      · exact nf2
      · obtain ⟨y, hy, e, _⟩ := hp1 b z
        exact I2.freeC y _ e
  have cp : Caps X (cloFrom X.env.cells scope.names []) fr js := Caps.made I2.ok hfree hfr hjs
  have C := cells_of I2 cp
  have run : LamRun X.prog X.w X.K X.mg X.base (kb + 1) f c' (X.env.qual ++ "<lambda>") ((f, PySem.W.kla_obj "<lambda>" (X.env.qual ++ "<lambda>") params body scope (cloFrom X.env.cells scope.names []) pm c' ctv) :: pc) tb (startF N [] (js.map (slotAt σ))) := by
    intro A outer sz HZ Qz Ez hrz hgz ez hpz hcz htz
    have e1 := env_out ez hpz
    have atz : ∀ b ∈ ((f, PySem.W.kla_obj "<lambda>" (X.env.qual ++ "<lambda>") params body scope (cloFrom X.env.cells scope.names []) pm c' ctv) :: pc : Pins), sz.heap.get? b.1 = some b.2 := fun b hb => (ez.hok b.1 _ (hpz b hb)).1
    have inP : ∀ y c, (cloFrom X.env.cells scope.names []).lookup y = some c → ∃ o, (c, o) ∈ pc := fun y c e => by
      rcases cloFrom_mem (PySem.mem_of_lookup e) with hm | ⟨h1, h2⟩
      · cases hm
      · exact hp2 y (S.free _ h1 rfl) c (cp.sub y c e)
    have Cz : CellsAt (cloFrom X.env.cells scope.names []) fr (js.map (slotAt σ)) sz.heap (delM HZ (dom ((f, PySem.W.kla_obj "<lambda>" (X.env.qual ++ "<lambda>") params body scope (cloFrom X.env.cells scope.names []) pm c' ctv) :: pc))) := by
      have same : ∀ y c, (cloFrom X.env.cells scope.names []).lookup y = some c → ∃ o, s2.heap.get? c = some o ∧ sz.heap.get? c = some o ∧ c ∈ dom ((f, PySem.W.kla_obj "<lambda>" (X.env.qual ++ "<lambda>") params body scope (cloFrom X.env.cells scope.names []) pm c' ctv) :: pc) := fun y c e => by
        obtain ⟨o, ho⟩ := inP y c e
        exact ⟨o, pk.at_ _ (List.mem_cons_of_mem _ ho), atz _ (List.mem_cons_of_mem _ ho), dom_mem (List.mem_cons_of_mem _ ho)⟩
      have move : ∀ y c v, (cloFrom X.env.cells scope.names []).lookup y = some c → s2.heap.IsCell c v → sz.heap.IsCell c v := fun y c v e ⟨o, ho, hd⟩ => by
        obtain ⟨o', h1, h2, _⟩ := same y c e
        rw [ho] at h1
        cases h1
        exact ⟨o, h2, hd⟩
      refine ⟨C.len, fun y c e => ?_, C.inj, fun i y e => ?_⟩
      · obtain ⟨_, v, hv⟩ := C.all y c e
        obtain ⟨_, _, _, hd⟩ := same y c e
        exact ⟨delM_in hd, v, move y c v e hv⟩
      · obtain ⟨c, hc, hv⟩ := C.has i y e
        refine ⟨c, hc, fun v ev => ?_⟩
        obtain ⟨u, ru, hu⟩ := hv v ev
        exact ⟨u, ru, move y c _ hc hu⟩
    refine codeAny_mono (lam_run (F := ⟨"<lambda>", X.env.qual ++ "<lambda>", params, [], scope, cloFrom X.env.cells scope.names [], c'⟩) (us := []) (vs := []) (ps := []) S hrz e1 (atz _ List.mem_cons_self) (codeO_at ez.hok hcz) Cz .nil rfl (hbind _ _ _ _ _)
      (hbody A outer sz _ _ f c' _ (hrz.deeper _) hgz) htz) ?_
    intro rr s' hq
    cases rr with
    | error e => exact cx_out ez hpz hq
    | ok fl =>
      cases fl with
      | ret u => exact ce_out ez hpz hq
      | next => exact hq
      | brk => exact hq
      | cont => exact hq
  have q3 := q2 _ pk.nh (fun b hb H => withP_in pk.at_ hb) ⟨_, List.mem_cons_self, _, _, _, _, rfl⟩ run
  refine ⟨I2.kIn, ?_⟩
  have hl := F.len _ _ _ _ q3
  have b := hb s2 (.ref f :: us) I2.kIn (by rw [List.append_nil, List.length_cons, ← r.length, ← hl, List.length_cons])
  rw [List.append_nil] at b
  refine wpAny_call (codeAny_mono (F.run X.A X.stack s2 _ ⟨.ref f :: us, []⟩ (.ref f :: us) (.ref f :: vs) _ _ hr hgd (env_in I2.env0 pk) b (.cons rfl r) q3) ?_)
  intro rr s' hq
  cases rr with
  | error e => exact (show False from hq).elim
  | ok fl =>
    cases fl with
    | ret u => exact I2.after (ce_in pk hq)
    | next => exact hq.elim
    | brk => exact hq.elim
    | cont => exact hq.elim
end
end Dv

/-! Dv38: things that may be called, by data: handed on, called within try, refused. -/
namespace Dv
open PySem PySem.Spec PyProof.Rows L2 LamX NdefX
/-- x() as a statement, x a name that holds a function -/
def tTryF (P : Program) (w : World) (K : PySem.W.Frag) (mg : Str → Option Value) (base : Heap) (k i : Nat) (W : WX) : TS := fun D σ H => ∃ (f : Addr) (o : Obj), σ[i]? = some (some (.ref f)) ∧ H f = some (pinO f o) ∧ FnObj o ∧
  ∀ (A : Around) (outer : List PySem.Env) (s : Shared), Room k A → A.guards = some [] → Env0 P w K mg base A outer s H → codeAny (model P w) A (.call (.ref f) ⟨[], []⟩) (CR (L2.CX P w) outer P w H s (fun _ H' => D.nx σ H') (fun cls d H' => W cls d σ H')) s
section
variable {X : Cx} {i k : Nat} {a : Str} {p pos pos' : Pos} {W : WX}
theorem ps_tryF (hr : Room k X.A) (hgd : X.A.guards = some []) (tk : Takes X W) (hN : X.N[i]? = some a) (hv : Vis X.env.scope a) (hd : (a == ("__debug__" : Str)) = false := by decide) (hcd : (a == ("__classdict__" : Str)) = false := by decide) :
    PS X (.Expr (.Call (.Name a p) [] [] pos) pos') (tTryF X.prog X.w X.K X.mg X.base k i W) := by
  refine ⟨fun pins s σ H D I h => ?_⟩
  obtain ⟨f, o, hs, hf, ⟨oc, od, fd, sl, eo⟩, run⟩ := h
  refine wpAny_Expr_any ?_ I.quiet rfl
  refine wpAny_Call_Name_kw (thn ((pe_var (pos := p) hN hv hd hcd).run pins s σ H (fun v H1 => v = .ref f ∧ H1 = H) I ⟨.ref f, hs, rfl, rfl⟩) ?_)
  rintro u s1 ⟨v, H1, I1, r1, ev, eH⟩
  subst ev eH
  obtain rfl : u = Value.ref f := r1
  refine PySem.W.callWith_F0 (first := []) ⟨oc, od, fd, sl, by rw [← eo]; exact (I1.hok f _ hf).1⟩ ?_
  show wpAny _ _ (call (.ref f) []) _ _ _
  refine wpAny_call (codeAny_mono (run X.A X.stack s1 hr hgd I1.env0) ?_)
  intro rr s' hq
  cases rr with
  | error e => exact tk e s' (XE.of_call I1 (fun _ _ _ z => z) hq)
  | ok fl =>
    cases fl with
    | ret u =>
      obtain ⟨v, H2, J, _, q2⟩ := I1.after hq
      exact ⟨σ, H2, J, q2⟩
    | next => exact hq.elim
    | brk => exact hq.elim
    | cont => exact hq.elim
end
section
variable (P : Program) (w : World) (K : PySem.W.Frag) (mg : Str → Option Value) (base : Heap) (cA : String → Addr) (k : Nat)
/-- f may be called: it ends (ok) or lets an error out (ψ) -/
def CallD (f : Addr) (pn : Pins) (G : Hp) (ok : Prop) (ψ : String → PyData → Prop) : Prop := ∀ (A : Around) (outer : List PySem.Env) (s : Shared) (H : Hp) (Q : VK) (E : XK) (G' : Hp), Room k A → A.guards = some [] → Env0 P w K mg base A outer s H → (∀ p ∈ pn, H p.1 = some (pinO p.1 p.2)) →
  Same G G' → Same G' H → (∀ p ∈ pn, G' p.1 = none) → (ok → ∀ v G2 H2, Grow G' H G2 H2 → Q v H2) → EOk cA E ψ H G' → codeAny (model P w) A (.call (.ref f) ⟨[], []⟩) (CR (L2.CX P w) outer P w H s Q E) s
def calR (f : Addr) (pn : Pins) (ok : Prop) (ψ : String → PyData → Prop) : Res where
  fp := dom pn
  ok := fun G H v => v = .ref f ∧ (∀ p ∈ pn, H p.1 = some (pinO p.1 p.2)) ∧ (∃ o, (f, o) ∈ pn ∧ FnObj o) ∧ CallD P w K mg base cA k f pn G ok ψ
  mono := by
    rintro G H G' H' v ⟨e, h1, h2, h3⟩ g kk
    exact ⟨e, fun p hp => (kk p.1 (dom_mem hp)).trans (h1 p hp), h2, fun A outer s H Q E G2 hr hg e0 hp s1 s2 n ho hE => h3 A outer s H Q E G2 hr hg e0 hp (g.trans s1) s2 n ho hE⟩
/-- a def that is handed such a thing first -/
def SpC (pre : Prop → (String → PyData → Prop) → List PyData → (PyData → Prop) → Prop) : Sp := fun vs H Q _ => ∃ G f ws ds pn ok ψ φ, vs = .ref f :: ws ∧ Same G H ∧ RpA G ws ds ∧ (calR P w K mg base cA k f pn ok ψ).ok G H (.ref f) ∧ (∀ a ∈ dom pn, G a = none) ∧ pre ok ψ ds φ ∧
  ∀ v d G' H', Grow G H G' H' → Rp G' v d → φ d → Q v H'
/-- a def that tells the error that such a thing lets out, or None -/
def SpErr (c : Value) : Sp := fun vs H Q _ => ∃ G f pn ok ψ, vs = [.ref f] ∧ Same G H ∧ (calR P w K mg base cA k f pn ok ψ).ok G H (.ref f) ∧ (∀ a ∈ dom pn, G a = none) ∧ (∀ n d, ψ n d → PySem.W.exmOne K (.ref (cA n)) c = some true) ∧
  (ok → ∀ G' H', Grow G H G' H' → Q .non H') ∧
  ∀ n d a dx y G' H', ψ n d → Grow G H G' H' → H a = none → H dx = none → G' a = none → G' dx = none → a ≠ dx → H' a = some (exH (.ref (cA n)) (some dx) a) → H' dx = some (.xd [("value", y)]) → Rp G' y d → Q (.ref a) H'
end
section
variable {P : Program} {w : World} {K : PySem.W.Frag} {mg : Str → Option Value} {base : Heap} {cA : String → Addr} {k : Nat} {pre : Prop → (String → PyData → Prop) → List PyData → (PyData → Prop) → Prop}
theorem spc_len {n : Nat} (hl : ∀ ok ψ ds φ, pre ok ψ ds φ → ds.length = n) : ∀ vs H Q E, SpC P w K mg base cA k pre vs H Q E → vs.length = n + 1 :=
  fun vs H Q E ⟨G, f, ws, ds, pn, ok, ψ, φ, e, _, r, _, _, hp, _⟩ => by rw [e, List.length_cons, r.len, hl ok ψ ds φ hp]
theorem sperr_len {c : Value} : ∀ vs H Q E, SpErr P w K mg base cA k c vs H Q E → vs.length = 1 := by
  rintro _ H Q E ⟨G, f, pn, ok, ψ, rfl, _⟩
  rfl
theorem sta_c {G H : Hp} {f : Addr} {ws : List V} {ds : List PyData} {pn : Pins} {ok : Prop} {ψ : String → PyData → Prop} {N : List Str} (s : Same G H) (r : RpA G ws ds) (hc : (calR P w K mg base cA k f pn ok ψ).ok G H (.ref f)) (nG : ∀ a ∈ dom pn, G a = none) (hv : ws.length + 1 ≤ N.length) :
    Sta (delM H (dom pn)) G G H (L2.start N (.ref f :: ws)) (slotsZ N.length (calR P w K mg base cA k f pn ok ψ) ds) := by
  refine ⟨fun a o e => ?_, s, Same.refl G, fun a o e _ => e, ?_, fun i x e => ?_, fun i j x y hij e1 e2 a ha hb => ?_⟩
  · by_cases hap : a ∈ dom pn
    · rw [delM_in hap] at e
      cases e
    · rw [delM_out hap] at e
      exact e
  · unfold L2.start slotsZ slots0
    have := r.len
    simp
    omega
  · cases i with
    | zero =>
      simp only [slotsZ, List.getElem?_cons_zero, Option.some.injEq] at e
      subst e
      refine ⟨.ref f, rfl, hc, fun a ha => ⟨delM_in ha, nG a ha, ?_⟩⟩
      obtain ⟨p, hp, rfl⟩ := List.mem_map.mp (show a ∈ pn.map (·.1) from ha)
      rw [hc.2.1 p hp]
      simp
    | succ i =>
      simp only [slotsZ, List.getElem?_cons_succ] at e
      rcases slots0_get e with ⟨d, rfl, h⟩ | rfl
      · obtain ⟨v, e1, e2⟩ := r.get h
        exact ⟨v, by rw [start_get (show (V.ref f :: ws)[i + 1]? = some v by simpa using e1)]; rfl, e2⟩
      · trivial
  · cases j with
    | zero => omega
    | succ j =>
      simp only [slotsZ, List.getElem?_cons_succ] at e2
      rcases slots0_get e2 with ⟨d, rfl, h⟩ | rfl <;> cases hb
theorem grow_c {G H G' H' : Hp} {f : Addr} {pn : Pins} {ok : Prop} {ψ : String → PyData → Prop} {σ : L2.St} {ρ : Rho} (hc : (calR P w K mg base cA k f pn ok ψ).ok G H (.ref f)) (s : Sta (delM H (dom pn)) G G' H' σ ρ) (h : ρ[0]? = some (.res (calR P w K mg base cA k f pn ok ψ))) (g : Same G G') : Grow G H G' H' := by
  obtain ⟨v, e, ⟨_, hp, _⟩, n⟩ := s.getR h
  refine ⟨g, fun a o e => ?_, s.gh, fun a o e nH => ?_⟩
  · by_cases ha : a ∈ dom pn
    · obtain ⟨p, hp', rfl⟩ := List.mem_map.mp (show a ∈ pn.map (·.1) from ha)
      rw [hc.2.1 p hp'] at e
      rw [hp p hp']
      exact e
    · exact s.fh a o (by rw [delM_out ha]; exact e)
  · by_cases ha : a ∈ dom pn
    · rw [(n a ha).2.1] at e
      cases e
    · exact s.new a o e (by rw [delM_out ha]; exact nH)
theorem fn_c {t : TS} {N : List Str} {n : Nat} (hn : n + 1 ≤ N.length) (hl : ∀ ok ψ ds φ, pre ok ψ ds φ → ds.length = n)
    (h : ∀ F G0 f pn ok ψ ds φ, pre ok ψ ds φ → Ws F G0 t (slotsZ N.length (calR P w K mg base cA k f pn ok ψ) ds) { nx := fun ρ' => ρ'[0]? = some (.res (calR P w K mg base cA k f pn ok ψ)) ∧ φ .none, rt := fun d ρ' => ρ'[0]? = some (.res (calR P w K mg base cA k f pn ok ψ)) ∧ φ d })
    {vs : List V} {H : Hp} {Q : VK} {E : XK} (hs : SpC P w K mg base cA k pre vs H Q E) : t { nx := fun _ H' => Q .non H', rt := Q } (L2.start N vs) H := by
  obtain ⟨G, f, ws, ds, pn, ok, ψ, φ, rfl, s, r, hc, nG, hp, kk⟩ := hs
  have st := sta_c (N := N) s r hc nG (by rw [r.len, hl _ _ _ _ hp]; exact hn)
  exact h _ G f pn ok ψ ds φ hp G H _ st _ (fun σ' ρ' G' H' s' g q => kk _ _ G' H' (grow_c hc s' q.1 g) .non q.2) (fun v d σ' ρ' G' H' s' g r' q => kk v d G' H' (grow_c hc s' q.1 g) r' q.2) (fun _ _ _ _ _ _ q => q.elim) (fun _ _ _ _ _ _ q => q.elim)
/-- the def that tells the error -/
theorem fn_err {c : Value} {ta tb : TS} {N : List Str} (hN : 3 ≤ N.length)
    (h : ∀ F G0 f pn ok ψ, (∀ n d, ψ n d → PySem.W.exmOne K (.ref (cA n)) c = some true) → Ws F G0 (tSeq ta tb) (slotsZ N.length (calR P w K mg base cA k f pn ok ψ) []) ⟨fun ρ' => ρ'[0]? = some (.res (calR P w K mg base cA k f pn ok ψ)) ∧ ((ok ∧ ρ'[1]? = some (.val .none)) ∨ ∃ n d a dx, ψ n d ∧ ρ'[1]? = some (.res (excR a (cA n) dx d))), fun _ _ => False, fun _ => False, fun _ => False⟩)
    {vs : List V} {H : Hp} {Q : VK} {E : XK} (hs : SpErr P w K mg base cA k c vs H Q E) : (tSeq ta (tSeq tb (tRet (tVar 1)))) { nx := fun _ H' => Q .non H', rt := Q } (L2.start N vs) H := by
  obtain ⟨G, f, pn, ok, ψ, rfl, s, hc, nG, hx, k1, k2⟩ := hs
  have st := sta_c (N := N) (ws := []) (ds := []) s .nil hc nG (by simp; omega)
  refine h _ G f pn ok ψ hx G H _ st { nx := fun σ' H' => tRet (tVar 1) { nx := fun _ H' => Q .non H', rt := Q } σ' H', rt := Q } (fun σ' ρ' G' H' s' g q => ?_) (fun _ _ _ _ _ _ _ _ _ z => z.elim) (fun _ _ _ _ _ _ z => z.elim) (fun _ _ _ _ _ _ z => z.elim)
  have gr := grow_c hc s' q.1 g
  rcases q.2 with ⟨ho, e⟩ | ⟨n, d, a, dx, hψ, e⟩
  · obtain ⟨v, e1, r⟩ := s'.get e
    cases r
    exact ⟨_, e1, k1 ho G' H' gr⟩
  · obtain ⟨v, e1, ⟨rfl, ea, y, ed, ry⟩, n'⟩ := s'.getR e
    have na : ∀ b ∈ (excR a (cA n) dx d).fp, H b = none ∧ G' b = none := fun b hb => by
      obtain ⟨f1, f2, _⟩ := n' b hb
      refine ⟨?_, f2⟩
      by_cases hd : b ∈ dom pn
      · exact absurd hb fun hb => s'.apart 0 1 _ _ (by decide) q.1 e b hd hb
      · rw [delM_out hd] at f1
        exact f1
    have h1 := na a List.mem_cons_self
    have h2 := na dx (List.mem_cons_of_mem _ List.mem_cons_self)
    refine ⟨_, e1, k2 n d a dx y G' H' hψ gr h1.1 h2.1 h1.2 h2.2 (fun z => ?_) ea ed ry⟩
    rw [z, ed] at ea
    cases ea
end
section
variable {P : Program} {w : World} {K : PySem.W.Frag} {mg : Str → Option Value} {base : Heap} {cA : String → Addr} {k kk : Nat} {F G0 : Hp} {ρ : Rho} {nx bk ct : Rho → Prop} {rt : PyData → Rho → Prop} {i j l : Nat} {f : Addr} {pn : Pins} {ok : Prop} {ψ : String → PyData → Prop} {c : Value} {Wo : WX}
/-- what a kept error becomes -/
theorem keep_err {G H : Hp} {σ : L2.St} {D : Ends} (s : Sta F G0 G H σ ρ) (hl : l < ρ.length) (q1 : ∀ σ' ρ' G' H', Sta F G0 G' H' σ' ρ' → Same G G' → nx ρ' → D.nx σ' H') (hx : ∀ n d, ψ n d → PySem.W.exmOne K (.ref (cA n)) c = some true)
    (h2 : ∀ n d a dx, ψ n d → nx (((ρ.set l .any).set j (.res (excR a (cA n) dx d))).set l .any)) : EOk cA (fun cls d H' => wKeep K c l (tAsg (tVar l) (gName j)) Wo D cls d σ H') ψ H G := by
  intro n dx y d G' H' b1 b2 b3 b4 b5 b6 b7 ry hψ
  refine ⟨true, hx n d hψ, fun _ a ha => ?_, fun z => nomatch z⟩
  have hi' : l < σ.length := by rw [s.len]; exact hl
  refine ⟨.ref a, by rw [List.getElem?_set_self hi'], fun ha' => ?_⟩
  have gr : Grow G H G' H' := ⟨b3, b1, b2, b4⟩
  have s2 : Sta F G0 G' H' σ ρ := s.grow gr
  have s3 : Sta F G0 G' (upd H' a (exH (.ref (cA n)) (some dx) a)) σ ρ := s2.laid ha'
  have s4 := s3.setN (i := l) (x := some (.ref a))
  have nda : dx ≠ a := fun z => by rw [z, ha'] at b7; cases b7
  have fdx : F dx = none := none_of s.fh b5
  have s5 := s4.setR (i := j) (v := .ref a) (r := excR a (cA n) dx d) ⟨rfl, upd_same, y, by rw [upd_ne nda]; exact b7, ry⟩ (fun b hb => ?_) (fun m z hk ez b hb hb2 => ?_)
  · exact q1 _ _ G' _ (s5.setN (i := l) (x := none)) b3 (h2 n d a dx hψ)
  · rcases List.mem_cons.mp hb with rfl | hb
    · exact ⟨none_of s2.fh ha', none_of s2.gh ha', by rw [upd_same]; simp⟩
    · obtain rfl := List.mem_singleton.mp hb
      exact ⟨fdx, b6, by rw [upd_ne nda, b7]; simp⟩
  · have old : ρ[m]? = some z ∨ z = .any := by
      by_cases hki : l = m
      · subst hki
        rw [List.getElem?_set_self hl] at ez
        exact .inr (Option.some.inj ez).symm
      · rw [List.getElem?_set_ne hki] at ez
        exact .inl ez
    rcases old with o | o
    · rcases List.mem_cons.mp hb2 with rfl | hb2
      · exact s2.nofp ha' m z o hb
      · obtain rfl := List.mem_singleton.mp hb2
        exact s.nofp b5 m z o hb
    · subst o
      cases hb
/-- try: x() / except .. as e: m = e -/
theorem q_tryF (h0 : ρ[i]? = some (.res (calR P w K mg base cA k f pn ok ψ))) (hl : l < ρ.length) (hx : ∀ n d, ψ n d → PySem.W.exmOne K (.ref (cA n)) c = some true) (h1 : ok → nx ρ)
    (h2 : ∀ n d a dx, ψ n d → nx (((ρ.set l .any).set j (.res (excR a (cA n) dx d))).set l .any)) :
    Ws F G0 (fun D σ H => tTryF P w K mg base k i (wKeep K c l (tAsg (tVar l) (gName j)) Wo D) D σ H) ρ ⟨nx, rt, bk, ct⟩ := fun G H σ s D q1 q2 q3 q4 => by
  obtain ⟨v, e, ⟨rfl, hp, ⟨o, ho, hfo⟩, hc⟩, n⟩ := s.getR h0
  refine ⟨f, o, e, hp _ ho, hfo, fun A outer sh hr hg e0 => ?_⟩
  refine hc A outer sh H _ _ G hr hg e0 hp (Same.refl G) s.gh (fun p hp' => (n p.1 (dom_mem hp')).2.1) (fun ho v G2 H2 gr => q1 σ ρ G2 H2 (s.grow gr) gr.g (h1 ho)) ?_
  exact keep_err s hl q1 hx h2
/-- m = the error of x, or None -/
theorem q_setErr {E : XK} (h0 : ρ[i]? = some (.res (calR P w K mg base cA k f pn ok ψ))) (hx : ∀ n d, ψ n d → PySem.W.exmOne K (.ref (cA n)) c = some true) (h1 : ok → nx (ρ.set j (.val .none))) (h2 : ∀ n d a dx, ψ n d → nx (ρ.set j (.res (excR a (cA n) dx d)))) :
    Ws F G0 (tAsg (tCall (SpErr P w K mg base cA k c) [] E (tCons (tVar i) tNil)) (gName j)) ρ ⟨nx, rt, bk, ct⟩ := fun G H σ s D q1 q2 q3 q4 => by
  obtain ⟨v, e, hc, n⟩ := s.getR h0
  have ev : v = .ref f := hc.1
  subst ev
  refine ⟨_, e, G, f, pn, ok, ψ, rfl, s.gh, hc, fun a ha => (n a ha).2.1, hx, fun ho G' H' gr => ?_, fun n d a dx y G' H' hψ gr a1 a2 a3 a4 a5 a6 a7 ry => ?_⟩
  · exact q1 _ _ G' H' ((s.grow gr).setV .non) gr.g (h1 ho)
  · have s1 := s.grow gr
    have s2 := s1.setR (i := j) (v := .ref a) (r := excR a (cA n) dx d) ⟨rfl, a6, y, a7, ry⟩ (fun b hb => ?_) (fun m z hk ez b hb hb2 => ?_)
    · exact q1 _ _ G' H' s2 gr.g (h2 n d a dx hψ)
    · rcases List.mem_cons.mp hb with rfl | hb
      · exact ⟨none_of s.fh a1, a3, by rw [a6]; simp⟩
      · obtain rfl := List.mem_singleton.mp hb
        exact ⟨none_of s.fh a2, a4, by rw [a7]; simp⟩
    · rcases List.mem_cons.mp hb2 with rfl | hb2
      · exact s.nofp a1 m z ez hb
      · obtain rfl := List.mem_singleton.mp hb2
        exact s.nofp a2 m z ez hb
end
end Dv

/-! Dv39: a lambda handed to a def of the text, by data. -/
namespace Dv
open PySem PySem.Spec PyProof.Rows L2 LamX NdefX
section
variable {F G0 G H : Hp} {σ : L2.St} {ρ : Rho} {i : Nat} {R r : Res} {T : List (Addr × Str)} {Pt c' : Addr} {q : Str} {G1 H1 : Hp}
/-- the object at an address of a thing of ours is changed -/
theorem Sta.poke {p : Addr} {o : HO} (s : Sta F G0 G H σ ρ) (h : ρ[i]? = some (.res R)) (hp : p ∈ R.fp) (ok : ∀ v, R.ok G H v → R.ok G (L2.upd H p o) v) : Sta F G0 G (L2.upd H p o) σ ρ := by
  obtain ⟨v, e, k, n⟩ := s.getR h
  obtain ⟨nF, nG, nH⟩ := n p hp
  refine ⟨fun a u e => ?_, fun a u e => ?_, s.g0, s.new, s.len, fun j x ej => ?_, s.apart⟩
  · rw [upd_ne fun z => by rw [z, nF] at e; cases e]
    exact s.fh a u e
  · rw [upd_ne fun z => by rw [z, nG] at e; cases e]
    exact s.gh a u e
  · have live : ∀ a, H a ≠ none → L2.upd H p o a ≠ none := fun a ha => by
      by_cases z : a = p
      · rw [z, upd_same]
        simp
      · rw [upd_ne z]
        exact ha
    by_cases hj : i = j
    · subst hj
      rw [h] at ej
      cases ej
      exact ⟨v, by rw [e]; rfl, ok v k, fun a ha => ⟨(n a ha).1, (n a ha).2.1, live a (n a ha).2.2⟩⟩
    · have q := s.slot j x ej
      cases x with
      | any => trivial
      | val d => exact q
      | res r' =>
        obtain ⟨v', e', k', n'⟩ := q
        have ne : ∀ a ∈ r'.fp, a ≠ p := fun a ha z => by
          rcases Nat.lt_or_ge i j with hl | hl
          · exact s.apart i j _ _ hl h ej p hp (by rw [← z]; exact ha)
          · exact s.apart j i _ _ (by omega) ej h a ha (by rw [z]; exact hp)
        exact ⟨v', e', r'.mono k' (Same.refl G) fun a ha => upd_ne (ne a ha), fun a ha => ⟨(n' a ha).1, (n' a ha).2.1, live a (n' a ha).2.2⟩⟩
theorem upd_swap {H : Hp} {a b : Addr} {o u : HO} (h : a ≠ b) : upd (upd H a o) b u = upd (upd H b u) a o := by
  funext c
  by_cases h1 : c = a
  · rw [h1, upd_ne h, upd_same, upd_same]
  · by_cases h2 : c = b
    · rw [h2, upd_same, upd_ne (fun z => h z.symm), upd_same]
    · rw [upd_ne h2, upd_ne h1, upd_ne h1, upd_ne h2]
theorem sta_made (s : Sta F G0 G H σ ρ) (h : ρ[i]? = some (.res (withT T r))) (hT : (Pt, q) ∈ T) (hu : ∀ p ∈ T, p.1 = Pt → p.2 = q) (md : Made G H Pt q c' G1 H1) : Sta F G0 G1 H1 σ ρ ∧ Same G G1 := by
  rcases md.how with ⟨rfl, rfl⟩ | ⟨nC, ps1, rfl, rfl⟩
  · exact ⟨s, Same.refl _⟩
  · obtain ⟨v, e, ⟨k1, k2, k3⟩, n⟩ := s.getR h
    have mP : Pt ∈ tabs T := List.mem_map.mpr ⟨_, hT, rfl⟩
    have lP := k2.live Pt mP
    have nPc : Pt ≠ c' := fun z => lP (by rw [z]; exact nC)
    have w : Grow G H (upd G c' (CodeO c' q)) (upd H c' (CodeO c' q)) := .laid s.gh nC
    have s1 := s.grow w
    refine ⟨?_, w.g⟩
    rw [upd_swap nPc]
    refine s1.poke h (List.mem_append_right _ mP) fun v ⟨a1, a2, a3⟩ => ⟨r.mono a1 (Same.refl _) fun a ha => upd_ne fun z => a3 a ha (by rw [z]; exact mP), fun p hp => ?_, a3⟩
    by_cases hpt : p.1 = Pt
    · obtain ⟨ps2, e1, e2, e3⟩ := md.tab
      rw [upd_swap nPc] at e1
      rw [hpt, hu p hp hpt]
      exact ⟨ps2, e1, e2, e3⟩
    · obtain ⟨ps2, e1, e2, e3⟩ := a2 p hp
      exact ⟨ps2, by rw [upd_ne hpt]; exact e1, e2, e3⟩
end
/-- an expression that ends or lets an error out -/
def WeX (cA : String → Addr) (tb : XK → TE) (ρ : Rho) (ok : Prop) (ψ : String → PyData → Prop) : Prop := ∀ (F G0 G H : Hp) (σ : L2.St), Sta F G0 G H σ ρ → ∀ (Q : VK) (E : XK), (ok → ∀ v ρ' G' H', Sta F G0 G' H' σ ρ' → Same G G' → Q v H') → EOk cA E ψ F G0 → tb E σ H Q
theorem wex_call {cA : String → Addr} {pre : List PyData → (PyData → Prop) → (String → PyData → Prop) → Prop} {tas : TA} {ρ : Rho} {ok : Prop} {ψ : String → PyData → Prop} (h : Wa tas ρ fun ds _ => pre ds (fun _ => ok) ψ) : WeX cA (fun E => tCall (SpX cA pre) [] E tas) ρ ok ψ := fun F G0 G H σ s Q E k hE =>
  h F G0 G H σ s _ fun vs ds ρ1 G1 H1 s1 g1 r1 p => ⟨G1, ds, fun _ => ok, ψ, s1.gh, by rw [List.append_nil]; exact r1, p, fun v d G' H' gr r q => k q v ρ1 G' H' (s1.grow gr) (g1.trans gr.g), hE.sta s1 fun _ _ z => z⟩
/-- a slot holds data, tables beside it or not -/
def HasD (ρ : Rho) (j : Nat) (d : PyData) : Prop := ρ[j]? = some (.val d) ∨ ∃ T, ρ[j]? = some (.res (withT T (datR d)))
theorem Sta.hasD {F G0 G H : Hp} {σ : L2.St} {ρ : Rho} {j : Nat} {d : PyData} (s : Sta F G0 G H σ ρ) (h : HasD ρ j d) : ∃ v, σ[j]? = some (some v) ∧ Rp G v d := by
  rcases h with h | ⟨T, h⟩
  · exact s.get h
  · obtain ⟨v, e, ⟨r, _⟩, _⟩ := s.getR h
    exact ⟨v, e, r⟩
theorem sta_lam {G G3 HD : Hp} {σ : L2.St} {js : List Nat} {ds : List PyData} {N : List Str} (hs : Same G3 HD) (g : Same G G3) (hl : ds.length ≤ N.length) (hj : js.length = ds.length) (hv : ∀ (m j : Nat) (d : PyData), js[m]? = some j → ds[m]? = some d → ∃ v, σ[j]? = some (some v) ∧ Rp G v d) :
    Sta HD G3 G3 HD (startF N [] (js.map (slotAt σ))) (ds.map .val ++ List.replicate (N.length - ds.length) .any) := by
  refine ⟨Same.refl _, hs, Same.refl _, fun a o e _ => e, ?_, fun i x e => ?_, fun i j x y hij e1 e2 a ha hb => ?_⟩
  · unfold startF
    simp
    omega
  · by_cases hi : i < ds.length
    · rw [List.getElem?_append_left (by rw [List.length_map]; exact hi), List.getElem?_map, List.getElem?_eq_getElem hi] at e
      obtain rfl := Option.some.inj e
      have hi2 : i < js.length := by omega
      obtain ⟨v, e1, r⟩ := hv i js[i] ds[i] (List.getElem?_eq_getElem hi2) (List.getElem?_eq_getElem hi)
      refine ⟨v, ?_, r.mono g⟩
      unfold startF
      rw [List.map_nil, List.nil_append, List.getElem?_append_left (by rw [List.length_map]; exact hi2), List.getElem?_map, List.getElem?_eq_getElem hi2]
      show slotAt σ js[i] = some v
      exact slotAt_of e1
    · rw [List.getElem?_append_right (by rw [List.length_map]; omega)] at e
      rw [List.eq_of_mem_replicate (List.mem_of_getElem? e)]
      trivial
  · have : x.fp = [] := by
      rcases List.mem_append.mp (List.mem_of_getElem? e1) with z | z
      · obtain ⟨d, _, rfl⟩ := List.mem_map.mp z
        rfl
      · rw [List.eq_of_mem_replicate z]
        rfl
    rw [this] at ha
    cases ha
section
variable {P : Program} {w : World} {K : PySem.W.Frag} {mg : Str → Option Value} {base : Heap} {cA : String → Addr} {kb i : Nat} {ρ : Rho} {Φ : PyData → Rho → Prop} {T : List (Addr × Str)} {r : Res} {Pt : Addr} {q : Str} {js : List Nat} {ds : List PyData} {N : List Str} {tb : XK → TE} {ok : Prop} {ψ : String → PyData → Prop} {tas : TA} {pre : Prop → (String → PyData → Prop) → List PyData → (PyData → Prop) → Prop}
theorem we_lamC (h : ρ[i]? = some (.res (withT T r))) (hT : (Pt, q) ∈ T) (hu : ∀ p ∈ T, p.1 = Pt → p.2 = q) (hj : js.length = ds.length) (hv : ∀ (m j : Nat) (d : PyData), js[m]? = some j → ds[m]? = some d → HasD ρ j d) (hl : ds.length ≤ N.length)
    (hb : WeX cA tb (ds.map .val ++ List.replicate (N.length - ds.length) .any) ok ψ) (ha : Wa tas ρ fun es ρ1 => pre ok ψ es fun d => Φ d ρ1) :
    We (tLamC Pt q js (fun f c' pn ws => LamRun P w K mg base kb f c' q pn tb (startF N [] ws)) (SpC P w K mg base cA kb pre) tas) ρ Φ := fun F G0 G H σ s Q k => by
  obtain ⟨v0, e0, ⟨_, tb0, _⟩, n⟩ := s.getR h
  obtain ⟨ps, hP, ht, hcs⟩ := tb0 (Pt, q) hT
  have nP := n Pt (List.mem_append_right _ (List.mem_map.mpr ⟨_, hT, rfl⟩))
  refine ⟨G, ps, s.gh, nP.2.1, hP, ht, hcs, fun f c' G1 H1 md nf => ?_⟩
  obtain ⟨s1, g1⟩ := sta_made s h hT hu md
  refine ha F G0 G1 H1 σ s1 _ fun vs es ρ1 G2 H2 s2 g2 r2 p => ?_
  intro pn hn hin hf run
  have out : ∀ a o, H2 a = some o → a ∉ dom pn := fun a o e hd => by
    obtain ⟨p, hp, rfl⟩ := List.mem_map.mp hd
    rw [hn p hp] at e
    cases e
  have nG2 : ∀ a ∈ dom pn, G2 a = none := fun a hd => by
    obtain ⟨p, hp, rfl⟩ := List.mem_map.mp hd
    exact none_of s2.gh (hn p hp)
  have gp : Same G2 (withP H2 pn) := fun a o e => by
    rw [withP_out fun hd => by rw [nG2 a hd] at e; cases e]
    exact s2.gh a o e
  refine ⟨G2, f, vs, es, pn, ok, ψ, _, rfl, gp, r2, ⟨rfl, fun p hp => hin p hp _, hf, ?_⟩, nG2, p, fun v d G' H' gr rv qv => ?_⟩
  · intro A outer sh HZ QZ EZ G3 hr hg e0 hpz g3 s3 n3 hok hE
    have hc' : HZ c' = some (CodeO c' q) := s3 _ _ (g3 _ _ (g2 _ _ md.code))
    have gd : Same G3 (delM HZ (dom pn)) := fun a o e => by
      rw [delM_out fun hd => by
        obtain ⟨p, hp, rfl⟩ := List.mem_map.mp hd
        rw [n3 p hp] at e
        cases e]
      exact s3 a o e
    refine run A outer sh HZ QZ EZ hr hg e0 hpz hc' ?_
    have st : Sta (delM HZ (dom pn)) G3 G3 (delM HZ (dom pn)) (startF N [] (js.map (slotAt σ))) (ds.map .val ++ List.replicate (N.length - ds.length) .any) :=
      sta_lam gd ((g1.trans g2).trans g3) hl hj fun m j d e1 e2 => s.hasD (hv m j d e1 e2)
    -- what the pins' return makes of the heaps
    have up : ∀ {H' : Hp}, (∀ p ∈ pn, H' p.1 = none) → Same (delM HZ (dom pn)) H' → Same HZ (withP H' pn) := fun {H'} nH sm a o e => by
      by_cases hd : a ∈ dom pn
      · obtain ⟨p, hp, rfl⟩ := List.mem_map.mp hd
        rw [hpz p hp] at e
        rw [hin p hp, e]
      · rw [withP_out hd]
        exact sm a o (by rw [delM_out hd]; exact e)
    have off : ∀ {H' : Hp} {a : Addr} {o : HO}, (∀ p ∈ pn, H' p.1 = none) → H' a = some o → a ∉ dom pn := fun {H' a o} nH e hd => by
      obtain ⟨p, hp, rfl⟩ := List.mem_map.mp hd
      rw [nH p hp] at e
      cases e
    refine hb _ G3 G3 _ _ st _ _ (fun ho v ρ' G' H' s' g' nH => ?_) ?_
    · refine hok ho v G' (withP H' pn) ⟨g', up nH s'.fh, fun a o e => ?_, fun a o e nz => ?_⟩
      · rw [withP_out (off nH (s'.gh a o e))]
        exact s'.gh a o e
      · exact s'.new a o e (by rw [delM_out (off nH (s'.gh a o e))]; exact nz)
    · intro n dx y d G' H' b1 b2 b3 b4 b5 b6 b7 ry hψ nH
      have hdx := off nH b7
      refine hE n dx y d G' (withP H' pn) (up nH b1) (fun a o e => ?_) b3 (fun a o e nz => ?_) (by rw [delM_out hdx] at b5; exact b5) b6 (by rw [withP_out hdx]; exact b7) ry hψ
      · rw [withP_out (off nH (b2 a o e))]
        exact b2 a o e
      · exact b4 a o e (by rw [delM_out (off nH (b2 a o e))]; exact nz)
  · refine ⟨fun p hp => gr.h _ _ (hin p hp _), ?_⟩
    have nG' : ∀ a o, G' a = some o → a ∉ dom pn := fun a o e hd => by
      obtain ⟨p, hp, rfl⟩ := List.mem_map.mp hd
      have z := gr.new p.1 o e (by rw [hin p hp]; simp)
      rw [nG2 _ (dom_mem hp)] at z
      cases z
    refine k v d ρ1 G' _ (s2.grow ⟨gr.g, fun a o e => ?_, fun a o e => ?_, fun a o e nz => ?_⟩) ((g1.trans g2).trans gr.g) rv qv
    · rw [delM_out (out a o e)]
      exact gr.h a o (by rw [withP_out (out a o e)]; exact e)
    · rw [delM_out (nG' a o e)]
      exact gr.gh a o e
    · exact gr.new a o e (by rw [withP_out (nG' a o e)]; exact nz)
end
end Dv

/-! Dv40: defs that make lambdas: by their bodies, called. -/
namespace Dv
open PySem PySem.Spec PyProof.Rows L2 LamX NdefX
/-- a def of the text whose code object is known -/
structure FunC (K : PySem.W.Frag) (x qual : Str) (st : Stmt) (f : Addr) (fd : FuncData) (c : Addr) : Prop where
  ex : ∃ (oc : Value) (od : Option Addr) (kV doc pm : Value) (an : Option Addr) (ct : Value) (osl : Array (Option Value)),
    fd = PySem.W.fnOf x qual (defArgs st) (defBody st) (defScope st) .none kV doc pm an (.ref c) ct ∧ K.lookup f = some ⟨oc, od, .func fd, osl⟩ ∧ PySem.W.codeIn K (.ref c) qual = true
  kp : PySem.W.keepIn K (.ref f) = true
theorem FunC.fn {K : PySem.W.Frag} {x qual : Str} {st : Stmt} {f c : Addr} {fd : FuncData} (F : FunC K x qual st f fd c) : Fun K x qual st f fd := by
  obtain ⟨oc, od, kV, doc, pm, an, ct, osl, e, l, h⟩ := F.ex
  exact ⟨⟨oc, od, kV, doc, pm, an, .ref c, ct, osl, e, l, h⟩, F.kp⟩
theorem FnG.okC {P : Program} {w : World} {K : PySem.W.Frag} {mg : Str → Option Value} {base : Heap} {x qual : Str} {st : Stmt} {f c : Addr} {fd : FuncData} {N ps : List Str} {k : Nat} {sp : Sp} (F : FunC K x qual st f fd c) (S : FnScope N ps (defScope st)) (len : ∀ vs H Q E, sp vs H Q E → vs.length = ps.length)
    (hb : ∀ (A : Around) (outer : List PySem.Env) (s : Shared) (H : Hp) (vs : List V) (Q : VK) (E : XK), Room k (cxOf CX0 P w K mg base N qual (defScope st) f (.ref c) A outer s H E).nox.A → (cxOf CX0 P w K mg base N qual (defScope st) f (.ref c) A outer s H E).nox.A.guards = some [] → sp vs H Q E →
      ∃ t, PSs (cxOf CX0 P w K mg base N qual (defScope st) f (.ref c) A outer s H E).nox (defBody st) t ∧ t { nx := fun _ H' => Q .non H', rt := Q } (L2.start N vs) H) : FnG P w K mg base CX0 (k + 1) f fd ps sp := by
  obtain ⟨oc, od, kV, doc, pm, an, ct, osl, rfl, lk, hcd⟩ := F.ex
  refine FnG.of lk hcd S len fun A outer s H vs Q E hr hg hsp => ?_
  obtain ⟨t, h, q⟩ := hb A outer s H vs Q E hr hg hsp
  exact ⟨t, h.nox, q⟩
section
variable {F G0 G H : Hp} {σ : L2.St} {ρ : Rho} {i j : Nat} {r : Res} {T : List (Addr × Str)}
theorem Sta.attach {v : V} (s : Sta F G0 G H σ ρ) (e : σ[i]? = some (some v)) (ok : r.ok G H v) (n : ∀ a ∈ r.fp, F a = none ∧ G a = none ∧ H a ≠ none) (ap : ∀ (j : Nat) (x : Slot), j ≠ i → ρ[j]? = some x → ∀ a ∈ x.fp, a ∉ r.fp) : Sta F G0 G H σ (ρ.set i (.res r)) := by
  have s1 := s.setR (i := i) ok n ap
  have hl : i < σ.length := (List.getElem?_eq_some_iff.mp e).1
  have es : σ.set i (some v) = σ := by
    have e2 := e
    rw [List.getElem?_eq_getElem hl] at e2
    rw [← Option.some.inj e2]
    exact List.set_getElem_self hl
  rw [es] at s1
  exact s1
theorem set_back {α : Type} {l : List α} {i : Nat} {x : α} (h : l[i]? = some x) : l.set i x = l := by
  obtain ⟨hl, e⟩ := List.getElem?_eq_some_iff.mp h
  rw [← e]
  exact List.set_getElem_self hl
end
section
variable {tas : TA} {ρ : Rho} {Φ : PyData → Rho → Prop} {i j : Nat} {r : Res} {T : List (Addr × Str)} {p : Addr} {E : XK}
/-- a def that makes lambdas and draws -/
theorem we_callZT {P : Nat → List PyData → Prop} {pre : Nat → List PyData → (Nat → PyData → Prop) → Prop} {n0 : Nat} (hij : i ≠ j) (h0 : ρ[i]? = some (.res (lstP p (P n0))))
    (h : Wa tas ρ fun ds ρ1 => ∃ n, ρ1[i]? = some (.res (lstP p (P n))) ∧ ρ1[j]? = some (.res (withT T r)) ∧ pre n ds fun n' d => Φ d (ρ1.set i (.res (lstP p (P n'))))) : We (tCall (SpZT T P pre) [] E (tCons (tVar i) tas)) ρ Φ := fun F G0 G H σ s Q k => by
  obtain ⟨v, e, ⟨hv, _⟩, _⟩ := s.getR h0
  subst hv
  refine ⟨_, e, h F G0 G H σ s _ fun vs ds ρ1 G1 H1 s1 g1 r1 ⟨n, e1, eT, hp⟩ => ?_⟩
  obtain ⟨v1, e1', ok1, f1⟩ := s1.getR e1
  have ev : v1 = .ref p := ok1.1
  subst ev
  obtain ⟨vT, eT', ⟨okr, tT, nT⟩, fT⟩ := s1.getR eT
  have hi : i < ρ1.length := (List.getElem?_eq_some_iff.mp e1).1
  have hj : j < ρ1.length := (List.getElem?_eq_some_iff.mp eT).1
  have pT : ∀ a ∈ (withT T r).fp, a ≠ p := fun a ha z => by
    rcases Nat.lt_or_ge i j with hl | hl
    · exact s1.apart i j _ _ hl e1 eT p List.mem_cons_self (by rw [← z]; exact ha)
    · exact s1.apart j i _ _ (by omega) eT e1 a ha (by rw [z]; exact List.mem_cons_self)
  have fb : ∀ a ∈ tabs T, F a = none ∧ G1 a = none ∧ H1 a ≠ none := fun a ha => fT a (List.mem_append_right _ ha)
  refine ⟨G1, p, vs, ds, n, _, by rw [List.append_nil], ok1, (f1 p List.mem_cons_self).2.1, s1.gh, r1, tT, fun a ha => ⟨(fb a ha).2.1, pT a (List.mem_append_right _ ha)⟩, hp, fun v d n' G' H' gr ok' tT' nG' rv q => ?_⟩
  -- both are let go, then taken again
  have s2 : Sta F G0 G1 H1 σ ((ρ1.set j (.res r)).set i .any) := (s1.swap (r := r) eT (fun v k => k.1) fun a ha => List.mem_append_left _ ha).forget i
  have look : ∀ (m : Nat) (x : Slot), ((ρ1.set j (.res r)).set i .any)[m]? = some x → x = .any ∨ (m = j ∧ x = .res r) ∨ (m ≠ i ∧ m ≠ j ∧ ρ1[m]? = some x) := fun m x ex => by
    by_cases hm : i = m
    · subst hm
      rw [List.getElem?_set_self (by rw [List.length_set]; exact hi)] at ex
      exact .inl (Option.some.inj ex).symm
    · rw [List.getElem?_set_ne hm] at ex
      by_cases hm2 : j = m
      · subst hm2
        rw [List.getElem?_set_self hj] at ex
        exact .inr (.inl ⟨rfl, (Option.some.inj ex).symm⟩)
      · rw [List.getElem?_set_ne hm2] at ex
        exact .inr (.inr ⟨fun z => hm z.symm, fun z => hm2 z.symm, ex⟩)
  have ap2 : ∀ (m : Nat) (x : Slot), ((ρ1.set j (.res r)).set i .any)[m]? = some x → ∀ a ∈ x.fp, a ∉ p :: tabs T := fun m x ex a ha hb => by
    rcases look m x ex with rfl | ⟨rfl, rfl⟩ | ⟨h1, h2, ex⟩
    · cases ha
    · rcases List.mem_cons.mp hb with rfl | hb
      · exact pT a (List.mem_append_left _ ha) rfl
      · exact nT a ha hb
    · rcases List.mem_cons.mp hb with rfl | hb
      · rcases Nat.lt_or_ge i m with hl | hl
        · exact s1.apart i m _ _ hl e1 ex a List.mem_cons_self ha
        · exact s1.apart m i _ _ (by omega) ex e1 a ha List.mem_cons_self
      · rcases Nat.lt_or_ge j m with hl | hl
        · exact s1.apart j m _ _ hl eT ex a (List.mem_append_right _ hb) ha
        · exact s1.apart m j _ _ (by omega) ex eT a ha (List.mem_append_right _ hb)
  have s3 : Sta F G0 G' H' σ ((ρ1.set j (.res r)).set i .any) := s2.growL gr (fun a ha => by
    rcases List.mem_cons.mp ha with rfl | ha
    · exact ⟨(f1 a List.mem_cons_self).1, (f1 a List.mem_cons_self).2.1⟩
    · exact ⟨(fb a ha).1, (fb a ha).2.1⟩) ap2
  have lp : H' p ≠ none := by
    obtain ⟨_, xs, es, hx, _⟩ := ok'
    rw [hx]
    simp
  have s4 := s3.attach (r := lstP p (P n')) e1' ok' (fun a ha => by
    obtain rfl := List.mem_singleton.mp ha
    exact ⟨(f1 a List.mem_cons_self).1, nG' a List.mem_cons_self, lp⟩) (fun m x hm ex a ha hb => by
    obtain rfl := List.mem_singleton.mp hb
    exact ap2 m x ex a ha List.mem_cons_self)
  have s5 := s4.tied (i := j) (r := r) (R := withT T r) (M := tabs T) (by
      rw [List.getElem?_set_ne hij, List.getElem?_set_ne hij, List.getElem?_set_self hj]) (fun a ha => ⟨(fb a ha).1, nG' a (List.mem_cons_of_mem _ ha), tT'.live a ha⟩) (fun m x ex a ha hb => by
      by_cases hm : i = m
      · subst hm
        rw [List.getElem?_set_self (by rw [List.length_set, List.length_set]; exact hi)] at ex
        cases ex
        obtain rfl := List.mem_singleton.mp (show a ∈ [p] from ha)
        exact pT a (List.mem_append_right _ hb) rfl
      · rw [List.getElem?_set_ne hm] at ex
        exact ap2 m x ex a ha (List.mem_cons_of_mem _ hb)) rfl fun v k => ⟨k, tT', nT⟩
  have er : ((((ρ1.set j (.res r)).set i .any).set i (.res (lstP p (P n')))).set j (.res (withT T r))) = ρ1.set i (.res (lstP p (P n'))) := by
    rw [List.set_set, List.set_comm _ _ hij, List.set_set, set_back eT]
  rw [er] at s5
  exact k v d _ G' H' s5 (g1.trans gr.g) rv q
/-- a def that makes lambdas -/
theorem we_callDT {pre : List PyData → (PyData → Prop) → Prop} (h : Wa tas ρ fun ds ρ1 => ρ1[j]? = some (.res (withT T r)) ∧ pre ds fun d => Φ d ρ1) : We (tCall (SpDT T pre) [] E tas) ρ Φ := fun F G0 G H σ s Q k => by
  refine h F G0 G H σ s _ fun vs ds ρ1 G1 H1 s1 g1 r1 ⟨eT, hp⟩ => ?_
  obtain ⟨vT, eT', ⟨okr, tT, nT⟩, fT⟩ := s1.getR eT
  have hj : j < ρ1.length := (List.getElem?_eq_some_iff.mp eT).1
  have fb : ∀ a ∈ tabs T, F a = none ∧ G1 a = none ∧ H1 a ≠ none := fun a ha => fT a (List.mem_append_right _ ha)
  refine ⟨G1, ds, _, s1.gh, by rw [List.append_nil]; exact r1, tT, fun a ha => (fb a ha).2.1, hp, fun v d G' H' gr tT' nG' rv q => ?_⟩
  have s2 : Sta F G0 G1 H1 σ (ρ1.set j (.res r)) := s1.swap (r := r) eT (fun v k => k.1) fun a ha => List.mem_append_left _ ha
  have ap2 : ∀ (m : Nat) (x : Slot), (ρ1.set j (.res r))[m]? = some x → ∀ a ∈ x.fp, a ∉ tabs T := fun m x ex a ha hb => by
    by_cases hm2 : j = m
    · subst hm2
      rw [List.getElem?_set_self hj] at ex
      cases ex
      exact nT a ha hb
    · rw [List.getElem?_set_ne hm2] at ex
      rcases Nat.lt_or_ge j m with hl | hl
      · exact s1.apart j m _ _ hl eT ex a (List.mem_append_right _ hb) ha
      · exact s1.apart m j _ _ (by omega) ex eT a ha (List.mem_append_right _ hb)
  have s3 : Sta F G0 G' H' σ (ρ1.set j (.res r)) := s2.growL gr (fun a ha => ⟨(fb a ha).1, (fb a ha).2.1⟩) ap2
  have s5 := s3.tied (i := j) (r := r) (R := withT T r) (M := tabs T) (List.getElem?_set_self hj) (fun a ha => ⟨(fb a ha).1, nG' a ha, tT'.live a ha⟩) ap2 rfl fun v k => ⟨k, tT', nT⟩
  rw [List.set_set, set_back eT] at s5
  exact k v d _ G' H' s5 (g1.trans gr.g) rv q
end
end Dv

/-! Dv41: the law's own call where defs make lambdas: the tables stand beside the script. -/
namespace Dv
open PySem PySem.Spec PyProof.Rows L2 LamX NdefX
abbrev tab0 : Obj := { cls := .none, data := .fields #[] }
/-- nothing but the script and the tables is told -/
def OnlyT (a : Addr) (xs : List V) (Ps : List Addr) (H : Hp) : Prop := ∀ b u, H b = some u → (b = a ∧ ∃ o, u = .frz o (.lst xs)) ∨ (b ∈ Ps ∧ u = .tbl #[])
theorem law_callGT {P : Program} {w : World} {K : PySem.W.Frag} {mg mb : Str → Option Value} {cx : CXT} {k : Nat} {fa a : Addr} {cs : List (Addr × Addr)} {fd : FuncData} {x : Str} {sp : Sp} {s1 : Shared} {vs : List Value} {ns : List Int}
    (KX : K.In s1.heap) (hns : s1.heap.Ns mainGlobals mg) (hb : s1.heap.Ns builtinsNs mb) (hbb : ∀ x : Str, x ≠ "__name__" → mb x = bootBuiltins x) (hlim : s1.heap.NoLimit) (hgen : s1.gens = #[])
    (tabs0 : ∀ p ∈ cs, s1.heap.get? p.2 = some tab0) (tabK : ∀ p ∈ cs, K.lookup p.2 = none) (heads : ∀ p ∈ cs, PySem.W.CodeHd s1.heap p.1 p.2)
    (main : ∃ (bm : Addr) (ob : Obj), mg "__builtins__" = some (.ref bm) ∧ bm ≠ builtinsNs ∧ s1.heap.get? bm = some ob ∧ ob.cls = .type "module" ∧ ob.dict = some builtinsNs ∧ ob.data = .plain)
    (ha : s1.heap.get? a = some { cls := .type "list", data := .seq vs.toArray }) (hi : IntsAre vs ns) (hl : ns.length ≤ sizeLine) (hr : Room k callerA)
    (F : ∀ base : Heap, K.In base → base.Ns mainGlobals mg → (∀ p ∈ cs, TabB base mg p.1 p.2) → FnG P w K mg base cx k fa fd [x] sp) (hbind : ∀ (s : Shared) (u : Value), BindsTo s fd ⟨[u], []⟩ [(x, u)])
    (hsp : ∀ H : Hp, (∀ p ∈ cs, H p.2 = some (.tbl #[])) → SqL K H a (ns.map V.int) → sp [.ref a] H (fun v _ => v = .bl true) fun _ _ _ => False)
    (hcx : ∀ H e s', cx [] H s1 (fun _ _ _ => False) e s' → False) :
    codeAny (model P w) callerA (.call (.ref fa) ⟨[.ref a], []⟩) (fun r s' => r = .ok (.ret (.bool true)) ∧ OldK s1.heap s'.heap ∧ s'.os = s1.os ∧ AllBare s'.gens) s1 := by
  have rv := vals_ints hi
  have hlen := hi.length
  have tab_at : ∀ {b : Addr}, b ∈ cs.map (·.2) → s1.heap.get? b = some tab0 := by
    intro b hb
    obtain ⟨p, hp, rfl⟩ := List.mem_map.mp hb
    exact tabs0 p hp
  have a_no : a ∉ cs.map (·.2) := fun z => by
    have h1 := tab_at z
    rw [ha] at h1
    exact absurd (congrArg Obj.data (Option.some.inj h1)) fun q => nomatch (show Data.seq vs.toArray _ = Data.fields #[] from q)
  have go : ∀ H : Hp, OnlyT a (ns.map V.int) (cs.map (·.2)) H → (∀ p ∈ cs, H p.2 = some (.tbl #[])) → SqL K H a (ns.map V.int) → HOk P w H s1.heap → (H a ≠ none → K.lookup a = none) →
      codeAny (model P w) callerA (.call (.ref fa) ⟨[.ref a], []⟩) (fun r s' => r = .ok (.ret (.bool true)) ∧ OldK s1.heap s'.heap ∧ s'.os = s1.os ∧ AllBare s'.gens) s1 := by
    intro H hO hT hS hok hKa
    -- what is neither the script nor a table is not told
    have untold : ∀ {b : Addr} {o : Obj}, s1.heap.get? b = some o → (∀ us n, o.data ≠ .seq us n) → o.data ≠ .fields #[] → H b = none := by
      intro b o e n1 n2
      match q : H b with
      | none => rfl
      | some u =>
        rcases hO b u q with ⟨rfl, _⟩ | ⟨hb, _⟩
        · rw [ha] at e
          cases e
          exact absurd rfl (n1 _ _)
        · rw [tab_at hb] at e
          cases e
          exact absurd rfl n2
    have dictOut : ∀ {b : Addr} {m : Str → Option Value}, s1.heap.Ns b m → (hidT s1.heap H).Ns b m := by
      rintro b m ⟨o, es, ep, e, d, r⟩
      refine ⟨o, es, ep, hidT_get e (untold e (fun us n z => ?_) fun z => ?_), d, r⟩ <;> · rw [d] at z; cases z
    have kin : K.In (hidT s1.heap H) := by
      intro b o e
      refine hidT_get (KX b o e) ?_
      match q : H b with
      | none => rfl
      | some u =>
        rcases hO b u q with ⟨rfl, _⟩ | ⟨hb, _⟩
        · rw [hKa (by rw [q]; exact fun z => nomatch z)] at e
          cases e
        · obtain ⟨p, hp, rfl⟩ := List.mem_map.mp hb
          rw [tabK p hp] at e
          cases e
    have tb : ∀ p ∈ cs, TabB (hidT s1.heap H) mg p.1 p.2 := by
      intro p hp
      have h0 := tabs0 p hp
      obtain ⟨oM, esM, epM, eM, dM, _⟩ := id hns
      have nMain : mainGlobals ≠ p.2 := fun z => by
        rw [z, h0] at eM
        cases eM
        cases dM
      refine ⟨?_, ?_, nMain⟩
      · obtain ⟨o, us, file, tf, flags, tg, inF, text, tt, e1, r1, r2, r3, r4⟩ := heads p hp
        refine ⟨o, us, file, tf, flags, tg, inF, text, tt, hidT_get e1 (untold e1 (fun us' n z => ?_) fun z => ?_), r1, r2, r3, r4⟩
        · rw [r2] at z
          cases z
        · rw [r2] at z
          cases z
          simp at r3
      · obtain ⟨bm, ob, b1, b2, b3, b4, b5, b6⟩ := main
        refine ⟨bm, ob, b1, b2, fun z => ?_, fun z => ?_, hidT_get b3 (untold b3 (fun us n z => ?_) fun z => ?_), b4, b5, b6⟩
        · rw [z, eM] at b3
          cases b3
          rw [dM] at b6
          cases b6
        · rw [z, h0] at b3
          cases b3
          cases b6
        · rw [b6] at z
          cases z
        · rw [b6] at z
          cases z
    obtain ⟨mc, lim1, lim2⟩ := hlim
    have M : Mod K mg (hidT s1.heap H) := ⟨kin, dictOut hns, ⟨mb, dictOut hb, hbb⟩, mc, dictOut lim1, lim2⟩
    have e0 : Env0 P w K mg (hidT s1.heap H) callerA [] s1 H :=
      ⟨rfl, M, fun b o e => of_hidT e, Nat.le_of_eq (hidT_size _ _), trivial, fun b hb => absurd (show b ∈ ([] : List Addr) from hb) List.not_mem_nil, hok, .of_eq hgen⟩
    refine codeAny_mono ((F _ kin (dictOut hns) tb).run callerA [] s1 H ⟨[.ref a], []⟩ [.ref a] [.ref a] _ _ hr rfl e0 (hbind s1 (.ref a)) (.cons rfl .nil) (hsp H hT hS)) ?_
    intro r s' h
    match r, h with
    | .error e, h => exact (hcx H e s' h).elim
    | .ok .next, h => exact h.elim
    | .ok .brk, h => exact h.elim
    | .ok .cont, h => exact h.elim
    | .ok (.ret u), h =>
      obtain ⟨v, H', hos, bare, un, hok', rvu, qv⟩ := h
      have qv' : v = .bl true := qv
      subst qv'
      have ru : u = Value.bool true := rvu
      subst ru
      have tabs1 : ∀ p ∈ cs, ∃ more : Array Value, s'.heap.get? p.2 = some { cls := .none, data := .fields more } := by
        intro p hp
        obtain ⟨more, z⟩ := un.tbls p.2 #[] (hT p hp)
        exact ⟨_, hok' p.2 _ z⟩
      have stay : ∀ b o, b ∉ cs.map (·.2) → s1.heap.get? b = some o → s'.heap.get? b = some o := by
        intro b o nb e
        match q : H b with
        | none => exact un.keep b o e q (fun z => absurd (show b ∈ ([] : List Addr) from z) List.not_mem_nil) List.not_mem_nil
        | some u =>
          rcases hO b u q with ⟨_, ob, rfl⟩ | ⟨hb, _⟩
          · obtain ⟨e1, _⟩ := hok b _ q
            obtain ⟨e2, _⟩ := hok' b _ (un.frzs b ob _ q)
            rw [e] at e1
            cases e1
            exact e2
          · exact absurd hb nb
      refine ⟨rfl, ⟨fun b o e => ?_, fun b o e => ?_⟩, hos, bare⟩
      · by_cases hb : b ∈ cs.map (·.2)
        · obtain ⟨p, hp, rfl⟩ := List.mem_map.mp hb
          obtain ⟨more, hm⟩ := tabs1 p hp
          have h0 := tabs0 p hp
          rw [h0] at e
          cases e
          exact .inr (.inl ⟨((heads p hp).tab h0).isCodeTable, rfl, #[], more, rfl, by rw [Array.empty_append]; exact hm⟩)
        · exact .inl (stay b o hb e)
      · by_cases hb : b ∈ cs.map (·.2)
        · obtain ⟨p, hp, rfl⟩ := List.mem_map.mp hb
          obtain ⟨more, hm⟩ := tabs1 p hp
          exact ⟨_, hm⟩
        · exact ⟨o, stay b o hb e⟩
  have into : ∀ {p : Addr × Addr}, p ∈ cs → p.2 ∈ cs.map (·.2) := fun hp => List.mem_map.mpr ⟨_, hp, rfl⟩
  match hk : K.lookup a with
  | some o =>
    have e := KX a o hk
    rw [ha] at e
    cases e
    let Ht : Hp := fun b => if b ∈ cs.map (·.2) then some (.tbl #[]) else none
    have t1 : ∀ {b}, b ∈ cs.map (·.2) → Ht b = some (.tbl #[]) := fun hb => if_pos hb
    have t2 : ∀ {b}, b ∉ cs.map (·.2) → Ht b = none := fun hb => if_neg hb
    refine go Ht (fun b u z => ?_) (fun p hp => t1 (into hp)) (.inr ⟨_, vs.toArray, _, hk, rfl, rfl, rfl, ?_, ?_⟩) (fun b u z => ?_) fun z => absurd (t2 a_no) z
    · by_cases hb : b ∈ cs.map (·.2)
      · rw [t1 hb] at z
        exact .inr ⟨hb, (Option.some.inj z).symm⟩
      · rw [t2 hb] at z
        cases z
    · rw [List.size_toArray, hlen]
      exact hl
    · simpa using rv
    · by_cases hb : b ∈ cs.map (·.2)
      · rw [t1 hb] at z
        cases z
        exact tab_at hb
      · rw [t2 hb] at z
        cases z
  | none =>
    let o : Obj := { cls := .type "list", data := .seq vs.toArray }
    let Hs : Hp := fun b => if b = a then some (.frz o (.lst (ns.map V.int))) else if b ∈ cs.map (·.2) then some (.tbl #[]) else none
    have h1 : Hs a = some (.frz o (.lst (ns.map V.int))) := if_pos rfl
    have h2 : ∀ {b}, b ∈ cs.map (·.2) → Hs b = some (.tbl #[]) := fun {b} hb => (if_neg fun z => a_no (by rw [← z]; exact hb)).trans (if_pos hb)
    have h3 : ∀ {b}, b ≠ a → b ∉ cs.map (·.2) → Hs b = none := fun n1 n2 => (if_neg n1).trans (if_neg n2)
    refine go Hs (fun b u z => ?_) (fun p hp => h2 (into hp)) (.inl (.inr ⟨o, h1⟩)) (fun b u z => ?_) fun _ => hk
    · by_cases hba : b = a
      · subst hba
        rw [h1] at z
        exact .inl ⟨rfl, o, (Option.some.inj z).symm⟩
      · by_cases hb : b ∈ cs.map (·.2)
        · rw [h2 hb] at z
          exact .inr ⟨hb, (Option.some.inj z).symm⟩
        · rw [h3 hba hb] at z
          cases z
    · by_cases hba : b = a
      · subst hba
        rw [h1] at z
        cases z
        exact ⟨ha, by rw [List.length_map]; exact hl, vs, _, rv, ha⟩
      · by_cases hb : b ∈ cs.map (·.2)
        · rw [h2 hb] at z
          cases z
          exact tab_at hb
        · rw [h3 hba hb] at z
          cases z
/-- the tables of the text's defs are empty -/
theorem walk_ofGT {l : PySem.W.OpenLaw} {n k : Nat} {q : Program} {loose : List Str} {XP : (Str → Option Value) → Heap → Prop} {YP : World → Heap → Prop} {d : DefRec} {K : Params → PySem.W.Frag} {cx : World → CXT} {x : Str}
    (hn : l.most = some n) (hn2 : n ≤ sizeLine) (hdf : d.params.defaults = []) (hr : Room k callerA) (hY : ∀ (w : World) (h : Heap), YP w h → (K w.params).In h)
    (F : ∀ (w : World) (mg : Str → Option Value) (fa : Addr) (h : Heap), (K w.params).In h → h.Ns mainGlobals mg → mg d.name = some (.ref fa) →
      (∀ (y : Str) (f : Addr), ((recsOf q).any fun e => e.name == y) = true → mg y = some (.ref f) → OwnTab (K w.params) f h) →
      ∃ (fd : FuncData) (cs : List (Addr × Addr)) (sp : Sp), (∀ p ∈ cs, h.get? p.2 = some tab0) ∧ (∀ p ∈ cs, (K w.params).lookup p.2 = none) ∧ (∀ p ∈ cs, PySem.W.CodeHd h p.1 p.2) ∧ (∀ (s : Shared) (u : Value), BindsTo s fd ⟨[u], []⟩ [(x, u)]) ∧
        (∀ (H : Hp) (a : Addr) (ns : List Int), ns.length ≤ n → (∀ p ∈ cs, H p.2 = some (.tbl #[])) → SqL (K w.params) H a (ns.map V.int) → sp [.ref a] H (fun v _ => v = .bl true) fun _ _ _ => False) ∧
        ∀ base : Heap, (K w.params).In base → base.Ns mainGlobals mg → (∀ p ∈ cs, TabB base mg p.1 p.2) → FnG l.prog w (K w.params) mg base (cx w) k fa fd [x] sp)
    (hcx : ∀ (w : World) (H : Hp) (s : Shared) (e : Value) (s' : Shared), cx w [] H s (fun _ _ _ => False) e s' → False) :
    PySem.W.WalkO q loose XP YP l.row.toRowW d [] (fun f vs => PySem.call f vs) := by
  refine Att.attach_call hn hdf fun w s0 s1 mg mb fa o pm cd doc a vs ns G Y ho hd hcd hmg hobj hints hlen hgen => ?_
  have KX := hY w _ Y
  obtain ⟨fd, cs, sp, t1, t2, t3, hb, hsp, hF⟩ := F w mg fa _ KX G.T.g hmg (by
    intro y f hy hf c Pt o1 fd1 e dd us sl l1 l2 l3 l4 l5
    obtain ⟨rec, hm, hn1⟩ := List.any_eq_true.mp hy
    have hy2 : rec.name = y := beq_iff_eq.mp hn1
    obtain ⟨a2, o2, fd2, c2, P2, g1, g2, g3, g4, g5, ⟨oc, vc, e1, _, e3, e4⟩, hP⟩ := G.T.tab rec hm
    rw [hy2, hf] at g1
    cases g1
    rw [KX _ _ l1] at g2
    cases g2
    rw [l2] at g3
    cases g3
    rw [l3] at g4
    cases g4
    rw [KX _ _ l4] at e1
    cases e1
    cases e3
    rw [l5] at e4
    cases e4
    exact hP)
  exact law_callGT KX G.T.g G.T.b G.T.builtins G.T.nolimit hgen t1 t2 t3 G.T.bmain hobj hints (Nat.le_trans hlen hn2) hr hF hb (fun H hH hS => hsp H a ns hlen hH hS) fun H e s' => hcx w H s1 e s'
end Dv

/-! Dv42: {}, sums of tuples, tuples of the text, kinds of errors that are built in. -/
namespace Dv
open PySem PySem.Spec PyProof.Rows L2
section
variable {te ta tb : TE} {tas : TA} {ρ : Rho} {Φ : PyData → Rho → Prop} {K : PySem.W.Frag} {φ : PyData → Prop}
theorem we_dict0 (q : Φ (.dict []) ρ) : We tDNewK ρ Φ := fun F G0 G H σ s Q k => fun p hp => by
  have w : Grow G H (L2.upd G p (.dK [])) (L2.upd H p (.dK [])) := .laid s.gh hp
  exact k _ _ ρ _ _ (s.grow w) w.g (.dct upd_same .nil) q
/-- sum of a list or a tuple of whole numbers -/
def rSumU (K : PySem.W.Frag) : List V → Hp → VK → Prop := fun vs H Q => ∃ (a : Addr) (ns : List Int), vs = [V.ref a] ∧ (SqL K H a (ns.map V.int) ∨ SqT K H a (ns.map V.int)) ∧ Q (.int ns.sum) H
theorem k_sumU {X : Cx} (h : X.K = K) (hc : X.calm = true) : CallR X (.builtin "sum") (rSumU K) := by
  subst h
  intro pins s σ H vs us Q I r h
  obtain ⟨a, ns, rfl, hs, q⟩ := h
  rcases hs with hs | hs
  · exact cr_sum hc pins s σ H [.ref a] us Q I r ⟨a, ns, rfl, hs, q⟩
  · obtain ⟨its, rv, ht, _⟩ := I.tuple hs
    rw [Vals.ref1 r]
    obtain ⟨xs, e⟩ := rv.ints.allInts.items
    have hn : numsOf (intItems xs).toList = ns := by rw [← e]; exact rv.ints.numsOf
    rw [nums_intItems] at hn
    rw [e] at ht
    refine PySem.W.ktm_sumG (I.ok.hd hc) ht fun h' tk t' hk => ?_
    rw [preSum_eq, List.take_of_length_le (by simp), hn]
    exact ⟨.int _, H, I.kept hk, ⟨_, rfl⟩, q⟩
theorem opc_sumT {ns : List Int} (q : φ (.int ns.sum)) : OpFC (rSumU K) [.tuple (ns.map .int)] φ := fun G H vs s r Q k => by
  cases r with
  | cons r1 r2 =>
    cases r2
    cases r1 with
    | tup h1 h2 =>
      have e := map_int h2
      subst e
      exact ⟨_, ns, rfl, .inr (.inl (.inl (s _ _ h1))), k _ _ (fun _ => .int _) q⟩
/-- x not in t, t a tuple of data -/
def rNotInTD (K : PySem.W.Frag) : R2 := fun x y H Q => ∃ d ds, Dp K H x d ∧ Dp K H y (.tuple ds) ∧ SeqAt.shaped d = true ∧ SeqAt.shaped (.tuple ds) = true ∧ Q (.bl (!ds.any fun z => PyData.eqv z d)) H
theorem k_notInTD {X : Cx} (h : X.K = K) (hu : X.A.units + 66 < cLine) : OpR X (compareOp .NotIn) (rNotInTD K) := by
  subst h
  intro pins s σ H x y v u Q I rx ry h
  obtain ⟨d, ds, hd, he, sd, se, q⟩ := h
  obtain ⟨as, r1⟩ := Dp.reads I d x v hd rx
  obtain ⟨bs, r2⟩ := Dp.reads I (.tuple ds) y u he ry
  have hz := SeqAt.depth_of_shaped sd
  have hm := Nat.min_le_right (PyData.depthAll ds) d.depth
  exact SeqAt.notIn_tuple_reads r2 r1 (SeqAt.canLay_of_shaped se) (SeqAt.canLay_of_shaped sd) (by omega) ⟨.bl _, H, I, rfl, q⟩
/-- a tuple of texts that the written part holds -/
def KTup (K : PySem.W.Frag) (a : Addr) (zs : List Str) : Prop := ∀ H : Hp, SqT K H a (zs.map V.str)
theorem dp_strs {H : Hp} : ∀ zs : List Str, DpAll K H (zs.map V.str) (zs.map PyData.str)
  | [] => .nil
  | z :: zs => .cons (.str z) (dp_strs zs)
theorem we_notInK {a : Addr} {zs : List Str} (T : KTup K a zs) (h : We ta ρ fun d ρ1 => Okd d ∧ SeqAt.shaped (.tuple (zs.map .str)) = true ∧ Φ (.bool (!(zs.map PyData.str).any fun z => PyData.eqv z d)) ρ1) : We (tOp (rNotInTD K) ta (tC (.ref a))) ρ Φ := fun F G0 G H σ s Q k =>
  h F G0 G H σ s _ fun v d ρ1 G1 H1 s1 g1 r1 ⟨ok, sh, p⟩ => ⟨d, _, Rp.dp ok.nd (r1.mono s1.gh), .tup (T H1) (dp_strs zs), ok.sh, sh, k _ _ ρ1 G1 H1 s1 g1 (.bl _) p⟩
/-- isinstance(e, ValueError) of an own error that is ours -/
theorem we_isxT {j : Nat} {a C dx : Addr} {d : PyData} {T : String} {b : Bool} (h0 : ρ[j]? = some (.res (excR a C dx d))) (X : XqC K C) (hk : PySem.W.kitOne K (.ref C) (.type T) = some b) (q : Φ (.bool b) ρ) : We (tCB (rIsX K) (tCons (tVar j) (tCons (tC (.ty T)) tNil))) ρ Φ := fun F G0 G H σ s Q k => by
  obtain ⟨v, e, ⟨rfl, ea, y, ed, ry⟩, _⟩ := s.getR h0
  exact ⟨_, e, a, C, dx, _, .ty T, .type T, b, rfl, fun u r => r, ea, ed, X, hk, k _ _ ρ G H s (Same.refl G) (.bl b) q⟩
end
end Dv

/-! Dv43: lists told often, something hung onto a told list. -/
namespace Dv
open PySem PySem.Spec PyProof.Rows L2
theorem rpa_reps {G : Hp} {vs : List V} {ds : List PyData} (r : RpA G vs ds) : ∀ n : Nat, RpA G (List.replicate n vs).flatten (List.replicate n ds).flatten
  | 0 => .nil
  | n + 1 => by
    rw [List.replicate_succ, List.replicate_succ, List.flatten_cons, List.flatten_cons]
    exact r.app (rpa_reps r n)
/-- is not True, is not False, of anything -/
def rNotB : R2 := fun x y H Q => ∃ (b : Bool) (d : PyData) (G : Hp), y = .bl b ∧ Rp G x d ∧ Q (.bl (!isB b d)) H
theorem op_notBl' {X : Cx} : OpR X (compareOp .IsNot) rNotB := by
  intro pins s σ H x y v u Q I rx ry h
  obtain ⟨b, d, G, rfl, rd, q⟩ := h
  cases (show u = Value.bool b from ry)
  cases rd with
  | bl a =>
    cases (show v = Value.bool a from rx)
    by_cases e : a = b
    · subst e
      exact wpAny_isNot_self rfl ⟨.bl false, H, I, rfl, by simpa [isB] using q⟩
    · exact wpAny_isNot_other rfl (fun z => e (Value.bool.inj z)) ⟨.bl true, H, I, rfl, by
        have e2 : isB b (.bool a) = false := beq_false_of_ne e
        rw [e2] at q
        exact q⟩
  | non =>
    cases (show v = Value.none from rx)
    exact wpAny_isNot_other rfl (fun z => nomatch z) ⟨.bl true, H, I, rfl, q⟩
  | int i =>
    obtain ⟨t, rfl⟩ := rx
    exact wpAny_isNot_other rfl (fun z => nomatch z) ⟨.bl true, H, I, rfl, q⟩
  | str i =>
    obtain ⟨t, rfl⟩ := rx
    exact wpAny_isNot_other rfl (fun z => nomatch z) ⟨.bl true, H, I, rfl, q⟩
  | lst h1 h2 =>
    cases rx
    exact wpAny_isNot_other rfl (fun z => nomatch z) ⟨.bl true, H, I, rfl, q⟩
  | tup h1 h2 =>
    cases rx
    exact wpAny_isNot_other rfl (fun z => nomatch z) ⟨.bl true, H, I, rfl, q⟩
  | dct h1 h2 =>
    cases rx
    exact wpAny_isNot_other rfl (fun z => nomatch z) ⟨.bl true, H, I, rfl, q⟩
theorem op2_notB {x : PyData} {b : Bool} {φ : PyData → Prop} (q : φ (.bool (!isB b x))) : OpF2 rNotB x (.bool b) φ := fun G H v u s r1 r2 Q k => by
  cases r2
  exact ⟨b, x, G, rfl, r1, k _ _ (fun _ => .bl _) q⟩
section
variable {K : PySem.W.Frag} {φ : PyData → Prop}
theorem op2_mulLs {ds : List PyData} {n : Int} (h0 : -(2 ^ 40) < n) (h1 : n < 2 ^ 40) (h2 : ds.length * n.toNat ≤ 16777216) (q : φ (.list (List.replicate n.toNat ds).flatten)) : Op2 rMulU (.list ds) (.int n) φ := fun G H v u s r1 r2 Q k => by
  cases r1 with
  | lst e1 e2 =>
    cases r2
    refine .inr ⟨_, _, _, rfl, rfl, s _ _ e1, by omega, by omega, by rw [e2.len, sizeLine_eq]; exact h2, fun p hp => ?_⟩
    have ng := none_of s hp
    exact k _ _ (upd G p (.lst _)) _ (.laid s hp) (.lst upd_same ((rpa_reps e2 _).mono (same_upd ng))) q
end
section
variable {K : PySem.W.Frag} {ρ : Rho} {i : Nat} {nx bk ct : Rho → Prop} {rt : PyData → Rho → Prop}
/-- None is hung onto a told list that nobody looks at any more -/
theorem q_appO {F G0 : Hp} {L : List Addr} {ds : List PyData} (h0 : ρ[i]? = some (.res (own L (.list ds)))) (hl : ds.length < 100000) (q : nx (ρ.set i .any)) : Ws F G0 (tDrop (tBM K "list" rAppend (tVar i) (tCons (tC .non) tNil))) ρ ⟨nx, rt, bk, ct⟩ := fun G H σ s D q1 q2 q3 q4 => by
  obtain ⟨v, e, t, n⟩ := s.getR h0
  cases t with
  | flt r f => cases f
  | @lst a xs _ L' hp ra na =>
    obtain ⟨nF, nG, _⟩ := n a List.mem_cons_self
    have hi : i < ρ.length := (List.getElem?_eq_some_iff.mp h0).1
    have hx : xs.length < 100000 := by rw [ra.len]; exact hl
    refine ⟨_, e, .inl ⟨rfl, xs, .inl (.inl hp)⟩, a, xs, .non, rfl, rfl, hp, szs hx, q1 _ _ G _ ((s.forget i).put nF nG fun k x ek hx => ?_) (Same.refl G) q⟩
    by_cases hk : i = k
    · subst hk
      rw [List.getElem?_set_self hi] at ek
      cases ek
      cases hx
    · rw [List.getElem?_set_ne hk] at ek
      rcases Nat.lt_or_ge i k with hl | hl
      · exact s.apart i k _ _ hl h0 ek a List.mem_cons_self hx
      · exact s.apart k i _ _ (by omega) ek h0 a hx List.mem_cons_self
end
section
variable {cA : String → Addr} {F G0 : Hp} {ρ : Rho} {nx bk ct : Rho → Prop} {rt : PyData → Rho → Prop} {tas : TA} {E : XK} {ψ : String → PyData → Prop} {pre : List PyData → (PyData → Prop) → (String → PyData → Prop) → Prop}
/-- a call as a statement; the error is let out -/
theorem q_dropX (hE : EOk cA E ψ F G0) (h : Wa tas ρ fun ds ρ1 => pre ds (fun _ => nx ρ1) ψ) : Ws F G0 (tDrop (tCall (SpX cA pre) [] E tas)) ρ ⟨nx, rt, bk, ct⟩ := fun G H σ s D q1 q2 q3 q4 =>
  h F G0 G H σ s _ fun vs ds ρ1 G1 H1 s1 g1 r1 p => ⟨G1, ds, _, _, s1.gh, by rw [List.append_nil]; exact r1, p, fun v d G' H' gr r q => q1 _ _ G' H' (s1.grow gr) (g1.trans gr.g) q, hE.sta s1 fun _ _ z => z⟩
end
end Dv

/-! Dv44: zip(.., strict=True), max of three. -/
namespace Dv
open PySem PySem.Spec PyProof.Rows L2
section
variable {K : PySem.W.Frag} {tas : TA} {ρ : Rho} {φ : PyData → Prop}
theorem wi_zipS {Φ : List PyData → Rho → Prop} (h : Wa tas ρ fun vs ρ1 => ∃ ds es, vs = [.list ds, .list es] ∧ ds.length = es.length ∧ Φ (pairs ds es) ρ1) : Wi (Zx.iZipS K tas) ρ Φ := fun F G0 G H σ s R k =>
  h F G0 G H σ s _ fun vs ls ρ1 G1 H1 s1 g1 r1 ⟨ds, es, e, hl, q⟩ => by
    subst e
    cases r1 with
    | cons ra rb =>
      cases rb with
      | cons rb rc =>
        cases rc
        cases ra with
        | lst h1 h2 =>
          cases rb with
          | lst h3 h4 =>
            rename_i a xs b ys
            refine ⟨a, b, xs, ys, rfl, .inl (.inl (s1.gh _ _ h1)), .inl (.inl (s1.gh _ _ h3)), k _ _ ρ1 G1 H1 s1 g1 (fun G2 H2 s2 s3 => ?_) q⟩
            have hq : SqL K H2 a xs := .inl (.inl (s3 _ _ (s2 _ _ h1)))
            have hq' : SqL K H2 b ys := .inl (.inl (s3 _ _ (s2 _ _ h3)))
            have e1 := h2.len
            have e2 := h4.len
            refine ⟨⟨xs, ys, hq, hq', by simp [pairs]; omega, by simp [pairs]; omega⟩, fun i d e => ?_⟩
            unfold pairs at e
            rw [List.getElem?_zipWith] at e
            cases qa : ds[i]? with
            | none => rw [qa] at e; cases e
            | some da =>
              cases qb : es[i]? with
              | none => rw [qa, qb] at e; cases e
              | some db =>
                rw [qa, qb] at e
                obtain rfl := (Option.some.inj e).symm
                obtain ⟨v, ev, rv⟩ := h2.get qa
                obtain ⟨u, eu, ru⟩ := h4.get qb
                refine ⟨⟨xs, ys, v, u, hq, hq', ev, eu⟩, fun x H' y => ?_⟩
                obtain ⟨T, x1, x2, rfl, nT, rfl, f1, f2⟩ := y
                have z1 := f1 _ hq
                have z2 := f2 _ hq'
                rw [ev] at z1
                rw [eu] at z2
                cases z1
                cases z2
                exact ⟨_, grow_pair s3 nT (rv.mono s2) (ru.mono s2)⟩
theorem k_pzipS {X : Cx} {e e2 : Expr} {t : TA} {p pos tpos cp kp : Pos} {elts : List Expr} {kk ck : Nat} (h : X.K = K) (hg : Gl X "zip") (hm : X.mg "zip" = none) (ha : PA X [e, e2] t)
    (he : backTo pos (starEach [e, e2] X.env) = (false, eval e X.env) :: backTo pos (starEach [e2] X.env) := by rfl) (hpl : (backTo pos (starEach [e, e2] X.env)).any (·.1) = false := by rfl) :
    PI X (.Tuple elts kk tpos) (.Call (.Name "zip" p) [e, e2] [⟨some "strict", .Constant (.bool true) ck cp, kp⟩] pos) (Zx.iZipS K t) := by
  subst h
  exact Zx.pi_zipS hg hm ha he hpl
def rMax3 : List V → Hp → VK → Prop := fun xs H Q => ∃ i j k : Int, xs = [.int i, .int j, .int k] ∧ Q (.int (max (max i j) k)) H
theorem call_max3' {X : Cx} (hc : X.calm = true) : CallR X (.builtin "max") rMax3 := by
  intro pins s σ H xs us Q I r h
  obtain ⟨i, j, k, rfl, q⟩ := h
  refine call_max3Nu hc pins s σ H _ us Q I r ⟨_, _, _, .int (max (max i j) k), rfl, ?_, q⟩
  show ((some (decide (i < j))).map fun c => if c = true then V.int j else V.int i).bind (fun m => nuMax2 m (.int k)) = _
  by_cases h1 : i < j
  · rw [decide_eq_true h1]
    show ((some (decide (j < k))).map fun c => if c = true then V.int k else V.int j) = _
    by_cases h2 : j < k
    · rw [decide_eq_true h2, show max (max i j) k = k by omega]
      rfl
    · rw [decide_eq_false h2, show max (max i j) k = j by omega]
      rfl
  · rw [decide_eq_false h1]
    show ((some (decide (i < k))).map fun c => if c = true then V.int k else V.int i) = _
    by_cases h2 : i < k
    · rw [decide_eq_true h2, show max (max i j) k = k by omega]
      rfl
    · rw [decide_eq_false h2, show max (max i j) k = i by omega]
      rfl
theorem opc_max3 {i j k : Int} (q : φ (.int (max (max i j) k))) : OpFC rMax3 [.int i, .int j, .int k] φ := fun G H vs s r Q kk => by
  cases r with
  | cons r1 r =>
    cases r with
    | cons r2 r =>
      cases r with
      | cons r3 r =>
        cases r
        cases r1
        cases r2
        cases r3
        exact ⟨i, j, k, rfl, kk _ _ (fun _ => .int _) q⟩
/-- len of a list that still changes -/
theorem we_lenR {i : Nat} {a : Addr} {ds : List PyData} {Φ : PyData → Rho → Prop} (h : ρ[i]? = some (.res (lst a ds))) (q : Φ (.int ds.length) ρ) : We (tCB (rLen K) (tCons (tVar i) tNil)) ρ Φ := fun F G0 G H σ s Q k => by
  obtain ⟨v, e, ⟨ev, xs, ds', hp, ra, ed⟩, _⟩ := s.getR h
  subst ev ed
  refine ⟨_, e, .ref a, ds'.length, rfl, .inl ⟨xs, .inl (.inl hp), by rw [ra.len]⟩, ?_⟩
  exact k _ _ ρ G H s (Same.refl G) (.int _) q
end
end Dv

/-! Dv45: sum of a list where tuples are summed, too; xs[::-1]. -/
namespace Dv
open PySem PySem.Spec PyProof.Rows L2
section
variable {K : PySem.W.Frag} {φ : PyData → Prop}
theorem opc_sumLU {ns : List Int} (q : φ (.int ns.sum)) : OpFC (rSumU K) [.list (ns.map .int)] φ := fun G H vs s r Q k => by
  cases r with
  | cons r1 r2 =>
    cases r2
    cases r1 with
    | lst h1 h2 =>
      have e := map_int h2
      subst e
      exact ⟨_, ns, rfl, .inl (.inl (.inl (s _ _ h1))), k _ _ (fun _ => .int _) q⟩
theorem opc_sumMU {α : Type} {xs : List α} {f : α → Int} (q : φ (.int (xs.map f).sum)) : OpFC (rSumU K) [.list (xs.map fun a => .int (f a))] φ := by
  have h := opc_sumLU (K := K) (ns := xs.map f) q
  rw [List.map_map] at h
  exact h
end
theorem pick_rev {α : Type} (xs : List α) : Zx.pick xs none none (some (-1)) = xs.reverse := by
  unfold Zx.pick Zx.places
  rw [PySem.W.krv_bounds]
  show (PySem.sliceRange ((xs.length : Int) - 1) (-1) (-1)).filterMap _ = _
  rw [PySem.W.krv_sliceRange, PySem.W.krv_range, List.filterMap_reverse]
  congr 1
  have h := PySem.W.krv_all xs.toArray
  rw [List.size_toArray] at h
  have e : ((xs.toArray)[·]? : Nat → Option α) = (xs[·]?) := by
    funext i
    exact List.getElem?_toArray
  rw [e] at h
  exact h
end Dv

/-! Dv46: range with a step of -1; slices of a list that still changes; extend; a sum of lists that is nobody's; append within a told tuple. -/
namespace Dv
open PySem PySem.Spec PyProof.Rows L2
def down (i : Int) (n : Nat) : List PyData := (List.range n).map fun k : Nat => .int (i + (k : Int) * (-1))
theorem down_get {i : Int} {n k : Nat} {d : PyData} (h : (down i n)[k]? = some d) : k < n ∧ d = .int (i + (k : Int) * (-1)) := by
  unfold down at h
  rw [List.getElem?_map] at h
  by_cases hk : k < n
  · rw [List.getElem?_range hk] at h
    exact ⟨hk, (Option.some.inj h).symm⟩
  · rw [List.getElem?_eq_none (by rw [List.length_range]; omega)] at h
    cases h
theorem down_len {i : Int} {n : Nat} : (down i n).length = n := by simp [down]
theorem walk_down {lo : Int} {n : Nat} {G : Hp} : WalkD (Itc lo (-1) n) (down lo n) G := fun G2 H2 s2 s3 =>
  ⟨by rw [down_len]; exact Nat.le_refl _, fun i d e => by
    obtain ⟨hi, rfl⟩ := down_get e
    exact ⟨hi, fun x H' y => by obtain ⟨rfl, rfl⟩ := y; exact ⟨G2, .refl s3, .int _⟩⟩⟩
section
variable {te ta tb tc : TE} {tas : TA} {ρ : Rho} {K : PySem.W.Frag} {Φ : PyData → Rho → Prop}
theorem wi_r3 {Φ : List PyData → Rho → Prop} (h : Wa tas ρ fun ds ρ1 => ∃ i j : Int, ds = [.int i, .int j, .int (-1)] ∧ (-(2 ^ 62) ≤ i ∧ i < 2 ^ 62 ∧ -(2 ^ 62) ≤ j ∧ j < 2 ^ 62) ∧ Φ (down i (i - j).toNat) ρ1) : Wi (iRng3 tas) ρ Φ := fun F G0 G H σ s R k =>
  h F G0 G H σ s _ fun vs ds ρ1 G1 H1 s1 g1 r1 ⟨i, j, e, ⟨b1, b2, b3, b4⟩, q⟩ => by
    subst e
    cases r1 with
    | cons ra rb =>
      cases rb with
      | cons rb rc =>
        cases rc with
        | cons rc rd =>
          cases ra
          cases rb
          cases rc
          cases rd
          exact ⟨i, j, -1, (i - j).toNat, rfl, RgC.neg b1 b2 b3 b4, k _ _ ρ1 G1 H1 s1 g1 walk_down q⟩
/-- xs[lo:hi], xs a list that still changes -/
theorem we_slR {tl th : L2.TO} {i : Nat} {a : Addr} {ds0 : List PyData} (h0 : ρ[i]? = some (.res (lst a ds0))) (h : Wo tl ρ fun lo ρ2 => Wo th ρ2 fun hi ρ3 => ∃ ds, ρ3[i]? = some (.res (lst a ds)) ∧ Φ (.list (cutD ds lo hi)) ρ3) : We (tSl (rSlU K) (tVar i) tl th) ρ Φ := fun F G0 G H σ s Q k => by
  obtain ⟨v, e, ⟨ev, _⟩, _⟩ := s.getR h0
  subst ev
  refine ⟨_, e, h F G0 G H σ s _ fun lo ρ2 G2 H2 s2 g2 p2 => p2 F G0 G2 H2 σ s2 _ fun hi ρ3 G3 H3 s3 g3 ⟨ds, k1, q⟩ => ?_⟩
  obtain ⟨v1, e1, ⟨ev, xs, ds', hp, ra, ed⟩, _⟩ := s3.getR k1
  subst ed
  refine .inl (.inl ⟨_, _, rfl, .inl (.inl hp), fun p hnp => ?_⟩)
  have ng := none_of s3.gh hnp
  exact k _ _ ρ3 (L2.upd G3 p _) _ (s3.grow (.laid s3.gh hnp)) ((g2.trans g3).trans (same_upd ng)) (.lst upd_same (ra.cut.mono (same_upd ng))) q
theorem k_extend {X : Cx} {o e : Expr} {es : List Expr} {t : TA} {apos cpos : Pos} (h : X.K = K) (ho : PE X o ta) (ha : PA X (e :: es) t)
    (hbase : attributeBase o "extend" X.env (eval o X.env) = eval o X.env := by rfl)
    (hfew : ((backTo cpos (starEach (e :: es) X.env)).all (fun x => !x.1) && (backToKw cpos (keywordEach [] X.env)).all (fun x => x.1.isSome)
      && decide ((e :: es).length + ([] : List Keyword).length + (if ([] : List Keyword).isEmpty then 0 else 1) < 30)) = true := by rfl)
    (hline : (apos.endLine == cpos.line) = true := by rfl) (hs : starEach (e :: es) X.env = (false, eval e X.env) :: starEach es X.env := by rfl) (hplain : (backTo cpos (starEach es X.env)).any (·.1) = false := by rfl) :
    PE X (.Call (.Attribute o "extend" apos) (e :: es) [] cpos) (tBM K "list" rExtend ta t) := by
  subst h
  exact pe_bm PySem.F.plainAttrs_list PySem.F.slot_list_extend PySem.F.type_list_extend mt_extend ho ha hbase hfew hline hs hplain
variable {i : Nat} {nx bk ct : Rho → Prop} {rt : PyData → Rho → Prop}
theorem q_ext {F G0 : Hp} {p : Addr} {ds0 : List PyData} (h0 : ρ[i]? = some (.res (lst p ds0))) (h : We te ρ fun d ρ1 => ∃ ds es, d = .list es ∧ ρ1[i]? = some (.res (lst p ds)) ∧ ds.length + es.length ≤ 100000 ∧ nx (ρ1.set i (.res (lst p (ds ++ es))))) :
    Ws F G0 (tDrop (tBM K "list" rExtend (tVar i) (tCons te tNil))) ρ ⟨nx, rt, bk, ct⟩ := fun G H σ s D q1 q2 q3 q4 => by
  obtain ⟨v, e, ⟨rfl, xs0, _, hp0, _, _⟩, _⟩ := s.getR h0
  refine ⟨_, e, .inl ⟨rfl, xs0, .inl (.inl hp0)⟩, h F G0 G H σ s _ fun u d ρ1 G1 H1 s1 g1 r1 ⟨ds, es, ed, k1, hl, k2⟩ => ?_⟩
  subst ed
  obtain ⟨v1, e1, ⟨rfl, xs, ds', hp, ra, rfl⟩, _⟩ := s1.getR k1
  cases r1 with
  | @lst b zs _ h1 h2 =>
    exact ⟨p, b, xs, zs, rfl, rfl, hp, s1.gh _ _ h1, by rw [ra.len, h2.len]; exact szl hl, q1 _ _ G1 _ (s1.upd k1 (P' := fun x => x = ds' ++ es) (ra.app h2) rfl) g1 k2⟩
/-- a sum of lists is nobody's -/
theorem wr_addL (h : We ta ρ fun x ρ1 => We tb ρ1 fun y ρ2 => ∃ xs ys, x = .list xs ∧ y = .list ys ∧ xs.length + ys.length ≤ 100000 ∧ nlA (xs ++ ys) = true ∧ Φ (.list (xs ++ ys)) ρ2) : Wr (tOp (rAddU K) ta tb) ρ Φ := fun F G0 G H σ s Q k =>
  h F G0 G H σ s _ fun v x ρ1 G1 H1 s1 g1 r1 h1 => h1 F G0 G1 H1 σ s1 _ fun u y ρ2 G2 H2 s2 g2 r2 ⟨xs, ys, ex, ey, hl, hn, q⟩ => by
    subst ex ey
    have r1 := r1.mono g2
    cases r1 with
    | @lst a vs _ h1 h2 =>
      cases r2 with
      | @lst b us _ h3 h4 =>
        refine .inr (.inl ⟨_, _, _, _, rfl, rfl, s2.gh _ _ h1, s2.gh _ _ h3, by rw [h2.len, h4.len]; exact szl hl, fun p hp => ?_⟩)
        have ng := none_of s2.gh hp
        have nF := none_of s2.fh hp
        have s3 : Sta F G0 G2 (L2.upd H2 p (.lst (vs ++ us))) σ ρ2 := s2.grow ⟨Same.refl G2, fun a o e => by
          by_cases ha : a = p
          · subst ha
            rw [hp] at e
            cases e
          · rw [upd_ne ha]
            exact e, fun a o e => by
          by_cases ha : a = p
          · subst ha
            rw [ng] at e
            cases e
          · rw [upd_ne ha]
            exact s2.gh a o e, fun _ _ e _ => e⟩
        refine k _ _ [p] ρ2 G2 _ s3 (g1.trans g2) (.lst upd_same (TrA.of_nl hn (h2.app h4)) (by simp)) (fun a ha => by rw [List.mem_singleton.mp ha]; exact ⟨nF, ng⟩) (fun j x e a hx ha => ?_) q
        exact s2.newL (L := [p]) (fun b hb => by rw [List.mem_singleton.mp hb]; exact hp) j x e a hx ha
/-- a number is hung onto the list of a told pair that nobody looks at any more -/
theorem q_appP {F G0 : Hp} {L : List Addr} {c n : Int} {fs : List PyData} (h0 : ρ[i]? = some (.res (own L (.tuple [.int c, .list fs])))) (hl : fs.length < 100000) (q : nx (ρ.set i .any)) :
    Ws F G0 (tDrop (tBM K "list" rAppend (tOp (rIx K) (tVar i) (tC (.int 1))) (tCons (tC (.int n)) tNil))) ρ ⟨nx, rt, bk, ct⟩ := fun G H σ s D q1 q2 q3 q4 => by
  obtain ⟨v, e, t, nn⟩ := s.getR h0
  cases t with
  | flt r f => cases f
  | @tup b ws _ _ hb ta =>
    cases ta with
    | @cons v1 vs1 d1 ds1 L1 M1 t1 t2 n1 =>
      cases t2 with
      | @cons v2 vs2 d2 ds2 L2' M2 t3 t4 n2 =>
        cases t4
        cases t3 with
        | flt r f => cases f
        | @lst a xs _ L' hp ra na =>
          have ma : a ∈ L1 ++ ((a :: L') ++ []) := List.mem_append_right _ (List.mem_append_left _ List.mem_cons_self)
          obtain ⟨nF, nG, _⟩ := nn a ma
          have hi : i < ρ.length := (List.getElem?_eq_some_iff.mp h0).1
          have hx : xs.length < 100000 := by rw [ra.len]; exact hl
          refine ⟨_, e, .inr (.inl ⟨b, [v1, .ref a], 1, .ref a, rfl, rfl, .inl (.inl (s.gh _ _ hb)), rfl, ?_⟩)⟩
          refine ⟨.inl ⟨rfl, xs, .inl (.inl hp)⟩, a, xs, .int n, rfl, rfl, hp, szs hx, q1 _ _ G _ ((s.forget i).put nF nG fun k x ek hx => ?_) (Same.refl G) q⟩
          by_cases hk : i = k
          · subst hk
            rw [List.getElem?_set_self hi] at ek
            cases ek
            cases hx
          · rw [List.getElem?_set_ne hk] at ek
            rcases Nat.lt_or_ge i k with hl | hl
            · exact s.apart i k _ _ hl h0 ek a ma hx
            · exact s.apart k i _ _ (by omega) ek h0 a hx ma
end
/-! ### lists of numbers told by one number -/
def encN : List Nat → Nat
  | [] => 0
  | a :: l => 2 ^ a * (2 * encN l + 1)
theorem enc_inj : ∀ {x y : List Nat}, encN x = encN y → x = y
  | [], [], _ => rfl
  | [], b :: y, h => by
    have h : 0 = 2 ^ b * (2 * encN y + 1) := h
    have := Nat.mul_pos (Nat.two_pow_pos b) (show 0 < 2 * encN y + 1 by omega)
    omega
  | a :: x, [], h => by
    have h : 2 ^ a * (2 * encN x + 1) = 0 := h
    have := Nat.mul_pos (Nat.two_pow_pos a) (show 0 < 2 * encN x + 1 by omega)
    omega
  | a :: x, b :: y, h => by
    have h : 2 ^ a * (2 * encN x + 1) = 2 ^ b * (2 * encN y + 1) := h
    have key : ∀ {a b k j : Nat}, 2 ^ a * (2 * k + 1) = 2 ^ b * (2 * j + 1) → a < b → False := by
      intro a b k j h hab
      obtain ⟨c, rfl⟩ : ∃ c, b = a + (c + 1) := ⟨b - a - 1, by omega⟩
      rw [Nat.pow_add, Nat.mul_assoc] at h
      have h2 := Nat.eq_of_mul_eq_mul_left (Nat.two_pow_pos a) h
      rw [Nat.pow_succ] at h2
      have e : 2 ^ c * 2 * (2 * j + 1) = 2 * (2 ^ c * (2 * j + 1)) := by rw [Nat.mul_comm (2 ^ c) 2, Nat.mul_assoc]
      rw [e] at h2
      omega
    rcases Nat.lt_trichotomy a b with hab | hab | hab
    · exact (key h hab).elim
    · subst hab
      have h2 := Nat.eq_of_mul_eq_mul_left (Nat.two_pow_pos a) h
      rw [enc_inj (show encN x = encN y by omega)]
    · exact (key h.symm hab).elim
open Classical in
noncomputable def decN (n : Nat) : List Nat := if h : ∃ l, encN l = n then Classical.choose h else []
theorem dec_enc (l : List Nat) : decN (encN l) = l := by
  have h : ∃ l', encN l' = encN l := ⟨l, rfl⟩
  unfold decN
  rw [dif_pos h]
  exact enc_inj (Classical.choose_spec h)
/-- a list of just these numbers -/
def PL (n : Nat) : List PyData → Prop := fun x => x = (decN n).map fun k : Nat => .int (k : Int)
theorem lst_PL (p : Addr) (l : List Nat) : lst p (l.map fun k : Nat => .int (k : Int)) = lstP p (PL (encN l)) := by
  unfold PL lst
  rw [dec_enc]
end Dv

/-! Dv47: a, b, c = x, [..], z: the second one a new list. -/
namespace Dv
open PySem PySem.Spec PyProof.Rows L2
section
variable {ta tb tc : TE} {ρ : Rho} {nx bk ct : Rho → Prop} {rt : PyData → Rho → Prop}
theorem q_par3M {F G0 : Hp} {i j l : Nat} (h : We ta ρ fun x ρ1 => Wn tb ρ1 fun ds ρ2 => We tc ρ2 fun z ρ3 => ∀ p, nx (((ρ3.set i (.val x)).set j (.res (lst p ds))).set l (.val z))) :
    Ws F G0 (tPar3 i j l (tCons ta (tCons tb (tCons tc tNil)))) ρ ⟨nx, rt, bk, ct⟩ := fun G H σ s D q1 q2 q3 q4 =>
  h F G0 G H σ s _ fun v x ρ1 G1 H1 s1 g1 r1 q => q F G0 G1 H1 σ s1 _ fun p xs ds ρ2 G2 H2 s2 g2 hp r2 hF hG hn k =>
    k _ _ _ _ _ (s2.hold hp hF hG hn) _ fun u z ρ3 G3 H3 s3 g3 r3 k2 => by
      obtain ⟨s4, hp2, hG2, hn2⟩ := s3.unhold hF (none_of s2.g0 hG)
      refine ⟨_, _, _, rfl, q1 _ _ G3 H3 (Sta.setV (Sta.setR (s4.setV ((r1.mono g2).mono g3)) (v := .ref p) (r := lst p ds) ⟨rfl, xs, ds, hp2, r2.mono g3, rfl⟩ (fun a ha => ?_) (fun m y hl e a ha hb => ?_)) r3) ((g1.trans g2).trans g3) (k2 p)⟩
      · have e : a = p := by simpa [lst, lstP] using ha
        subst e
        exact ⟨hF, hG2, by rw [hp2]; simp⟩
      · have e' : a = p := by simpa [lst, lstP] using hb
        subst e'
        by_cases hi : i = m
        · subst hi
          by_cases hlt : i < ρ3.length
          · rw [List.getElem?_set_self hlt] at e
            cases e
            cases ha
          · rw [List.getElem?_eq_none (by rw [List.length_set]; omega)] at e
            cases e
        · rw [List.getElem?_set_ne hi] at e
          exact hn2 m y e ha
end
end Dv

/-! Plain: filling in from one end costs the least, so it costs what filling in from the other end costs. -/
namespace K60
def Le2 : List Nat → List Nat → Prop
  | [], [] => True
  | a :: g, b :: f => a ≤ b ∧ Le2 g f
  | _, _ => False
def Dom : List Nat → List Nat → Prop
  | [], [] => True
  | a :: g, b :: f => a + g.sum ≤ b + f.sum ∧ Dom g f
  | _, _ => False
def Win (gap ink : Nat) (f : List Nat) : Prop := ∀ i, i + gap ≤ f.length → ink ≤ ((f.drop i).take gap).sum
/-- so much more ink over the first n, from the first on -/
def fill (long : Nat) : Nat → List Nat → Nat → List Nat × Nat
  | 0, g, L => (g, L)
  | _ + 1, [], L => ([], L)
  | n + 1, a :: g, L => ((a + min L (long - a)) :: (fill long n g (L - min L (long - a))).1, (fill long n g (L - min L (long - a))).2)
/-- a line behind the others; the list has the last one first -/
def stepG (long gap ink : Nat) (g : List Nat) (c : Nat) : Option (Nat × List Nat) :=
  if (c :: g).length < gap then some (0, c :: g) else
  if 0 < (fill long gap (c :: g) (ink - ((c :: g).take gap).sum)).2 then none else
  some (ink - ((c :: g).take gap).sum, (fill long gap (c :: g) (ink - ((c :: g).take gap).sum)).1)
def runG (long gap ink : Nat) : List Nat → List Nat → Nat → Option (Nat × List Nat)
  | g, [], cost => some (cost, g)
  | g, c :: cs, cost => match stepG long gap ink g c with
    | none => none
    | some (m, g') => runG long gap ink g' cs (cost + m)
theorem Le2.refl : ∀ g : List Nat, Le2 g g
  | [] => trivial
  | a :: g => ⟨Nat.le_refl a, Le2.refl g⟩
theorem Le2.trans : ∀ {f g h : List Nat}, Le2 f g → Le2 g h → Le2 f h
  | [], [], [], _, _ => trivial
  | a :: f, b :: g, c :: h, p, q => ⟨Nat.le_trans p.1 q.1, Le2.trans p.2 q.2⟩
theorem Le2.len : ∀ {f g : List Nat}, Le2 f g → f.length = g.length
  | [], [], _ => rfl
  | a :: f, b :: g, p => by rw [List.length_cons, List.length_cons, Le2.len p.2]
theorem Le2.sum : ∀ {f g : List Nat}, Le2 f g → f.sum ≤ g.sum
  | [], [], _ => Nat.le_refl _
  | a :: f, b :: g, p => by
    rw [List.sum_cons, List.sum_cons]
    have := Le2.sum p.2
    have := p.1
    omega
theorem Le2.drop : ∀ {f g : List Nat} (n : Nat), Le2 f g → Le2 (f.drop n) (g.drop n)
  | f, g, 0, p => p
  | [], [], n + 1, _ => trivial
  | a :: f, b :: g, n + 1, p => Le2.drop n p.2
theorem Le2.take : ∀ {f g : List Nat} (n : Nat), Le2 f g → Le2 (f.take n) (g.take n)
  | f, g, 0, p => trivial
  | [], [], n + 1, _ => trivial
  | a :: f, b :: g, n + 1, p => ⟨p.1, Le2.take n p.2⟩
theorem Le2.app : ∀ {f g f2 g2 : List Nat}, Le2 f g → Le2 f2 g2 → Le2 (f ++ f2) (g ++ g2)
  | [], [], _, _, _, q => q
  | a :: f, b :: g, _, _, p, q => ⟨p.1, Le2.app p.2 q⟩
theorem Le2.rev : ∀ {f g : List Nat}, Le2 f g → Le2 f.reverse g.reverse
  | [], [], _ => trivial
  | a :: f, b :: g, p => by
    rw [List.reverse_cons, List.reverse_cons]
    exact Le2.app (Le2.rev p.2) ⟨p.1, trivial⟩
theorem Dom.sum : ∀ {f g : List Nat}, Dom f g → f.sum ≤ g.sum
  | [], [], _ => Nat.le_refl _
  | a :: f, b :: g, p => by
    rw [List.sum_cons, List.sum_cons]
    exact p.1
theorem Dom.len : ∀ {f g : List Nat}, Dom f g → f.length = g.length
  | [], [], _ => rfl
  | a :: f, b :: g, p => by rw [List.length_cons, List.length_cons, Dom.len p.2]
theorem Dom.drop : ∀ {f g : List Nat} (n : Nat), Dom f g → Dom (f.drop n) (g.drop n)
  | f, g, 0, p => p
  | [], [], n + 1, _ => trivial
  | a :: f, b :: g, n + 1, p => Dom.drop n p.2
theorem sum_split (g : List Nat) (n : Nat) : (g.take n).sum + (g.drop n).sum = g.sum := by
  rw [← List.sum_append, List.take_append_drop]
theorem fill_len (long : Nat) : ∀ (n : Nat) (g : List Nat) (L : Nat), (fill long n g L).1.length = g.length
  | 0, g, L => rfl
  | n + 1, [], L => rfl
  | n + 1, a :: g, L => by
    show (_ :: (fill long n g _).1).length = _
    rw [List.length_cons, List.length_cons, fill_len long n g]
theorem fill_le {long : Nat} : ∀ (n : Nat) (g : List Nat) (L : Nat), (∀ x ∈ g, x ≤ long) → ∀ x ∈ (fill long n g L).1, x ≤ long
  | 0, g, L, h, x, hx => h x hx
  | n + 1, [], L, h, x, hx => h x hx
  | n + 1, a :: g, L, h, x, hx => by
    have ha := h a (List.mem_cons_self ..)
    rcases List.mem_cons.mp hx with rfl | hx
    · omega
    · exact fill_le n g _ (fun y hy => h y (List.mem_cons_of_mem _ hy)) x hx
theorem fill_ge (long : Nat) : ∀ (n : Nat) (g : List Nat) (L : Nat), Le2 g (fill long n g L).1
  | 0, g, L => Le2.refl g
  | n + 1, [], L => trivial
  | n + 1, a :: g, L => ⟨Nat.le_add_right _ _, fill_ge long n g _⟩
theorem fill_take (long : Nat) : ∀ (n : Nat) (g : List Nat) (L : Nat), ((fill long n g L).1.take n).sum + (fill long n g L).2 = (g.take n).sum + L
  | 0, g, L => by
    show ((g.take 0).sum + L = _)
    rfl
  | n + 1, [], L => rfl
  | n + 1, a :: g, L => by
    have ih := fill_take long n g (L - min L (long - a))
    show ((a + min L (long - a)) :: (fill long n g _).1.take n).sum + (fill long n g _).2 = (a :: g.take n).sum + L
    rw [List.sum_cons, List.sum_cons]
    omega
theorem fill_drop (long : Nat) : ∀ (n : Nat) (g : List Nat) (L : Nat), (fill long n g L).1.drop n = g.drop n
  | 0, g, L => rfl
  | n + 1, [], L => rfl
  | n + 1, a :: g, L => fill_drop long n g _
theorem fill_sum (long n : Nat) (g : List Nat) (L : Nat) : (fill long n g L).1.sum + (fill long n g L).2 = g.sum + L := by
  have h1 := fill_take long n g L
  have h2 := fill_drop long n g L
  have h3 := sum_split g n
  have h4 := sum_split (fill long n g L).1 n
  rw [h2] at h4
  omega
theorem fill_none (long : Nat) : ∀ (n : Nat) (g : List Nat), fill long n g 0 = (g, 0)
  | 0, g => rfl
  | n + 1, [] => rfl
  | n + 1, a :: g => by
    have ih := fill_none long n g
    show ((a + min 0 (long - a)) :: (fill long n g (0 - min 0 (long - a))).1, (fill long n g (0 - min 0 (long - a))).2) = _
    rw [Nat.zero_min, Nat.sub_zero, ih, Nat.add_zero]
theorem fill_dom {long : Nat} : ∀ (n : Nat) (g f : List Nat) (L : Nat), Dom g f → (∀ x ∈ g, x ≤ long) → (∀ x ∈ f, x ≤ long) → (g.take n).sum + L ≤ (f.take n).sum → (fill long n g L).2 = 0 ∧ Dom (fill long n g L).1 f
  | 0, g, f, L, d, _, _, h => by
    have h : 0 + L ≤ 0 := h
    obtain rfl : L = 0 := by omega
    exact ⟨rfl, d⟩
  | n + 1, [], [], L, d, _, _, h => by
    have h : 0 + L ≤ 0 := h
    obtain rfl : L = 0 := by omega
    exact ⟨rfl, d⟩
  | n + 1, a :: g, b :: f, L, d, hg, hf, h => by
    have ha := hg a (List.mem_cons_self ..)
    have hb := hf b (List.mem_cons_self ..)
    have h : (a :: g.take n).sum + L ≤ (b :: f.take n).sum := h
    rw [List.sum_cons, List.sum_cons] at h
    have dd := (Dom.drop n d.2).sum
    have s1 := sum_split g n
    have s2 := sum_split f n
    by_cases hL : L ≤ long - a
    · have e : min L (long - a) = L := Nat.min_eq_left hL
      show (fill long n g (L - min L (long - a))).2 = 0 ∧ Dom ((a + min L (long - a)) :: (fill long n g (L - min L (long - a))).1) (b :: f)
      rw [e, Nat.sub_self, fill_none]
      show 0 = 0 ∧ (a + L + g.sum ≤ b + f.sum ∧ Dom g f)
      exact ⟨rfl, by omega, d.2⟩
    · have e : min L (long - a) = long - a := Nat.min_eq_right (by omega)
      show (fill long n g (L - min L (long - a))).2 = 0 ∧ Dom ((a + min L (long - a)) :: (fill long n g (L - min L (long - a))).1) (b :: f)
      rw [e]
      obtain ⟨i1, i2⟩ := fill_dom n g f (L - (long - a)) d.2 (fun x hx => hg x (List.mem_cons_of_mem _ hx)) (fun x hx => hf x (List.mem_cons_of_mem _ hx)) (by omega)
      have s3 := fill_sum long n g (L - (long - a))
      refine ⟨i1, ?_, i2⟩
      omega
/-- what the greedy list keeps -/
structure Inv (long gap ink : Nat) (b g : List Nat) (cost : Nat) : Prop where
  le : Le2 b g
  low : ∀ x ∈ g, x ≤ long
  win : Win gap ink g
  sum : cost + b.sum = g.sum
theorem step_inv {long gap ink c cost m : Nat} {b g g' : List Nat} (h0 : 0 < gap) (hc : c ≤ long) (v : Inv long gap ink b g cost) (e : stepG long gap ink g c = some (m, g')) : Inv long gap ink (c :: b) g' (cost + m) := by
  unfold stepG at e
  have lo : ∀ x ∈ c :: g, x ≤ long := fun x hx => by
    rcases List.mem_cons.mp hx with rfl | hx
    · exact hc
    · exact v.low x hx
  have vs := v.sum
  split at e
  · next h =>
    injection e with e
    injection e with e1 e2
    subst e1 e2
    refine ⟨⟨Nat.le_refl _, v.le⟩, lo, fun i hi => ?_, ?_⟩
    · omega
    · rw [List.sum_cons, List.sum_cons]
      omega
  · next h =>
    split at e
    · cases e
    · next h2 =>
      injection e with e
      injection e with e1 e2
      subst e1 e2
      have g1 := fill_ge long gap (c :: g) (ink - ((c :: g).take gap).sum)
      have s1 := fill_sum long gap (c :: g) (ink - ((c :: g).take gap).sum)
      have t1 := fill_take long gap (c :: g) (ink - ((c :: g).take gap).sum)
      refine ⟨Le2.trans (show Le2 (c :: b) (c :: g) from ⟨Nat.le_refl _, v.le⟩) g1, fill_le _ _ _ lo, fun i hi => ?_, ?_⟩
      · cases i with
        | zero =>
          rw [List.drop_zero]
          omega
        | succ i =>
          rw [fill_len, List.length_cons] at hi
          have w := v.win i (by omega)
          have l := (Le2.take gap (Le2.drop (i + 1) g1)).sum
          exact Nat.le_trans w l
      · rw [List.sum_cons] at s1 ⊢
        omega
theorem run_inv {long gap ink : Nat} (h0 : 0 < gap) : ∀ (cs b g : List Nat) (cost : Nat) {k : Nat} {g' : List Nat}, (∀ c ∈ cs, c ≤ long) → Inv long gap ink b g cost → runG long gap ink g cs cost = some (k, g') → Inv long gap ink (cs.reverse ++ b) g' k
  | [], b, g, cost, k, g', _, v, e => by
    injection e with e
    injection e with e1 e2
    subst e1 e2
    exact v
  | c :: cs, b, g, cost, k, g', hc, v, e => by
    unfold runG at e
    split at e
    · cases e
    · next m g1 e1 =>
      have v1 := step_inv h0 (hc c (List.mem_cons_self ..)) v e1
      have v2 := run_inv h0 cs (c :: b) g1 (cost + m) (fun x hx => hc x (List.mem_cons_of_mem _ hx)) v1 e
      rw [List.reverse_cons, List.append_assoc]
      exact v2
theorem win_tail {gap ink x : Nat} {f : List Nat} (h : Win gap ink (x :: f)) : Win gap ink f := fun i hi => h (i + 1) (by rw [List.length_cons]; omega)
theorem step_best {long gap ink c y : Nat} {g f : List Nat} (hc : c ≤ y) (d : Dom g f) (hg : ∀ x ∈ g, x ≤ long) (hf : ∀ x ∈ y :: f, x ≤ long) (w : Win gap ink (y :: f)) : ∃ m g', stepG long gap ink g c = some (m, g') ∧ Dom g' (y :: f) := by
  have ds := d.sum
  have d1 : Dom (c :: g) (y :: f) := ⟨by omega, d⟩
  have hy := hf y (List.mem_cons_self ..)
  have lo : ∀ x ∈ c :: g, x ≤ long := fun x hx => by
    rcases List.mem_cons.mp hx with rfl | hx
    · omega
    · exact hg x hx
  unfold stepG
  split
  · exact ⟨_, _, rfl, d1⟩
  · next h =>
    have wl := w 0 (by have := d.len; rw [List.length_cons] at h ⊢; omega)
    rw [List.drop_zero] at wl
    by_cases h2 : ((c :: g).take gap).sum ≤ ink
    · obtain ⟨i1, i2⟩ := fill_dom gap (c :: g) (y :: f) (ink - ((c :: g).take gap).sum) d1 lo hf (by omega)
      rw [i1]
      exact ⟨_, _, rfl, i2⟩
    · have e : ink - ((c :: g).take gap).sum = 0 := by omega
      rw [e, fill_none]
      exact ⟨_, _, rfl, d1⟩
theorem step_low {long gap ink c m : Nat} {g g' : List Nat} (hc : c ≤ long) (hg : ∀ x ∈ g, x ≤ long) (e : stepG long gap ink g c = some (m, g')) : ∀ x ∈ g', x ≤ long := by
  have lo : ∀ x ∈ c :: g, x ≤ long := fun x hx => by
    rcases List.mem_cons.mp hx with rfl | hx
    · exact hc
    · exact hg x hx
  unfold stepG at e
  split at e
  · injection e with e
    injection e with e1 e2
    subst e2
    exact lo
  · split at e
    · cases e
    · injection e with e
      injection e with e1 e2
      subst e2
      exact fill_le _ _ _ lo
theorem win_part {gap ink : Nat} : ∀ (a : List Nat) {f : List Nat}, Win gap ink (a ++ f) → Win gap ink f
  | [], _, h => h
  | x :: a, f, h => win_part a (win_tail h)
theorem run_best {long gap ink : Nat} : ∀ (cs fs g f : List Nat) (cost : Nat), Le2 cs fs → Dom g f → (∀ x ∈ g, x ≤ long) → (∀ x ∈ fs, x ≤ long) → (∀ x ∈ f, x ≤ long) → Win gap ink (fs.reverse ++ f) → ∃ k g', runG long gap ink g cs cost = some (k, g') ∧ Dom g' (fs.reverse ++ f)
  | [], [], g, f, cost, _, d, _, _, _, _ => ⟨cost, g, rfl, d⟩
  | c :: cs, y :: fs, g, f, cost, l, d, hg, hfs, hf, w => by
    rw [List.reverse_cons, List.append_assoc] at w ⊢
    have hy := hfs y (List.mem_cons_self ..)
    have hyf : ∀ x ∈ y :: f, x ≤ long := fun x hx => by
      rcases List.mem_cons.mp hx with rfl | hx
      · exact hy
      · exact hf x hx
    obtain ⟨m, g1, e1, d1⟩ := step_best (ink := ink) l.1 d hg hyf (win_part _ w)
    have lo1 := step_low (Nat.le_trans l.1 hy) hg e1
    obtain ⟨k, g', e2, d2⟩ := run_best cs fs g1 (y :: f) (cost + m) l.2 d1 lo1 (fun x hx => hfs x (List.mem_cons_of_mem _ hx)) hyf w
    refine ⟨k, g', ?_, d2⟩
    unfold runG
    rw [e1]
    exact e2
theorem win_rev {gap ink : Nat} {f : List Nat} (h : Win gap ink f) : Win gap ink f.reverse := fun i hi => by
  rw [List.length_reverse] at hi
  have h2 := h (f.length - i - gap) (by omega)
  have e : (f.reverse.drop i).take gap = ((f.drop (f.length - i - gap)).take gap).reverse := by
    rw [List.drop_reverse, List.take_reverse, List.drop_take, List.length_take, Nat.min_eq_left (by omega)]
    congr 2
    omega
  rw [e, List.sum_reverse]
  exact h2
theorem inv0 (long gap ink : Nat) (h0 : 0 < gap) : Inv long gap ink [] [] 0 := ⟨trivial, fun x hx => (by cases hx), fun i hi => (by rw [List.length_nil] at hi; omega), rfl⟩
/-- any filling of a part costs as much at least -/
theorem run_least {long gap ink : Nat} (h0 : 0 < gap) {cs fs : List Nat} (hl : Le2 cs fs) (hf : ∀ x ∈ fs, x ≤ long) (w : Win gap ink fs) : ∃ k g', runG long gap ink [] cs 0 = some (k, g') ∧ k + cs.sum ≤ fs.sum := by
  have lo : ∀ c ∈ cs, c ≤ long := by
    have key : ∀ {cs fs : List Nat}, Le2 cs fs → (∀ x ∈ fs, x ≤ long) → ∀ c ∈ cs, c ≤ long := by
      intro cs
      induction cs with
      | nil => intro fs _ _ c hc; cases hc
      | cons a cs ih =>
        intro fs hl hf c hc
        cases fs with
        | nil => cases hl
        | cons b fs =>
          rcases List.mem_cons.mp hc with rfl | hc
          · exact Nat.le_trans hl.1 (hf b (List.mem_cons_self ..))
          · exact ih hl.2 (fun x hx => hf x (List.mem_cons_of_mem _ hx)) c hc
    exact key hl hf
  obtain ⟨k, g', e, d⟩ := run_best (gap := gap) (ink := ink) cs fs [] [] 0 hl trivial (fun x hx => by cases hx) hf (fun x hx => by cases hx) (by rw [List.append_nil]; exact win_rev w)
  have v := run_inv h0 cs [] [] 0 lo (inv0 long gap ink h0) e
  have s1 := v.sum
  have s2 := d.sum
  rw [List.append_nil, List.sum_reverse] at s1 s2
  exact ⟨k, g', e, by omega⟩
theorem run_rev_le {long gap ink : Nat} (h0 : 0 < gap) {cs g : List Nat} {k : Nat} (lo : ∀ c ∈ cs, c ≤ long) (e : runG long gap ink [] cs 0 = some (k, g)) : ∃ k' g', runG long gap ink [] cs.reverse 0 = some (k', g') ∧ k' ≤ k := by
  have v := run_inv h0 cs [] [] 0 lo (inv0 long gap ink h0) e
  have s := v.sum
  have l := v.le
  rw [List.append_nil] at l
  rw [List.append_nil] at s
  obtain ⟨k', g', e', h⟩ := run_least (long := long) (ink := ink) h0 l v.low v.win
  exact ⟨k', g', e', by omega⟩
theorem run_rev {long gap ink : Nat} (h0 : 0 < gap) {cs : List Nat} (lo : ∀ c ∈ cs, c ≤ long) : (runG long gap ink [] cs.reverse 0).map (·.1) = (runG long gap ink [] cs 0).map (·.1) := by
  have lo2 : ∀ c ∈ cs.reverse, c ≤ long := fun c hc => lo c (List.mem_reverse.mp hc)
  cases e : runG long gap ink [] cs 0 with
  | some x =>
    obtain ⟨k, g⟩ := x
    obtain ⟨k', g', e', h⟩ := run_rev_le h0 lo e
    obtain ⟨k2, g2, e2, h2⟩ := run_rev_le h0 lo2 e'
    rw [List.reverse_reverse, e] at e2
    injection e2 with e2
    injection e2 with e2 _
    rw [e']
    show some k' = some k
    rw [show k' = k by omega]
  | none =>
    cases e' : runG long gap ink [] cs.reverse 0 with
    | none => rfl
    | some x =>
      obtain ⟨k, g⟩ := x
      obtain ⟨k2, g2, e2, h2⟩ := run_rev_le h0 lo2 e'
      rw [List.reverse_reverse, e] at e2
      cases e2
end K60

/-! Plain: partings filled in; what they cost; the least of all fillings. -/
namespace K60
theorem fill_next (long : Nat) : ∀ (k : Nat) (h : List Nat) (L : Nat), k < h.length → ∃ x, (fill long k h L).1[k]? = some x ∧
    fill long (k + 1) h L = ((fill long k h L).1.set k (x + min (fill long k h L).2 (long - x)), (fill long k h L).2 - min (fill long k h L).2 (long - x))
  | k, [], L, hk => by cases hk
  | 0, a :: g, L, hk => ⟨a, rfl, rfl⟩
  | k + 1, a :: g, L, hk => by
    rw [List.length_cons] at hk
    obtain ⟨x, e1, e2⟩ := fill_next long k g (L - min L (long - a)) (by omega)
    refine ⟨x, e1, ?_⟩
    show ((a + min L (long - a)) :: (fill long (k + 1) g (L - min L (long - a))).1, (fill long (k + 1) g (L - min L (long - a))).2) = _
    rw [e2]
    rfl
theorem set_rev {α : Type} (l : List α) (k : Nat) (y : α) (h : k < l.length) : l.reverse.set (l.length - 1 - k) y = (l.set k y).reverse := by
  apply List.ext_getElem
  · simp
  · intro i h1 h2
    simp only [List.length_set, List.length_reverse] at h1
    rw [List.getElem_set, List.getElem_reverse, List.getElem_reverse, List.getElem_set]
    simp only [List.length_set]
    by_cases e : l.length - 1 - k = i
    · rw [if_pos e, if_pos (by omega)]
    · rw [if_neg e, if_neg (by omega)]
theorem get_rev {α : Type} (l : List α) (k : Nat) (h : k < l.length) : l.reverse[l.length - 1 - k]? = l[k]? := by
  rw [List.getElem?_reverse (by omega)]
  congr 1
  omega
theorem step_short {long gap ink c : Nat} {g : List Nat} (h : (c :: g).length < gap) : stepG long gap ink g c = some (0, c :: g) := by
  unfold stepG
  rw [if_pos h]
theorem step_len {long gap ink c m : Nat} {g g' : List Nat} (e : stepG long gap ink g c = some (m, g')) : g'.length = g.length + 1 := by
  unfold stepG at e
  split at e
  · injection e with e
    injection e with e1 e2
    rw [← e2]
    rfl
  · split at e
    · cases e
    · injection e with e
      injection e with e1 e2
      rw [← e2, fill_len]
      rfl
theorem run_short {long gap ink : Nat} : ∀ (cs g : List Nat) (cost : Nat), g.length + cs.length < gap → runG long gap ink g cs cost = some (cost, cs.reverse ++ g)
  | [], g, cost, _ => rfl
  | c :: cs, g, cost, h => by
    rw [List.length_cons] at h
    have e := step_short (long := long) (ink := ink) (show (c :: g).length < gap by rw [List.length_cons]; omega)
    unfold runG
    rw [e]
    show runG long gap ink (c :: g) cs (cost + 0) = _
    rw [run_short cs (c :: g) (cost + 0) (by rw [List.length_cons]; omega), List.reverse_cons, List.append_assoc]
    rfl
theorem run_cons {long gap ink c cost : Nat} {g cs : List Nat} : runG long gap ink g (c :: cs) cost = (stepG long gap ink g c).bind fun x => runG long gap ink x.2 cs (cost + x.1) := by
  rw [runG]
  cases stepG long gap ink g c <;> rfl
theorem run_app {long gap ink : Nat} : ∀ (cs ds g : List Nat) (cost : Nat), runG long gap ink g (cs ++ ds) cost = (runG long gap ink g cs cost).bind fun x => runG long gap ink x.2 ds x.1
  | [], ds, g, cost => rfl
  | c :: cs, ds, g, cost => by
    rw [List.cons_append, run_cons, run_cons]
    cases stepG long gap ink g c with
    | none => rfl
    | some x => exact run_app cs ds x.2 (cost + x.1)
/-! ### lines and partings -/
def cnt (p : Nat × Nat) : Nat := p.1 + p.2
def inkSum (ls : List (Nat × Nat)) : Nat := (ls.map fun p => p.1).sum
def seg {α : Type} (ls : List α) (s e : Nat) : List α := (ls.drop s).take (e - s)
/-- a parting's parts, from a place on -/
def GoodP (many gap : Nat) : Nat → List (Nat × Nat) → Prop
  | _, [] => True
  | free, (s, e) :: r => free ≤ s ∧ s + gap ≤ e ∧ e ≤ many ∧ GoodP many gap (e + gap) r
def fillP (long gap ink : Nat) (ls : List (Nat × Nat)) : Nat → List (Nat × Nat) → Nat → List Nat → Option (Nat × List Nat)
  | free, [], cost, F => some (cost + inkSum (ls.drop free), F ++ List.replicate (ls.length - free) 0)
  | free, (s, e) :: ps, cost, F => match runG long gap ink [] ((seg ls s e).map cnt) 0 with
    | none => none
    | some (k, g) => fillP long gap ink ls e ps (cost + (k + inkSum (seg ls free s))) (F ++ List.replicate (s - free) 0 ++ g.reverse)
def costP (long gap ink : Nat) (ls : List (Nat × Nat)) : Nat → List (Nat × Nat) → Nat → Option Nat
  | free, [], cost => some (cost + inkSum (ls.drop free))
  | free, (s, e) :: ps, cost => match (runG long gap ink [] ((seg ls s e).map cnt).reverse 0).map (·.1) with
    | none => none
    | some k => costP long gap ink ls e ps (cost + inkSum (seg ls free s) + k)
theorem seg_mem {α : Type} {ls : List α} {s e : Nat} {x : α} (h : x ∈ seg ls s e) : x ∈ ls := List.mem_of_mem_drop (List.mem_of_mem_take h)
theorem cost_fill {long gap ink : Nat} {ls : List (Nat × Nat)} (h0 : 0 < gap) (hl : ∀ p ∈ ls, p.1 + p.2 ≤ long) : ∀ (ps : List (Nat × Nat)) (free cost : Nat) (F : List Nat), costP long gap ink ls free ps cost = (fillP long gap ink ls free ps cost F).map (·.1)
  | [], free, cost, F => rfl
  | (s, e) :: ps, free, cost, F => by
    have lo : ∀ c ∈ (seg ls s e).map cnt, c ≤ long := fun c hc => by
      obtain ⟨p, hp, rfl⟩ := List.mem_map.mp hc
      exact hl p (seg_mem hp)
    unfold costP fillP
    rw [run_rev h0 lo]
    cases runG long gap ink [] ((seg ls s e).map cnt) 0 with
    | none => rfl
    | some x =>
      obtain ⟨k, g⟩ := x
      show costP long gap ink ls e ps (cost + inkSum (seg ls free s) + k) = _
      rw [cost_fill h0 hl ps e _ (F ++ List.replicate (s - free) 0 ++ g.reverse), show cost + inkSum (seg ls free s) + k = cost + (k + inkSum (seg ls free s)) by omega]
def dist : List (Nat × Nat) → List Nat → Nat
  | p :: ls, n :: f => (p.1 - n) + (n - p.1 - p.2) + dist ls f
  | _, _ => 0
theorem dist_app : ∀ {a b : List (Nat × Nat)} {x y : List Nat}, a.length = x.length → dist (a ++ b) (x ++ y) = dist a x + dist b y
  | [], b, [], y, _ => by
    show dist b y = dist [] [] + dist b y
    unfold dist
    omega
  | p :: a, b, n :: x, y, h => by
    rw [List.length_cons, List.length_cons] at h
    show (p.1 - n) + (n - p.1 - p.2) + dist (a ++ b) (x ++ y) = (p.1 - n) + (n - p.1 - p.2) + dist a x + dist b y
    rw [dist_app (by omega)]
    omega
theorem dist_zero : ∀ {a : List (Nat × Nat)} {x : List Nat}, a.length = x.length → x.sum = 0 → dist a x = inkSum a
  | [], [], _, _ => rfl
  | p :: a, n :: x, h, hs => by
    rw [List.length_cons, List.length_cons] at h
    rw [List.sum_cons] at hs
    have ih := dist_zero (a := a) (x := x) (by omega) (by omega)
    show (p.1 - n) + (n - p.1 - p.2) + dist a x = (p.1 :: a.map fun p => p.1).sum
    rw [List.sum_cons, ih]
    unfold inkSum
    omega
theorem dist_ge : ∀ {a : List (Nat × Nat)} {g : List Nat}, Le2 (a.map cnt) g → dist a g + (a.map cnt).sum = g.sum
  | [], [], _ => rfl
  | p :: a, n :: g, h => by
    have ih := dist_ge h.2
    have h1 : p.1 + p.2 ≤ n := h.1
    show (p.1 - n) + (n - p.1 - p.2) + dist a g + (cnt p :: a.map cnt).sum = (n :: g).sum
    rw [List.sum_cons, List.sum_cons]
    unfold cnt at ih ⊢
    omega
/-- not less than the lines hold -/
def up : List (Nat × Nat) → List Nat → List Nat
  | p :: a, n :: f => max n (p.1 + p.2) :: up a f
  | _, _ => []
theorem up_dist : ∀ {a : List (Nat × Nat)} {f : List Nat}, a.length = f.length → (up a f).sum ≤ dist a f + (a.map cnt).sum
  | [], [], _ => Nat.le_refl _
  | p :: a, n :: f, h => by
    rw [List.length_cons, List.length_cons] at h
    have ih := up_dist (a := a) (f := f) (by omega)
    show (max n (p.1 + p.2) :: up a f).sum ≤ (p.1 - n) + (n - p.1 - p.2) + dist a f + (cnt p :: a.map cnt).sum
    rw [List.sum_cons, List.sum_cons]
    unfold cnt at ih ⊢
    omega
theorem up_le : ∀ {a : List (Nat × Nat)} {f : List Nat}, a.length = f.length → Le2 (a.map cnt) (up a f) ∧ Le2 f (up a f)
  | [], [], _ => ⟨trivial, trivial⟩
  | p :: a, n :: f, h => by
    rw [List.length_cons, List.length_cons] at h
    obtain ⟨i1, i2⟩ := up_le (a := a) (f := f) (by omega)
    exact ⟨⟨show p.1 + p.2 ≤ max n (p.1 + p.2) by omega, i1⟩, ⟨show n ≤ max n (p.1 + p.2) by omega, i2⟩⟩
theorem up_low {long : Nat} : ∀ {a : List (Nat × Nat)} {f : List Nat}, (∀ p ∈ a, p.1 + p.2 ≤ long) → (∀ x ∈ f, x ≤ long) → ∀ x ∈ up a f, x ≤ long
  | [], _, _, _, x, hx => by cases hx
  | _ :: _, [], _, _, x, hx => by cases hx
  | p :: a, n :: f, ha, hf, x, hx => by
    rcases List.mem_cons.mp hx with rfl | hx
    · have h1 := ha p (List.mem_cons_self ..)
      have h2 := hf n (List.mem_cons_self ..)
      omega
    · exact up_low (fun p hp => ha p (List.mem_cons_of_mem _ hp)) (fun x hx => hf x (List.mem_cons_of_mem _ hx)) x hx
theorem win_le {gap ink : Nat} {f g : List Nat} (h : Le2 f g) (w : Win gap ink f) : Win gap ink g := fun i hi => Nat.le_trans (w i (by rw [h.len]; exact hi)) (Le2.take gap (Le2.drop i h)).sum
/-- a part's filling costs the least -/
theorem part_least {long gap ink : Nat} {a : List (Nat × Nat)} {f : List Nat} (h0 : 0 < gap) (hlen : a.length = f.length) (ha : ∀ p ∈ a, p.1 + p.2 ≤ long) (hf : ∀ x ∈ f, x ≤ long) (w : Win gap ink f) :
    ∃ k g, runG long gap ink [] (a.map cnt) 0 = some (k, g) ∧ k ≤ dist a f := by
  obtain ⟨u1, u2⟩ := up_le hlen
  obtain ⟨k, g, e, h⟩ := run_least h0 u1 (up_low ha hf) (win_le u2 w)
  have := up_dist hlen
  exact ⟨k, g, e, by omega⟩
/-! ### a filling keeps a parting -/
def keepsB (gap ink : Nat) (f : List Nat) : Nat → List (Nat × Nat) → Bool
  | free, [] => decide ((f.drop free).sum = 0)
  | free, (s, e) :: ps => decide ((seg f free s).sum = 0) && ((List.range (e + 1 - gap - s)).all (fun i => decide (ink ≤ (seg f (s + i) (s + i + gap)).sum)) && keepsB gap ink f e ps)
theorem seg_len {α : Type} {ls : List α} {s e : Nat} (h1 : s ≤ e) (h2 : e ≤ ls.length) : (seg ls s e).length = e - s := by
  unfold seg
  rw [List.length_take, List.length_drop]
  omega
theorem seg_split {α : Type} {ls : List α} {s e : Nat} (h1 : s ≤ e) : ls.drop s = seg ls s e ++ ls.drop e := by
  unfold seg
  rw [show ls.drop e = (ls.drop s).drop (e - s) by rw [List.drop_drop]; congr 1; omega, List.take_append_drop]
theorem seg_seg {α : Type} {ls : List α} {s e i n : Nat} (h : i + n ≤ e - s) : ((seg ls s e).drop i).take n = seg ls (s + i) (s + i + n) := by
  unfold seg
  rw [List.drop_take, List.drop_drop, List.take_take, Nat.min_eq_left (by omega)]
  congr 1
  omega
theorem win_of {gap ink : Nat} {f : List Nat} {s e : Nat} (h1 : s ≤ e) (h2 : e ≤ f.length) (h : (List.range (e + 1 - gap - s)).all (fun i => decide (ink ≤ (seg f (s + i) (s + i + gap)).sum)) = true) : Win gap ink (seg f s e) := fun i hi => by
  rw [seg_len h1 h2] at hi
  rw [seg_seg hi]
  exact of_decide_eq_true (List.all_eq_true.mp h i (List.mem_range.mpr (by omega)))
theorem of_win {gap ink : Nat} {f : List Nat} {s e : Nat} (h1 : s ≤ e) (h2 : e ≤ f.length) (h : Win gap ink (seg f s e)) : (List.range (e + 1 - gap - s)).all (fun i => decide (ink ≤ (seg f (s + i) (s + i + gap)).sum)) = true := by
  rw [List.all_eq_true]
  intro i hi
  have hi := List.mem_range.mp hi
  have w := h i (by rw [seg_len h1 h2]; omega)
  rw [seg_seg (by omega)] at w
  exact decide_eq_true w
/-- no filling costs less -/
theorem fill_least {long gap ink : Nat} {ls : List (Nat × Nat)} {f : List Nat} (h0 : 0 < gap) (hl : ∀ p ∈ ls, p.1 + p.2 ≤ long) (hlen : ls.length = f.length) (hf : ∀ x ∈ f, x ≤ long) :
    ∀ (ps : List (Nat × Nat)) (free fr2 cost : Nat) (F : List Nat), free ≤ fr2 → free ≤ ls.length → GoodP ls.length gap fr2 ps → keepsB gap ink f free ps = true → ∃ k F', fillP long gap ink ls free ps cost F = some (k, F') ∧ k ≤ cost + dist (ls.drop free) (f.drop free)
  | [], free, fr2, cost, F, _, hfr, _, hk => by
    have hk := of_decide_eq_true hk
    refine ⟨_, _, rfl, ?_⟩
    rw [dist_zero (by rw [List.length_drop, List.length_drop, hlen]) hk]
    exact Nat.le_refl _
  | (s, e) :: ps, free, fr2, cost, F, h1, hfr, hg, hk => by
    obtain ⟨g1, g2, g3, g4⟩ := hg
    have hk : (decide ((seg f free s).sum = 0) && ((List.range (e + 1 - gap - s)).all (fun i => decide (ink ≤ (seg f (s + i) (s + i + gap)).sum)) && keepsB gap ink f e ps)) = true := hk
    rw [Bool.and_eq_true, Bool.and_eq_true] at hk
    obtain ⟨k1, k2, k3⟩ := hk
    have k1 := of_decide_eq_true k1
    have w := win_of (by omega) (by omega) k2
    obtain ⟨k, g, er, hkd⟩ := part_least (long := long) (a := seg ls s e) h0 (by rw [seg_len (by omega) g3, seg_len (by omega) (by omega)]) (fun p hp => hl p (seg_mem hp)) (fun x hx => hf x (seg_mem hx)) w
    obtain ⟨k', F', e', hk'⟩ := fill_least h0 hl hlen hf ps e (e + gap) (cost + (k + inkSum (seg ls free s))) (F ++ List.replicate (s - free) 0 ++ g.reverse) (by omega) g3 g4 k3
    refine ⟨k', F', ?_, ?_⟩
    · unfold fillP
      rw [er]
      exact e'
    · have d1 : dist (ls.drop free) (f.drop free) = inkSum (seg ls free s) + (dist (seg ls s e) (seg f s e) + dist (ls.drop e) (f.drop e)) := by
        rw [seg_split (ls := ls) (show free ≤ s by omega), seg_split (ls := f) (show free ≤ s by omega), dist_app (by rw [seg_len (by omega) (by omega), seg_len (by omega) (by omega)]),
          dist_zero (by rw [seg_len (by omega) (by omega), seg_len (by omega) (by omega)]) k1, seg_split (ls := ls) (show s ≤ e by omega), seg_split (ls := f) (show s ≤ e by omega), dist_app (by rw [seg_len (by omega) (by omega), seg_len (by omega) (by omega)])]
      rw [d1]
      omega
theorem sum_zeros (n : Nat) : (List.replicate n 0).sum = 0 := by
  induction n with
  | zero => rfl
  | succ n ih => rw [List.replicate_succ, List.sum_cons, ih]
/-- the told filling: as long as the lines, low enough, at its price, and it keeps the parting -/
theorem fill_sound {long gap ink : Nat} {ls : List (Nat × Nat)} (h0 : 0 < gap) (hl : ∀ p ∈ ls, p.1 + p.2 ≤ long) :
    ∀ (ps : List (Nat × Nat)) (free fr2 cost k : Nat) (F F' : List Nat), free ≤ fr2 → free ≤ ls.length → F.length = free → (∀ x ∈ F, x ≤ long) → GoodP ls.length gap fr2 ps → fillP long gap ink ls free ps cost F = some (k, F') →
      ∃ X, F' = F ++ X ∧ X.length = ls.length - free ∧ (∀ x ∈ X, x ≤ long) ∧ cost + dist (ls.drop free) X = k ∧ keepsB gap ink F' free ps = true
  | [], free, fr2, cost, k, F, F', h1, hfr, hF, hlo, _, e => by
    injection e with e
    injection e with e1 e2
    subst e1 e2
    refine ⟨_, rfl, List.length_replicate, fun x hx => by rw [List.eq_of_mem_replicate hx]; exact Nat.zero_le _, ?_, ?_⟩
    · rw [dist_zero (by rw [List.length_drop, List.length_replicate]) (sum_zeros _)]
    · refine decide_eq_true ?_
      rw [← hF, List.drop_left]
      exact sum_zeros _
  | (s, e') :: ps, free, fr2, cost, k, F, F', h1, hfr, hF, hlo, hg, e => by
    obtain ⟨g1, g2, g3, g4⟩ := hg
    unfold fillP at e
    split at e
    · cases e
    · next k1 g er =>
      have lo : ∀ c ∈ (seg ls s e').map cnt, c ≤ long := fun c hc => by
        obtain ⟨p, hp, rfl⟩ := List.mem_map.mp hc
        exact hl p (seg_mem hp)
      have v := run_inv h0 _ [] [] 0 lo (inv0 long gap ink h0) er
      have vl := v.le
      have vs := v.sum
      rw [List.append_nil] at vl vs
      have vr := vl.rev
      rw [List.reverse_reverse] at vr
      have gl : g.length = e' - s := by
        rw [← vl.len, List.length_reverse, List.length_map, seg_len (by omega) g3]
      obtain ⟨X, eX, hX, hXl, hXd, hXk⟩ := fill_sound h0 hl ps e' (e' + gap) (cost + (k1 + inkSum (seg ls free s))) k (F ++ List.replicate (s - free) 0 ++ g.reverse) F' (by omega) g3 (by rw [List.length_append, List.length_append, List.length_replicate, List.length_reverse]; omega) (fun x hx => by
        rcases List.mem_append.mp hx with hx | hx
        · rcases List.mem_append.mp hx with hx | hx
          · exact hlo x hx
          · rw [List.eq_of_mem_replicate hx]
            exact Nat.zero_le _
        · exact v.low x (List.mem_reverse.mp hx)) g4 e
      have eF : F' = F ++ (List.replicate (s - free) 0 ++ (g.reverse ++ X)) := by
        rw [eX, List.append_assoc, List.append_assoc]
      have hd := dist_ge vr
      rw [List.sum_reverse] at hd
      rw [List.sum_reverse] at vs
      refine ⟨List.replicate (s - free) 0 ++ (g.reverse ++ X), eF, by rw [List.length_append, List.length_append, List.length_replicate, List.length_reverse]; omega, fun x hx => ?_, ?_, ?_⟩
      · rcases List.mem_append.mp hx with hx | hx
        · rw [List.eq_of_mem_replicate hx]
          exact Nat.zero_le _
        · rcases List.mem_append.mp hx with hx | hx
          · exact v.low x (List.mem_reverse.mp hx)
          · exact hXl x hx
      · rw [seg_split (ls := ls) (show free ≤ s by omega), dist_app (by rw [seg_len (by omega) (by omega), List.length_replicate]), dist_zero (by rw [seg_len (by omega) (by omega), List.length_replicate]) (sum_zeros _),
          seg_split (ls := ls) (show s ≤ e' by omega), dist_app (by rw [seg_len (by omega) (by omega), List.length_reverse, gl])]
        omega
      · have dF : ∀ n, F'.drop (free + n) = (List.replicate (s - free) 0 ++ (g.reverse ++ X)).drop n := fun n => by
          rw [eF, ← hF, List.drop_append, List.drop_of_length_le (Nat.le_add_right _ _), List.nil_append, Nat.add_sub_cancel_left]
        have s1 : seg F' free s = List.replicate (s - free) 0 := by
          unfold seg
          rw [show free = free + 0 from rfl, dF 0, List.drop_zero, Nat.add_zero]
          exact List.take_left' List.length_replicate
        have s2 : seg F' s e' = g.reverse := by
          unfold seg
          rw [show F'.drop s = F'.drop (free + (s - free)) by congr 1; omega, dF (s - free), List.drop_left' List.length_replicate]
          exact List.take_left' (by rw [List.length_reverse]; exact gl)
        have hlen : F'.length = ls.length := by
          rw [eF, List.length_append, List.length_append, List.length_append, List.length_replicate, List.length_reverse]
          omega
        have w : Win gap ink (seg F' s e') := by
          rw [s2]
          exact win_rev v.win
        show (decide ((seg F' free s).sum = 0) && ((List.range (e' + 1 - gap - s)).all (fun i => decide (ink ≤ (seg F' (s + i) (s + i + gap)).sum)) && keepsB gap ink F' e' ps)) = true
        rw [Bool.and_eq_true, Bool.and_eq_true]
        exact ⟨decide_eq_true (by rw [s1]; exact sum_zeros _), of_win (by omega) (by omega) w, hXk⟩
end K60

namespace K60
open PySem L2 Dv TL
local macro_rules | `(tactic| walk_at "dv1") => `(tactic| first
  | with_reducible refine q_seq ?_
  | with_reducible refine q_nx ?_
  | with_reducible refine q_ret ?_
  | with_reducible refine q_retN ?_
  | with_reducible refine q_if ?_
  | with_reducible refine q_set ?_
  | with_reducible refine q_setJ ?_
  | with_reducible refine q_brk ?_
  | with_reducible refine q_cont ?_
  | ((with_reducible show Ws _ _ (tAug _ _ _) _ _); refine q_aug rfl ?_)
  | with_reducible refine q_par ?_
  | with_reducible refine q_par3 ?_
  | with_reducible refine we_int ?_
  | with_reducible refine we_str ?_
  | with_reducible refine we_bl ?_
  | with_reducible refine we_non ?_
  | ((with_reducible show We (tVar _) _ _); refine we_var rfl ?_)
  | ((with_reducible show We (tOp (rIx _) (tVar _) _) _ _); refine we_ixR rfl ?_)
  | ((with_reducible show We (tCB (rLen _) (tCons (tVar _) tNil)) _ _); refine we_lenR rfl ?_)
  | ((with_reducible show We (tSl _ (tVar _) _ _) _ _); refine we_slR rfl ?_)
  | with_reducible refine we_op ?_
  | with_reducible refine we_un ?_
  | (with_reducible refine we_isi (by decide +kernel) ?_)
  | (with_reducible refine we_isi2 (by decide +kernel) (by decide +kernel) ?_)
  | with_reducible refine we_cb ?_
  | with_reducible refine we_if ?_
  | with_reducible refine we_andT ?_
  | with_reducible refine we_orT ?_
  | with_reducible refine we_notT ?_
  | with_reducible refine we_tup ?_
  | with_reducible refine we_chain ?_
  | with_reducible refine we_m1 ?_
  | with_reducible refine we_sl ?_
  | with_reducible refine we_bits ?_
  | with_reducible refine we_callZ rfl ?_
  | with_reducible refine we_callZR rfl rfl (by decide) ?_
  | with_reducible refine we_call ?_
  | with_reducible refine we_callX ?_
  | with_reducible refine we_callD rpa_none1 ?_
  | with_reducible refine we_callXD rpa_none1 ?_
  | with_reducible refine we_callKX ?_
  | with_reducible refine we_own (wr_call ?_)
  | with_reducible refine we_own (wr_callK ?_)
  | with_reducible refine len_ok (by simp) ?_
  | with_reducible refine we_new (wn_lst ?_)
  | with_reducible refine wo_none ?_
  | with_reducible refine wo_some ?_
  | with_reducible refine wa_nil ?_
  | with_reducible refine wa_cons ?_
  | with_reducible refine wt_test ?_
  | with_reducible refine wt_B ?_
  | with_reducible refine wt_and ?_
  | with_reducible refine wt_or ?_
  | with_reducible refine wt_not ?_
  | with_reducible refine wt_tru ?_
  | with_reducible refine op2_addI ?_
  | with_reducible refine op2_I0 ?_
  | with_reducible refine op2_B0 ?_
  | with_reducible refine op2_ip ?_
  | with_reducible refine opf2_B0 ?_
  | with_reducible refine op2_mod (by first | decide | omega) ?_
  | with_reducible refine op2_fdiv (by first | decide | omega) (by first | decide | omega) ?_
  | with_reducible refine op2_shr (by first | decide | omega) ?_
  | with_reducible refine op2_mulL (by first | decide | omega) (by first | decide | omega) ?_
  | with_reducible refine op2_mulR (by first | decide | omega) (by first | decide | omega) ?_
  | with_reducible refine op1_U ?_
  | (with_reducible refine (op2_eqI ?_).op)
  | (with_reducible refine (op2_neI ?_).op)
  | (with_reducible refine (op2_eqS ?_).op)
  | (with_reducible refine (op2_neS ?_).op)
  | (with_reducible refine (op2_eqB ?_).op)
  | (with_reducible refine (op2_neB ?_).op)
  | (with_reducible refine (op2_isN ?_).op)
  | (with_reducible refine (op2_notN ?_).op)
  | (with_reducible refine (op2_isB ?_).op)
  | (with_reducible refine (op2_notB ?_).op)
  | (with_reducible refine (opc_int ?_).op)
  | (with_reducible refine (opc_intB ?_).op)
  | (with_reducible refine (opc_max2 ?_).op)
  | (with_reducible refine (opc_min2 ?_).op)
  | (with_reducible refine (opc_lenL ?_).op)
  | (with_reducible refine (opc_lenT ?_).op)
  | with_reducible refine wt_yes ?_
  | with_reducible refine sld_l ?_
  | with_reducible refine sld_t ?_
  | with_reducible refine tru_b ?_
  | with_reducible refine tru_i ?_
  | with_reducible refine tru_n ?_
  | with_reducible refine tru_l ?_
  | with_reducible refine tru_t ?_
  | with_reducible refine nb_t ?_
  | with_reducible refine nb_f ?_
  | with_reducible refine wt_t ?_
  | with_reducible refine wt_f ?_)
local macro_rules | `(tactic| walk_at "dv") => `(tactic| repeat (first | walk_at "dv1" | (with_reducible refine ⟨_, rfl, ?_⟩) | (with_reducible refine slotL rfl ?_) | with_reducible refine pairL ?_ | with_reducible refine tripL ?_ | (refine ⟨_, _, _, rfl, rfl, rfl, ?_⟩) | (dsimp only [List.set_cons_zero, List.set_cons_succ]) | rw [isT_list] | rw [isT_tuple] | rw [isT_str] | rw [isT_int] | rw [isT_bool] | refine wt_y rfl ?_ | refine wt_n rfl ?_))

def topS (i : Nat) : Stmt := PySem.Challenge.pw_inksays_k60_least_fillings.main.body.getD i (.Pass ⟨0, 0, 0, 0⟩)
abbrev s_is_whole : Stmt := topS 6
abbrev nm_is_whole : List Str := ["value", "least", "most"]
theorem sc_is_whole : FnScope nm_is_whole ["value", "least", "most"] (defScope s_is_whole) := ⟨rfl, rfl, rfl, by decide +kernel, rfl, by decide +kernel, by decide +kernel⟩
abbrev s_look_at_count : Stmt := topS 7
abbrev nm_look_at_count : List Str := ["value", "most"]
theorem sc_look_at_count : FnScope nm_look_at_count ["value", "most"] (defScope s_look_at_count) := ⟨rfl, rfl, rfl, by decide +kernel, rfl, by decide +kernel, by decide +kernel⟩
abbrev s_is_line : Stmt := topS 12
abbrev nm_is_line : List Str := ["long", "value", "number"]
theorem sc_is_line : FnScope nm_is_line ["long", "value"] (defScope s_is_line) := ⟨rfl, rfl, rfl, by decide +kernel, rfl, by decide +kernel, by decide +kernel⟩
abbrev s_are_lines : Stmt := topS 13
abbrev nm_are_lines : List Str := ["long", "value", "line"]
theorem sc_are_lines : FnScope nm_are_lines ["long", "value"] (defScope s_are_lines) := ⟨rfl, rfl, rfl, by decide +kernel, rfl, by decide +kernel, by decide +kernel⟩
abbrev s_is_measure : Stmt := topS 14
abbrev nm_is_measure : List Str := ["value"]
theorem sc_is_measure : FnScope nm_is_measure ["value"] (defScope s_is_measure) := ⟨rfl, rfl, rfl, by decide +kernel, rfl, by decide +kernel, by decide +kernel⟩
abbrev s_is_parts : Stmt := topS 15
abbrev nm_is_parts : List Str := ["many", "gap", "value", "free", "part", "number"]
theorem sc_is_parts : FnScope nm_is_parts ["many", "gap", "value"] (defScope s_is_parts) := ⟨rfl, rfl, rfl, by decide +kernel, rfl, by decide +kernel, by decide +kernel⟩
abbrev s_look_at_lines : Stmt := topS 16
abbrev nm_look_at_lines : List Str := ["lines", "long"]
theorem sc_look_at_lines : FnScope nm_look_at_lines ["lines", "long"] (defScope s_look_at_lines) := ⟨rfl, rfl, rfl, by decide +kernel, rfl, by decide +kernel, by decide +kernel⟩
abbrev s_look_at_measured : Stmt := topS 17
abbrev nm_look_at_measured : List Str := ["lines", "long", "measure"]
theorem sc_look_at_measured : FnScope nm_look_at_measured ["lines", "long", "measure"] (defScope s_look_at_measured) := ⟨rfl, rfl, rfl, by decide +kernel, rfl, by decide +kernel, by decide +kernel⟩
abbrev s_with_line : Stmt := topS 18
abbrev nm_with_line : List Str := ["counts", "line", "long", "measure", "gap", "ink", "lack", "cost", "at", "more"]
theorem sc_with_line : FnScope nm_with_line ["counts", "line", "long", "measure"] (defScope s_with_line) := ⟨rfl, rfl, rfl, by decide +kernel, rfl, by decide +kernel, by decide +kernel⟩
abbrev s_filled_part : Stmt := topS 19
abbrev nm_filled_part : List Str := ["lines", "long", "measure", "counts", "cost", "line", "more"]
theorem sc_filled_part : FnScope nm_filled_part ["lines", "long", "measure"] (defScope s_filled_part) := ⟨rfl, rfl, rfl, by decide +kernel, rfl, by decide +kernel, by decide +kernel⟩
abbrev s_least_filling : Stmt := topS 20
abbrev nm_least_filling : List Str := ["lines", "long", "measure", "parting", "cost", "filling", "free", "start", "end", "found", "line"]
theorem sc_least_filling : FnScope nm_least_filling ["lines", "long", "measure", "parting"] (defScope s_least_filling) := ⟨rfl, rfl, rfl, by decide +kernel, rfl, by decide +kernel, by decide +kernel⟩
abbrev s__law_cell : Stmt := topS 22
abbrev nm__law_cell : List Str := ["script", "index"]
theorem sc__law_cell : FnScope nm__law_cell ["script", "index"] (defScope s__law_cell) := ⟨rfl, rfl, rfl, by decide +kernel, rfl, by decide +kernel, by decide +kernel⟩
abbrev s__law_hash : Stmt := topS 23
abbrev nm__law_hash : List Str := ["seed", "index", "mixed"]
theorem sc__law_hash : FnScope nm__law_hash ["seed", "index"] (defScope s__law_hash) := ⟨rfl, rfl, rfl, by decide +kernel, rfl, by decide +kernel, by decide +kernel⟩
abbrev s__law_generator : Stmt := topS 24
abbrev nm__law_generator : List Str := ["script", "index", "seed"]
theorem sc__law_generator : FnScope nm__law_generator ["script", "index"] (defScope s__law_generator) := ⟨rfl, rfl, rfl, by decide +kernel, rfl, by decide +kernel, by decide +kernel⟩
abbrev s__law_random : Stmt := topS 25
abbrev nm__law_random : List Str := ["generator", "limit", "drawn", "turn"]
theorem sc__law_random : FnScope nm__law_random ["generator", "limit"] (defScope s__law_random) := ⟨rfl, rfl, rfl, by decide +kernel, rfl, by decide +kernel, by decide +kernel⟩
abbrev s__law_between : Stmt := topS 26
abbrev nm__law_between : List Str := ["generator", "low", "high"]
theorem sc__law_between : FnScope nm__law_between ["generator", "low", "high"] (defScope s__law_between) := ⟨rfl, rfl, rfl, by decide +kernel, rfl, by decide +kernel, by decide +kernel⟩
abbrev s__law_pick : Stmt := topS 27
abbrev nm__law_pick : List Str := ["generator", "items"]
theorem sc__law_pick : FnScope nm__law_pick ["generator", "items"] (defScope s__law_pick) := ⟨rfl, rfl, rfl, by decide +kernel, rfl, by decide +kernel, by decide +kernel⟩
abbrev s__law_error : Stmt := topS 28
abbrev nm__law_error : List Str := ["call", "found", "e"]
theorem sc__law_error : FnScope nm__law_error ["call"] (defScope s__law_error) := ⟨rfl, rfl, rfl, by decide +kernel, rfl, by decide +kernel, by decide +kernel⟩
abbrev s__law_refused : Stmt := topS 29
abbrev nm__law_refused : List Str := ["call", "place", "value", "found", "kinds", "at"]
theorem sc__law_refused : FnScope nm__law_refused ["call", "place", "value"] (defScope s__law_refused) := ⟨rfl, rfl, rfl, by decide +kernel, rfl, by decide +kernel, by decide +kernel⟩
abbrev s__law_part_cost : Stmt := topS 30
abbrev nm__law_part_cost : List Str := ["lines", "long", "gap", "ink", "counts", "cost", "first", "lack", "at", "more", "line"]
theorem sc__law_part_cost : FnScope nm__law_part_cost ["lines", "long", "gap", "ink"] (defScope s__law_part_cost) := ⟨rfl, rfl, rfl, by decide +kernel, rfl, by decide +kernel, by decide +kernel⟩
abbrev s__law_cost : Stmt := topS 31
abbrev nm__law_cost : List Str := ["lines", "long", "measure", "reading", "cost", "free", "start", "end", "more", "line"]
theorem sc__law_cost : FnScope nm__law_cost ["lines", "long", "measure", "reading"] (defScope s__law_cost) := ⟨rfl, rfl, rfl, by decide +kernel, rfl, by decide +kernel, by decide +kernel⟩
abbrev s__law_drawn_lines : Stmt := topS 32
abbrev nm__law_drawn_lines : List Str := ["generator", "many", "long", "lines", "at", "way", "ink"]
theorem sc__law_drawn_lines : FnScope nm__law_drawn_lines ["generator", "many", "long"] (defScope s__law_drawn_lines) := ⟨rfl, rfl, rfl, by decide +kernel, rfl, by decide +kernel, by decide +kernel⟩
abbrev s__law_drawn_parts : Stmt := topS 33
abbrev nm__law_drawn_parts : List Str := ["generator", "many", "gap", "parts", "at", "end"]
theorem sc__law_drawn_parts : FnScope nm__law_drawn_parts ["generator", "many", "gap"] (defScope s__law_drawn_parts) := ⟨rfl, rfl, rfl, by decide +kernel, rfl, by decide +kernel, by decide +kernel⟩
abbrev s__law_distance : Stmt := topS 34
abbrev nm__law_distance : List Str := ["lines", "filling", "line", "n"]
theorem sc__law_distance : FnScope nm__law_distance ["lines", "filling"] (defScope s__law_distance) := ⟨rfl, rfl, rfl, by decide +kernel, rfl, by decide +kernel, by decide +kernel⟩
abbrev s__law_keeps : Stmt := topS 35
abbrev nm__law_keeps : List Str := ["filling", "measure", "reading", "free", "start", "end", "at"]
theorem sc__law_keeps : FnScope nm__law_keeps ["filling", "measure", "reading"] (defScope s__law_keeps) := ⟨rfl, rfl, rfl, by decide +kernel, rfl, by decide +kernel, by decide +kernel⟩
abbrev s__law_is_filling : Stmt := topS 36
abbrev nm__law_is_filling : List Str := ["filling", "many", "long", "n"]
theorem sc__law_is_filling : FnScope nm__law_is_filling ["filling", "many", "long"] (defScope s__law_is_filling) := ⟨rfl, rfl, rfl, by decide +kernel, rfl, by decide +kernel, by decide +kernel⟩
abbrev s__law_all : Stmt := topS 37
abbrev nm__law_all : List Str := ["many", "long", "found", "at", "longer", "some", "n"]
theorem sc__law_all : FnScope nm__law_all ["many", "long"] (defScope s__law_all) := ⟨rfl, rfl, rfl, by decide +kernel, rfl, by decide +kernel, by decide +kernel⟩
abbrev s__law_good : Stmt := topS 38
abbrev nm__law_good : List Str := ["lines", "long", "measure", "reading", "due", "kept", "told", "again"]
theorem sc__law_good : FnScope nm__law_good ["lines", "long", "measure", "reading"] (defScope s__law_good) := ⟨rfl, rfl, rfl, by decide +kernel, rfl, by decide +kernel, by decide +kernel⟩
abbrev s__law_small_good : Stmt := topS 39
abbrev nm__law_small_good : List Str := ["generator", "lines", "measure", "reading", "costs", "told", "filling"]
theorem sc__law_small_good : FnScope nm__law_small_good ["generator"] (defScope s__law_small_good) := ⟨rfl, rfl, rfl, by decide +kernel, rfl, by decide +kernel, by decide +kernel⟩
abbrev s__law_refused_right : Stmt := topS 40
abbrev nm__law_refused_right : List Str := ["generator", "lines", "long", "measure", "reading", "bad", "odd", "wrong", "far", "gap", "own", "near", "late"]
theorem sc__law_refused_right : FnScope nm__law_refused_right ["generator", "lines", "long", "measure", "reading"] (defScope s__law_refused_right) := ⟨rfl, rfl, rfl, by decide +kernel, rfl, by decide +kernel, by decide +kernel⟩
abbrev s_law : Stmt := topS 41
abbrev nm_law : List Str := ["script", "index", "generator", "long", "many", "lines", "measure", "reading"]
theorem sc_law : FnScope nm_law ["script"] (defScope s_law) := ⟨rfl, rfl, rfl, by decide +kernel, rfl, by decide +kernel, by decide +kernel⟩
structure Txt (P : Program) (K : PySem.W.Frag) (mg : Str → Option Value) where
  a_is_whole : Addr
  d_is_whole : FuncData
  F_is_whole : FunT K "is_whole" "is_whole" s_is_whole [.none, .none] a_is_whole d_is_whole
  g_is_whole : mg "is_whole" = some (.ref a_is_whole)
  a_look_at_count : Addr
  d_look_at_count : FuncData
  F_look_at_count : FunT K "look_at_count" "look_at_count" s_look_at_count [.none] a_look_at_count d_look_at_count
  g_look_at_count : mg "look_at_count" = some (.ref a_look_at_count)
  a_is_line : Addr
  d_is_line : FuncData
  F_is_line : Fun K "is_line" "is_line" s_is_line a_is_line d_is_line
  g_is_line : mg "is_line" = some (.ref a_is_line)
  a_are_lines : Addr
  d_are_lines : FuncData
  F_are_lines : Fun K "are_lines" "are_lines" s_are_lines a_are_lines d_are_lines
  g_are_lines : mg "are_lines" = some (.ref a_are_lines)
  a_is_measure : Addr
  d_is_measure : FuncData
  F_is_measure : Fun K "is_measure" "is_measure" s_is_measure a_is_measure d_is_measure
  g_is_measure : mg "is_measure" = some (.ref a_is_measure)
  a_is_parts : Addr
  d_is_parts : FuncData
  F_is_parts : Fun K "is_parts" "is_parts" s_is_parts a_is_parts d_is_parts
  g_is_parts : mg "is_parts" = some (.ref a_is_parts)
  a_look_at_lines : Addr
  d_look_at_lines : FuncData
  F_look_at_lines : Fun K "look_at_lines" "look_at_lines" s_look_at_lines a_look_at_lines d_look_at_lines
  g_look_at_lines : mg "look_at_lines" = some (.ref a_look_at_lines)
  a_look_at_measured : Addr
  d_look_at_measured : FuncData
  F_look_at_measured : Fun K "look_at_measured" "look_at_measured" s_look_at_measured a_look_at_measured d_look_at_measured
  g_look_at_measured : mg "look_at_measured" = some (.ref a_look_at_measured)
  a_with_line : Addr
  d_with_line : FuncData
  F_with_line : Fun K "with_line" "with_line" s_with_line a_with_line d_with_line
  g_with_line : mg "with_line" = some (.ref a_with_line)
  a_filled_part : Addr
  d_filled_part : FuncData
  F_filled_part : Fun K "filled_part" "filled_part" s_filled_part a_filled_part d_filled_part
  g_filled_part : mg "filled_part" = some (.ref a_filled_part)
  a_least_filling : Addr
  d_least_filling : FuncData
  F_least_filling : Fun K "least_filling" "least_filling" s_least_filling a_least_filling d_least_filling
  g_least_filling : mg "least_filling" = some (.ref a_least_filling)
  a__law_cell : Addr
  d__law_cell : FuncData
  F__law_cell : Fun K "_law_cell" "_law_cell" s__law_cell a__law_cell d__law_cell
  g__law_cell : mg "_law_cell" = some (.ref a__law_cell)
  a__law_hash : Addr
  d__law_hash : FuncData
  F__law_hash : Fun K "_law_hash" "_law_hash" s__law_hash a__law_hash d__law_hash
  g__law_hash : mg "_law_hash" = some (.ref a__law_hash)
  a__law_generator : Addr
  d__law_generator : FuncData
  F__law_generator : Fun K "_law_generator" "_law_generator" s__law_generator a__law_generator d__law_generator
  g__law_generator : mg "_law_generator" = some (.ref a__law_generator)
  a__law_random : Addr
  d__law_random : FuncData
  F__law_random : Fun K "_law_random" "_law_random" s__law_random a__law_random d__law_random
  g__law_random : mg "_law_random" = some (.ref a__law_random)
  a__law_between : Addr
  d__law_between : FuncData
  F__law_between : Fun K "_law_between" "_law_between" s__law_between a__law_between d__law_between
  g__law_between : mg "_law_between" = some (.ref a__law_between)
  a__law_pick : Addr
  d__law_pick : FuncData
  F__law_pick : Fun K "_law_pick" "_law_pick" s__law_pick a__law_pick d__law_pick
  g__law_pick : mg "_law_pick" = some (.ref a__law_pick)
  a__law_error : Addr
  d__law_error : FuncData
  F__law_error : Fun K "_law_error" "_law_error" s__law_error a__law_error d__law_error
  g__law_error : mg "_law_error" = some (.ref a__law_error)
  a__law_refused : Addr
  d__law_refused : FuncData
  F__law_refused : Fun K "_law_refused" "_law_refused" s__law_refused a__law_refused d__law_refused
  g__law_refused : mg "_law_refused" = some (.ref a__law_refused)
  a__law_part_cost : Addr
  d__law_part_cost : FuncData
  F__law_part_cost : Fun K "_law_part_cost" "_law_part_cost" s__law_part_cost a__law_part_cost d__law_part_cost
  g__law_part_cost : mg "_law_part_cost" = some (.ref a__law_part_cost)
  a__law_cost : Addr
  d__law_cost : FuncData
  F__law_cost : Fun K "_law_cost" "_law_cost" s__law_cost a__law_cost d__law_cost
  g__law_cost : mg "_law_cost" = some (.ref a__law_cost)
  a__law_drawn_lines : Addr
  d__law_drawn_lines : FuncData
  F__law_drawn_lines : Fun K "_law_drawn_lines" "_law_drawn_lines" s__law_drawn_lines a__law_drawn_lines d__law_drawn_lines
  g__law_drawn_lines : mg "_law_drawn_lines" = some (.ref a__law_drawn_lines)
  a__law_drawn_parts : Addr
  d__law_drawn_parts : FuncData
  F__law_drawn_parts : Fun K "_law_drawn_parts" "_law_drawn_parts" s__law_drawn_parts a__law_drawn_parts d__law_drawn_parts
  g__law_drawn_parts : mg "_law_drawn_parts" = some (.ref a__law_drawn_parts)
  a__law_distance : Addr
  d__law_distance : FuncData
  F__law_distance : Fun K "_law_distance" "_law_distance" s__law_distance a__law_distance d__law_distance
  g__law_distance : mg "_law_distance" = some (.ref a__law_distance)
  a__law_keeps : Addr
  d__law_keeps : FuncData
  F__law_keeps : Fun K "_law_keeps" "_law_keeps" s__law_keeps a__law_keeps d__law_keeps
  g__law_keeps : mg "_law_keeps" = some (.ref a__law_keeps)
  a__law_is_filling : Addr
  d__law_is_filling : FuncData
  F__law_is_filling : Fun K "_law_is_filling" "_law_is_filling" s__law_is_filling a__law_is_filling d__law_is_filling
  g__law_is_filling : mg "_law_is_filling" = some (.ref a__law_is_filling)
  a__law_all : Addr
  d__law_all : FuncData
  F__law_all : Fun K "_law_all" "_law_all" s__law_all a__law_all d__law_all
  g__law_all : mg "_law_all" = some (.ref a__law_all)
  a__law_good : Addr
  d__law_good : FuncData
  F__law_good : Fun K "_law_good" "_law_good" s__law_good a__law_good d__law_good
  g__law_good : mg "_law_good" = some (.ref a__law_good)
  a__law_small_good : Addr
  d__law_small_good : FuncData
  F__law_small_good : Fun K "_law_small_good" "_law_small_good" s__law_small_good a__law_small_good d__law_small_good
  g__law_small_good : mg "_law_small_good" = some (.ref a__law_small_good)
  a__law_refused_right : Addr
  d__law_refused_right : FuncData
  c__law_refused_right : Addr
  P__law_refused_right : Addr
  F__law_refused_right : FunC K "_law_refused_right" "_law_refused_right" s__law_refused_right a__law_refused_right d__law_refused_right c__law_refused_right
  g__law_refused_right : mg "_law_refused_right" = some (.ref a__law_refused_right)
  a_law : Addr
  d_law : FuncData
  F_law : Fun K "law" "law" s_law a_law d_law
  g_law : mg "law" = some (.ref a_law)
  a_InkError : Addr
  g_InkError : mg "InkError" = some (.ref a_InkError)
  a_InvalidNumber : Addr
  g_InvalidNumber : mg "InvalidNumber" = some (.ref a_InvalidNumber)
  a_InvalidList : Addr
  g_InvalidList : mg "InvalidList" = some (.ref a_InvalidList)
  a_InvalidLayout : Addr
  g_InvalidLayout : mg "InvalidLayout" = some (.ref a_InvalidLayout)
  i_InvalidNumber : Addr
  di_InvalidNumber : FuncData
  X_InvalidNumber : XcC P K mg "InvalidNumber" a_InvalidNumber i_InvalidNumber di_InvalidNumber
  q_InvalidNumber : XqC K a_InvalidNumber
  m_InvalidNumber_InkError : PySem.W.exmOne K (.ref a_InvalidNumber) (.ref a_InkError) = some true
  k_InvalidNumber_InvalidLayout : PySem.W.kitOne K (.ref a_InvalidNumber) (.ref a_InvalidLayout) = some false
  k_InvalidNumber_InvalidList : PySem.W.kitOne K (.ref a_InvalidNumber) (.ref a_InvalidList) = some false
  k_InvalidNumber_InvalidNumber : PySem.W.kitOne K (.ref a_InvalidNumber) (.ref a_InvalidNumber) = some true
  i_InvalidList : Addr
  di_InvalidList : FuncData
  X_InvalidList : XcC P K mg "InvalidList" a_InvalidList i_InvalidList di_InvalidList
  q_InvalidList : XqC K a_InvalidList
  m_InvalidList_InkError : PySem.W.exmOne K (.ref a_InvalidList) (.ref a_InkError) = some true
  k_InvalidList_InvalidLayout : PySem.W.kitOne K (.ref a_InvalidList) (.ref a_InvalidLayout) = some false
  k_InvalidList_InvalidList : PySem.W.kitOne K (.ref a_InvalidList) (.ref a_InvalidList) = some true
  k_InvalidList_InvalidNumber : PySem.W.kitOne K (.ref a_InvalidList) (.ref a_InvalidNumber) = some false
  i_InvalidLayout : Addr
  di_InvalidLayout : FuncData
  X_InvalidLayout : XcC P K mg "InvalidLayout" a_InvalidLayout i_InvalidLayout di_InvalidLayout
  q_InvalidLayout : XqC K a_InvalidLayout
  m_InvalidLayout_InkError : PySem.W.exmOne K (.ref a_InvalidLayout) (.ref a_InkError) = some true
  k_InvalidLayout_InvalidLayout : PySem.W.kitOne K (.ref a_InvalidLayout) (.ref a_InvalidLayout) = some true
  k_InvalidLayout_InvalidList : PySem.W.kitOne K (.ref a_InvalidLayout) (.ref a_InvalidList) = some false
  k_InvalidLayout_InvalidNumber : PySem.W.kitOne K (.ref a_InvalidLayout) (.ref a_InvalidNumber) = some false
  k_InvalidNumber_ValueError : PySem.W.kitOne K (.ref a_InvalidNumber) (.type "ValueError") = some true
  k_InvalidList_ValueError : PySem.W.kitOne K (.ref a_InvalidList) (.type "ValueError") = some true
  k_InvalidLayout_ValueError : PySem.W.kitOne K (.ref a_InvalidLayout) (.type "ValueError") = some true
  t_MOST_LINES : Tok
  c_MOST_LINES : mg "MOST_LINES" = some (.int 400 t_MOST_LINES)
  t_MOST_GAP : Tok
  c_MOST_GAP : mg "MOST_GAP" = some (.int 12 t_MOST_GAP)
  t_MOST_INK : Tok
  c_MOST_INK : mg "MOST_INK" = some (.int 50 t_MOST_INK)
  z_ValueError : mg "ValueError" = none
  z_all : mg "all" = none
  z_bool : mg "bool" = none
  z_int : mg "int" = none
  z_isinstance : mg "isinstance" = none
  z_len : mg "len" = none
  z_list : mg "list" = none
  z_max : mg "max" = none
  z_min : mg "min" = none
  z_range : mg "range" = none
  z_repr : mg "repr" = none
  z_sum : mg "sum" = none
  z_tuple : mg "tuple" = none
  z_zip : mg "zip" = none
def Txt.cA {P : Program} {K : PySem.W.Frag} {mg : Str → Option Value} (T : Txt P K mg) (n : String) : Addr := if n = "InvalidNumber" then T.a_InvalidNumber else if n = "InvalidList" then T.a_InvalidList else if n = "InvalidLayout" then T.a_InvalidLayout else 0
def tabsT {P : Program} {K : PySem.W.Frag} {mg : Str → Option Value} (T : Txt P K mg) : List (Addr × Str) := [(T.P__law_refused_right, (("_law_refused_right" : Str) ++ ".<locals>.") ++ "<lambda>")]
structure Tabs {P : Program} {K : PySem.W.Frag} {mg : Str → Option Value} (base : Heap) (T : Txt P K mg) : Prop where
  t__law_refused_right : LamX.TabB base mg T.c__law_refused_right T.P__law_refused_right
theorem kb_least_filling_parting_measure_lines_long {K : PySem.W.Frag} {f : Addr} {fd : FuncData} (F : Fun K "least_filling" "least_filling" s_least_filling f fd) : KBinds K fd ["lines", "long", "measure", "parting"] ["parting", "measure", "lines", "long"] (permL 4 [2, 3, 1, 0]) (permL 4 [2, 3, 1, 0]) := by
  obtain ⟨oc, od, kV, doc, pm, an, cdv, ct, osl, rfl, lk, hcd⟩ := F.ex
  refine ⟨fun s us ws _ hl => ?_, fun r1 r2 => perm_vals r1 r2⟩
  obtain ⟨rfl, h2⟩ := permL_len hl (by decide)
  exact match ws, h2 with | [_, _, _, _], _ => BindsTo.of_eq rfl
theorem bd_is_whole_3 {K : PySem.W.Frag} {f : Addr} {fd : FuncData} (F : FunT K "is_whole" "is_whole" s_is_whole [.none, .none] f fd) : Binds K fd ["value", "least", "most"] [] := F.binds 3 2 rfl fun _ _ _ _ _ _ _ us hl => match us, hl with | [_, _, _], _ => ⟨_, rfl, rfl⟩
theorem bd_is_whole_2 {K : PySem.W.Frag} {f : Addr} {fd : FuncData} (F : FunT K "is_whole" "is_whole" s_is_whole [.none, .none] f fd) : Binds K fd ["value", "least", "most"] [.none] := F.binds 2 1 rfl fun _ _ _ _ _ _ _ us hl => match us, hl with | [_, _], _ => ⟨_, rfl, rfl⟩
theorem bd_look_at_count_2 {K : PySem.W.Frag} {f : Addr} {fd : FuncData} (F : FunT K "look_at_count" "look_at_count" s_look_at_count [.none] f fd) : Binds K fd ["value", "most"] [] := F.binds 2 1 rfl fun _ _ _ _ _ _ _ us hl => match us, hl with | [_, _], _ => ⟨_, rfl, rfl⟩
theorem b_is_line {K : PySem.W.Frag} {f : Addr} {fd : FuncData} (F : Fun K "is_line" "is_line" s_is_line f fd) : Binds K fd ["long", "value"] [] := F.binds (ps := ["long", "value"]) fun _ _ _ _ _ _ us hl => match us, hl with | [_, _], _ => rfl
theorem b_are_lines {K : PySem.W.Frag} {f : Addr} {fd : FuncData} (F : Fun K "are_lines" "are_lines" s_are_lines f fd) : Binds K fd ["long", "value"] [] := F.binds (ps := ["long", "value"]) fun _ _ _ _ _ _ us hl => match us, hl with | [_, _], _ => rfl
theorem b_is_measure {K : PySem.W.Frag} {f : Addr} {fd : FuncData} (F : Fun K "is_measure" "is_measure" s_is_measure f fd) : Binds K fd ["value"] [] := F.binds (ps := ["value"]) fun _ _ _ _ _ _ us hl => match us, hl with | [_], _ => rfl
theorem b_is_parts {K : PySem.W.Frag} {f : Addr} {fd : FuncData} (F : Fun K "is_parts" "is_parts" s_is_parts f fd) : Binds K fd ["many", "gap", "value"] [] := F.binds (ps := ["many", "gap", "value"]) fun _ _ _ _ _ _ us hl => match us, hl with | [_, _, _], _ => rfl
theorem b_look_at_lines {K : PySem.W.Frag} {f : Addr} {fd : FuncData} (F : Fun K "look_at_lines" "look_at_lines" s_look_at_lines f fd) : Binds K fd ["lines", "long"] [] := F.binds (ps := ["lines", "long"]) fun _ _ _ _ _ _ us hl => match us, hl with | [_, _], _ => rfl
theorem b_look_at_measured {K : PySem.W.Frag} {f : Addr} {fd : FuncData} (F : Fun K "look_at_measured" "look_at_measured" s_look_at_measured f fd) : Binds K fd ["lines", "long", "measure"] [] := F.binds (ps := ["lines", "long", "measure"]) fun _ _ _ _ _ _ us hl => match us, hl with | [_, _, _], _ => rfl
theorem b_with_line {K : PySem.W.Frag} {f : Addr} {fd : FuncData} (F : Fun K "with_line" "with_line" s_with_line f fd) : Binds K fd ["counts", "line", "long", "measure"] [] := F.binds (ps := ["counts", "line", "long", "measure"]) fun _ _ _ _ _ _ us hl => match us, hl with | [_, _, _, _], _ => rfl
theorem b_filled_part {K : PySem.W.Frag} {f : Addr} {fd : FuncData} (F : Fun K "filled_part" "filled_part" s_filled_part f fd) : Binds K fd ["lines", "long", "measure"] [] := F.binds (ps := ["lines", "long", "measure"]) fun _ _ _ _ _ _ us hl => match us, hl with | [_, _, _], _ => rfl
theorem b_least_filling {K : PySem.W.Frag} {f : Addr} {fd : FuncData} (F : Fun K "least_filling" "least_filling" s_least_filling f fd) : Binds K fd ["lines", "long", "measure", "parting"] [] := F.binds (ps := ["lines", "long", "measure", "parting"]) fun _ _ _ _ _ _ us hl => match us, hl with | [_, _, _, _], _ => rfl
theorem b__law_cell {K : PySem.W.Frag} {f : Addr} {fd : FuncData} (F : Fun K "_law_cell" "_law_cell" s__law_cell f fd) : Binds K fd ["script", "index"] [] := F.binds (ps := ["script", "index"]) fun _ _ _ _ _ _ us hl => match us, hl with | [_, _], _ => rfl
theorem b__law_hash {K : PySem.W.Frag} {f : Addr} {fd : FuncData} (F : Fun K "_law_hash" "_law_hash" s__law_hash f fd) : Binds K fd ["seed", "index"] [] := F.binds (ps := ["seed", "index"]) fun _ _ _ _ _ _ us hl => match us, hl with | [_, _], _ => rfl
theorem b__law_generator {K : PySem.W.Frag} {f : Addr} {fd : FuncData} (F : Fun K "_law_generator" "_law_generator" s__law_generator f fd) : Binds K fd ["script", "index"] [] := F.binds (ps := ["script", "index"]) fun _ _ _ _ _ _ us hl => match us, hl with | [_, _], _ => rfl
theorem b__law_random {K : PySem.W.Frag} {f : Addr} {fd : FuncData} (F : Fun K "_law_random" "_law_random" s__law_random f fd) : Binds K fd ["generator", "limit"] [] := F.binds (ps := ["generator", "limit"]) fun _ _ _ _ _ _ us hl => match us, hl with | [_, _], _ => rfl
theorem b__law_between {K : PySem.W.Frag} {f : Addr} {fd : FuncData} (F : Fun K "_law_between" "_law_between" s__law_between f fd) : Binds K fd ["generator", "low", "high"] [] := F.binds (ps := ["generator", "low", "high"]) fun _ _ _ _ _ _ us hl => match us, hl with | [_, _, _], _ => rfl
theorem b__law_pick {K : PySem.W.Frag} {f : Addr} {fd : FuncData} (F : Fun K "_law_pick" "_law_pick" s__law_pick f fd) : Binds K fd ["generator", "items"] [] := F.binds (ps := ["generator", "items"]) fun _ _ _ _ _ _ us hl => match us, hl with | [_, _], _ => rfl
theorem b__law_error {K : PySem.W.Frag} {f : Addr} {fd : FuncData} (F : Fun K "_law_error" "_law_error" s__law_error f fd) : Binds K fd ["call"] [] := F.binds (ps := ["call"]) fun _ _ _ _ _ _ us hl => match us, hl with | [_], _ => rfl
theorem b__law_refused {K : PySem.W.Frag} {f : Addr} {fd : FuncData} (F : Fun K "_law_refused" "_law_refused" s__law_refused f fd) : Binds K fd ["call", "place", "value"] [] := F.binds (ps := ["call", "place", "value"]) fun _ _ _ _ _ _ us hl => match us, hl with | [_, _, _], _ => rfl
theorem b__law_part_cost {K : PySem.W.Frag} {f : Addr} {fd : FuncData} (F : Fun K "_law_part_cost" "_law_part_cost" s__law_part_cost f fd) : Binds K fd ["lines", "long", "gap", "ink"] [] := F.binds (ps := ["lines", "long", "gap", "ink"]) fun _ _ _ _ _ _ us hl => match us, hl with | [_, _, _, _], _ => rfl
theorem b__law_cost {K : PySem.W.Frag} {f : Addr} {fd : FuncData} (F : Fun K "_law_cost" "_law_cost" s__law_cost f fd) : Binds K fd ["lines", "long", "measure", "reading"] [] := F.binds (ps := ["lines", "long", "measure", "reading"]) fun _ _ _ _ _ _ us hl => match us, hl with | [_, _, _, _], _ => rfl
theorem b__law_drawn_lines {K : PySem.W.Frag} {f : Addr} {fd : FuncData} (F : Fun K "_law_drawn_lines" "_law_drawn_lines" s__law_drawn_lines f fd) : Binds K fd ["generator", "many", "long"] [] := F.binds (ps := ["generator", "many", "long"]) fun _ _ _ _ _ _ us hl => match us, hl with | [_, _, _], _ => rfl
theorem b__law_drawn_parts {K : PySem.W.Frag} {f : Addr} {fd : FuncData} (F : Fun K "_law_drawn_parts" "_law_drawn_parts" s__law_drawn_parts f fd) : Binds K fd ["generator", "many", "gap"] [] := F.binds (ps := ["generator", "many", "gap"]) fun _ _ _ _ _ _ us hl => match us, hl with | [_, _, _], _ => rfl
theorem b__law_distance {K : PySem.W.Frag} {f : Addr} {fd : FuncData} (F : Fun K "_law_distance" "_law_distance" s__law_distance f fd) : Binds K fd ["lines", "filling"] [] := F.binds (ps := ["lines", "filling"]) fun _ _ _ _ _ _ us hl => match us, hl with | [_, _], _ => rfl
theorem b__law_keeps {K : PySem.W.Frag} {f : Addr} {fd : FuncData} (F : Fun K "_law_keeps" "_law_keeps" s__law_keeps f fd) : Binds K fd ["filling", "measure", "reading"] [] := F.binds (ps := ["filling", "measure", "reading"]) fun _ _ _ _ _ _ us hl => match us, hl with | [_, _, _], _ => rfl
theorem b__law_is_filling {K : PySem.W.Frag} {f : Addr} {fd : FuncData} (F : Fun K "_law_is_filling" "_law_is_filling" s__law_is_filling f fd) : Binds K fd ["filling", "many", "long"] [] := F.binds (ps := ["filling", "many", "long"]) fun _ _ _ _ _ _ us hl => match us, hl with | [_, _, _], _ => rfl
theorem b__law_all {K : PySem.W.Frag} {f : Addr} {fd : FuncData} (F : Fun K "_law_all" "_law_all" s__law_all f fd) : Binds K fd ["many", "long"] [] := F.binds (ps := ["many", "long"]) fun _ _ _ _ _ _ us hl => match us, hl with | [_, _], _ => rfl
theorem b__law_good {K : PySem.W.Frag} {f : Addr} {fd : FuncData} (F : Fun K "_law_good" "_law_good" s__law_good f fd) : Binds K fd ["lines", "long", "measure", "reading"] [] := F.binds (ps := ["lines", "long", "measure", "reading"]) fun _ _ _ _ _ _ us hl => match us, hl with | [_, _, _, _], _ => rfl
theorem b__law_small_good {K : PySem.W.Frag} {f : Addr} {fd : FuncData} (F : Fun K "_law_small_good" "_law_small_good" s__law_small_good f fd) : Binds K fd ["generator"] [] := F.binds (ps := ["generator"]) fun _ _ _ _ _ _ us hl => match us, hl with | [_], _ => rfl
theorem b__law_refused_right {K : PySem.W.Frag} {f : Addr} {fd : FuncData} (F : Fun K "_law_refused_right" "_law_refused_right" s__law_refused_right f fd) : Binds K fd ["generator", "lines", "long", "measure", "reading"] [] := F.binds (ps := ["generator", "lines", "long", "measure", "reading"]) fun _ _ _ _ _ _ us hl => match us, hl with | [_, _, _, _, _], _ => rfl
theorem b_law {K : PySem.W.Frag} {f : Addr} {fd : FuncData} (F : Fun K "law" "law" s_law f fd) : Binds K fd ["script"] [] := F.binds (ps := ["script"]) fun _ _ _ _ _ _ us hl => match us, hl with | [_], _ => rfl

section
variable {P : Program} {w : World} {K : PySem.W.Frag} {mg : Str → Option Value} {base : Heap}
def optD : Option Int → PyData
  | none => .none
  | some i => .int i
def isWh (v lo : Int) (mo : Option Int) : Bool := decide (lo ≤ v) && (match mo with | none => true | some m => decide (v ≤ m))
def isWhD (lo : Int) (mo : Option Int) : PyData → Bool
  | .int v => isWh v lo mo
  | _ => false
def pre_is_whole (ds : List PyData) (φ : PyData → Prop) : Prop := ∃ (v : PyData) (lo : Int) (mo : Option Int), ds = [v, .int lo, optD mo] ∧ φ (.bool (isWhD lo mo v))
theorem len_is_whole : ∀ ds φ, pre_is_whole ds φ → ds.length = 3 := by rintro _ φ ⟨v, lo, mo, rfl, _⟩; rfl
theorem ok_is_whole (T : Txt P K mg) : FnG P w K mg base CX0 1 T.a_is_whole T.d_is_whole ["value", "least", "most"] (SpD pre_is_whole) := by
  refine FnG.okT T.F_is_whole sc_is_whole (sp_len len_is_whole) (fun cdv A outer s H vs Q E hr hg h => ?_)
  refine ⟨_, (pss_cons (ps_if (PW.pt (pw_or (pt_not (k_tru (K := K) rfl (pe_callB (k_isi (K := K) rfl) (by rfl) T.z_isinstance (by decide +kernel) (pa_cons (pv 0) (pa_cons (pe_bltn (v := .ty "int") (u := .type "int") (by rfl) T.z_int (by decide +kernel) rfl) pa_nil))) (by intro _; rfl))) (pw_or1 (k_tru (K := K) rfl (pe_callB (k_isi (K := K) rfl) (by rfl) T.z_isinstance (by decide +kernel) (pa_cons (pv 0) (pa_cons (pe_bltn (v := .ty "bool") (u := .type "bool") (by rfl) T.z_bool (by decide +kernel) rfl) pa_nil))) (by intro _; rfl))))) (pss_one (ps_ret pe_bl)) pss_nil)
      (pss_one (ps_ret (k_andT (K := K) rfl (k_orT (K := K) rfl (pe_cmpR op_isN' (pv 1) pe_non (nomark _)) (pe_one (pe_cmpR op_ge (pv 0) (pv 1) (nomark _)))) (pe_one (k_orT (K := K) rfl (pe_cmpR op_isN' (pv 2) pe_non (nomark _)) (pe_one (pe_cmpR op_le (pv 0) (pv 2) (nomark _))))))))), fn_pure (by decide) len_is_whole (fun F G0 ds φ hp => ?_) h⟩
  obtain ⟨v, lo, mo, rfl, q⟩ := hp
  cases v with
  | int v =>
    walk_at "dv"
    refine ⟨fun h1 => ?_, fun h1 => ?_⟩
    · have q : φ (.bool (isWh v lo mo)) := q
      unfold isWh at q
      rw [h1, Bool.true_and] at q
      cases mo with
      | none =>
        walk_at "dv"
        exact q
      | some m =>
        walk_at "dv"
        exact op2_B0 q
    · have q : φ (.bool (isWh v lo mo)) := q
      unfold isWh at q
      rw [h1, Bool.false_and] at q
      rw [h1]
      exact q
  | bool b =>
    walk_at "dv"
    exact q
  | _ =>
    walk_at "dv"
    exact q
def pre_look_at_count (ds : List PyData) (φ : PyData → Prop) (ψ : String → PyData → Prop) : Prop := ∃ (v : PyData) (mo : Option Int), ds = [v, optD mo] ∧ (isWhD 0 mo v = false → ψ "InvalidNumber" v) ∧ (isWhD 0 mo v = true → φ .none)
theorem len_look_at_count : ∀ ds φ ψ, pre_look_at_count ds φ ψ → ds.length = 2 := by rintro _ φ ψ ⟨n, mo, rfl, _⟩; rfl
theorem ok_look_at_count (T : Txt P K mg) : FnG P w K mg base (L2.CX P w) 2 T.a_look_at_count T.d_look_at_count ["value", "most"] (SpX T.cA pre_look_at_count) := by
  refine FnG.okTX T.F_look_at_count sc_look_at_count (spx_len len_look_at_count) (fun cdv A outer s H vs Q E hr hg h => ?_)
  refine ⟨_, (pss_one (ps_if (pt_not (k_tru (K := K) rfl (pe_cg (ok_is_whole (P := P) (w := w) (base := base) T) (by exact hr.mono (by first | decide | omega)) (by exact hg) (by rfl) T.g_is_whole T.F_is_whole.kp (bd_is_whole_3 T.F_is_whole) .nil pass0 (pa_cons (pv 0) (pa_cons pe_int (pa_cons (pv 1) pa_nil)))) (by intro _; rfl))) (pss_one (ps_raiseV T.X_InvalidNumber rfl (takes_of rfl rfl rfl rfl) (by exact hr.mono (by first | decide | omega)) (by rfl) (pa_cons (pv 0) pa_nil))) pss_nil)), fn_x (by decide) len_look_at_count (fun F G0 ds φ ψ hp hE => ?_) h⟩
  obtain ⟨v, mo, rfl, p1, p2⟩ := hp
  walk_at "dv"
  refine ⟨v, 0, mo, rfl, ?_⟩
  cases h1 : isWhD 0 mo v with
  | false =>
    walk_at "dv"
    refine q_raise "InvalidNumber" hE (by simp [Txt.cA]) ?_
    walk_at "dv"
    exact p1 h1
  | true =>
    walk_at "dv"
    exact p2 h1
def pairD (p : Nat × Nat) : PyData := .tuple [.int (p.1 : Int), .int (p.2 : Int)]
abbrev linesD (ls : List (Nat × Nat)) : PyData := .list (ls.map pairD)
def intD : PyData → Int
  | .int i => i
  | _ => 0
def sumD (ds : List PyData) : Int := (ds.map intD).sum
def natD (d : PyData) : Bool := isWhD 0 none d
theorem nats_of : ∀ {ds : List PyData}, ds.all natD = true → ds = (ds.map intD).map .int
  | [], _ => rfl
  | d :: ds, h => by
    rw [List.all_cons, Bool.and_eq_true] at h
    have ih := nats_of h.2
    rw [List.map_cons, List.map_cons, ← ih]
    cases d with
    | int i => rfl
    | _ => cases h.1
def isLine (n : Int) : PyData → Bool
  | .tuple ds => (ds.length == 2) && (ds.all natD && decide (sumD ds ≤ n))
  | _ => false
def isLines (n : Int) : PyData → Bool
  | .list ds => decide (ds.length ≤ 400) && ds.all (isLine n)
  | _ => false
def pre_is_line (ds : List PyData) (φ : PyData → Prop) : Prop := ∃ (n : Int) (v : PyData), ds = [.int n, v] ∧ φ (.bool (isLine n v))
theorem len_is_line : ∀ ds φ, pre_is_line ds φ → ds.length = 2 := by rintro _ φ ⟨n, v, rfl, _⟩; rfl
theorem ok_is_line (T : Txt P K mg) : FnG P w K mg base CX0 2 T.a_is_line T.d_is_line ["long", "value"] (SpD pre_is_line) := by
  refine FnG.ok0 T.F_is_line sc_is_line (sp_len len_is_line) (fun cdv A outer s H vs Q E hr hg h => ?_)
  refine ⟨_, (pss_cons (ps_if (PW.pt (pw_or (pt_not (k_tru (K := K) rfl (pe_callB (k_isi (K := K) rfl) (by rfl) T.z_isinstance (by decide +kernel) (pa_cons (pv 1) (pa_cons (pe_bltn (v := .ty "tuple") (u := .type "tuple") (by rfl) T.z_tuple (by decide +kernel) rfl) pa_nil))) (by intro _; rfl))) (pw_or (pt_cmpR (k_ne (K := K) rfl (by exact hr.units)) (pe_callB (k_len (K := K) rfl) (by rfl) T.z_len (by decide +kernel) (pa_cons (pv 1) pa_nil)) pe_int (nomark _)) (pw_or1 (pt_not (k_tru (K := K) rfl (pe_callB (k_all (K := K) rfl rfl) (by rfl) T.z_all (by decide +kernel) (pa_cons (pe_lc (own := [("number", 2)]) rfl sc_is_line.nd (k_ptup (K := K) rfl (pv 1)) (blkOk_by (own := [("number", 2)]) (N := nm_is_line) (by rfl)) (fun _ _ _ _ _ => (pg_name (i := 2) sc_is_line.nd rfl (by first | exact Or.inl rfl | exact Or.inr rfl))) (fun _ _ _ _ _ => pts_nil) (fun _ _ _ _ _ => (pe_cg (ok_is_whole (P := P) (w := w) (base := base) T) (by exact hr.mono (by first | decide | omega)) (by exact hg) (by rfl) T.g_is_whole T.F_is_whole.kp (bd_is_whole_2 T.F_is_whole) (.cons (show L2.RelV V.non Value.none from rfl) .nil) pass0 (pa_cons (pv 2) (pa_cons pe_int pa_nil))))) pa_nil)) (by intro _; rfl))))))) (pss_one (ps_ret pe_bl)) pss_nil)
      (pss_one (ps_ret (pe_cmpR op_le (pe_callB (k_sumU (K := K) rfl rfl) (by rfl) T.z_sum (by decide +kernel) (pa_cons (pv 1) pa_nil)) (pv 0) (nomark _))))), fn_pure (by decide) len_is_line (fun F G0 ds φ hp => ?_) h⟩
  obtain ⟨n, v, rfl, q⟩ := hp
  cases v with
  | tuple ds =>
    walk_at "dv"
    cases h1 : (ds.length == 2) with
    | false =>
      have e : (!((ds.length : Int) == 2)) = true := by
        have : ds.length ≠ 2 := by simpa using h1
        rw [beq_eq_false_iff_ne.mpr (by omega)]
        rfl
      rw [e]
      walk_at "dv"
      have e2 : isLine n (.tuple ds) = false := by show (_ && _) = false; rw [h1]; rfl
      rw [e2] at q
      exact q
    | true =>
      have h2 : ds.length = 2 := by simpa using h1
      have e : (!((ds.length : Int) == 2)) = false := by
        rw [h2]
        rfl
      rw [e]
      walk_at "dv"
      refine we_new (wn_lcM (α := PyData) (js := [2]) (by decide) (wi_tup ?_))
      walk_at "dv"
      refine ⟨ds, fun d => d, by simp, by omega, rfl, fun d => .bool (natD d), fun d hd => ?_, ?_⟩
      · refine wg_name ⟨rfl, ?_⟩
        walk_at "dv"
        exact ⟨d, 0, none, rfl, rfl, rfl⟩
      walk_at "dv"
      refine (opc_allM ?_).op
      walk_at "dv"
      cases h3 : ds.all natD with
      | false =>
        walk_at "dv"
        have e2 : isLine n (.tuple ds) = false := by show (_ && (_ && _)) = false; rw [h3, Bool.false_and, Bool.and_false]
        rw [e2] at q
        exact q
      | true =>
        walk_at "dv"
        have en := nats_of h3
        have e2 : isLine n (.tuple ds) = decide (sumD ds ≤ n) := by show (_ && (_ && _)) = _; rw [h1, h3, Bool.true_and, Bool.true_and]
        rw [e2] at q
        unfold sumD at q
        generalize ds.map intD = ns at en q
        subst en
        refine (opc_sumT ?_).op
        walk_at "dv"
        exact q
  | _ =>
    walk_at "dv"
    exact q
def pre_are_lines (ds : List PyData) (φ : PyData → Prop) : Prop := ∃ (n : Int) (v : PyData), ds = [.int n, v] ∧ φ (.bool (isLines n v))
theorem len_are_lines : ∀ ds φ, pre_are_lines ds φ → ds.length = 2 := by rintro _ φ ⟨n, v, rfl, _⟩; rfl
theorem ok_are_lines (T : Txt P K mg) : FnG P w K mg base CX0 3 T.a_are_lines T.d_are_lines ["long", "value"] (SpD pre_are_lines) := by
  refine FnG.ok0 T.F_are_lines sc_are_lines (sp_len len_are_lines) (fun cdv A outer s H vs Q E hr hg h => ?_)
  refine ⟨_, (pss_one (ps_ret (k_andT (K := K) rfl (pe_callB (k_isi (K := K) rfl) (by rfl) T.z_isinstance (by decide +kernel) (pa_cons (pv 1) (pa_cons (pe_bltn (v := .ty "list") (u := .type "list") (by rfl) T.z_list (by decide +kernel) rfl) pa_nil))) (k_andT (K := K) rfl (pe_cmpR op_le (pe_callB (k_len (K := K) rfl) (by rfl) T.z_len (by decide +kernel) (pa_cons (pv 1) pa_nil)) (pe_glob (v := .int 400) rfl T.c_MOST_LINES ⟨_, rfl⟩) (nomark _)) (pe_one (pe_callB (k_all (K := K) rfl rfl) (by rfl) T.z_all (by decide +kernel) (pa_cons (pe_lc (own := [("line", 2)]) rfl sc_are_lines.nd (k_plist (K := K) rfl (pv 1)) (blkOk_by (own := [("line", 2)]) (N := nm_are_lines) (by rfl)) (fun _ _ _ _ _ => (pg_name (i := 2) sc_are_lines.nd rfl (by first | exact Or.inl rfl | exact Or.inr rfl))) (fun _ _ _ _ _ => pts_nil) (fun _ _ _ _ _ => (pe_cg (ok_is_line (P := P) (w := w) (base := base) T) (by exact hr.mono (by first | decide | omega)) (by exact hg) (by rfl) T.g_is_line T.F_is_line.kp (b_is_line T.F_is_line) .nil pass0 (pa_cons (pv 0) (pa_cons (pv 2) pa_nil))))) pa_nil))))))), fn_pure (by decide) len_are_lines (fun F G0 ds φ hp => ?_) h⟩
  obtain ⟨n, v, rfl, q⟩ := hp
  cases v with
  | list ds =>
    walk_at "dv"
    by_cases h1 : ds.length ≤ 400
    · have e1 : decide ((ds.length : Int) ≤ 400) = true := decide_eq_true (by omega)
      rw [e1]
      walk_at "dv"
      refine we_new (wn_lcM (α := PyData) (js := [2]) (by decide) (wi_list ?_))
      walk_at "dv"
      refine ⟨ds, fun d => d, by simp, by omega, rfl, fun d => .bool (isLine n d), fun d hd => ?_, ?_⟩
      · refine wg_name ⟨rfl, ?_⟩
        walk_at "dv"
        exact ⟨n, d, rfl, rfl, rfl⟩
      walk_at "dv"
      refine (opc_allM ?_).op
      have e2 : isLines n (.list ds) = ds.all (isLine n) := by show (_ && _) = _; rw [decide_eq_true h1, Bool.true_and]
      rw [e2] at q
      exact q
    · have e1 : decide ((ds.length : Int) ≤ 400) = false := decide_eq_false (by omega)
      rw [e1]
      walk_at "dv"
      have e2 : isLines n (.list ds) = false := by show (_ && _) = false; rw [decide_eq_false h1]; rfl
      rw [e2] at q
      exact q
  | _ =>
    walk_at "dv"
    exact q
theorem line_of {n : Int} {v : PyData} (h : isLine n v = true) : ∃ p : Nat × Nat, v = pairD p := by
  cases v with
  | tuple ds =>
    have h : ((ds.length == 2) && (ds.all natD && decide (sumD ds ≤ n))) = true := h
    rw [Bool.and_eq_true, Bool.and_eq_true] at h
    obtain ⟨h1, h2, _⟩ := h
    match ds, h1, h2 with
    | [a, b], _, h2 =>
      simp only [List.all_cons, List.all_nil, Bool.and_true, Bool.and_eq_true] at h2
      obtain ⟨ha, hb⟩ := h2
      cases a with
      | int i =>
        cases b with
        | int j =>
          have ha : (decide ((0 : Int) ≤ i) && true) = true := ha
          have hb : (decide ((0 : Int) ≤ j) && true) = true := hb
          rw [Bool.and_true] at ha hb
          have ha := of_decide_eq_true ha
          have hb := of_decide_eq_true hb
          refine ⟨(i.toNat, j.toNat), ?_⟩
          show _ = PyData.tuple [.int ((i.toNat : Nat) : Int), .int ((j.toNat : Nat) : Int)]
          rw [Int.toNat_of_nonneg ha, Int.toNat_of_nonneg hb]
        | _ => cases hb
      | _ => cases ha
  | _ => cases h
theorem pairs_of {n : Int} : ∀ {ds : List PyData}, ds.all (isLine n) = true → ∃ ls : List (Nat × Nat), ds = ls.map pairD
  | [], _ => ⟨[], rfl⟩
  | d :: ds, h => by
    rw [List.all_cons, Bool.and_eq_true] at h
    obtain ⟨p, rfl⟩ := line_of h.1
    obtain ⟨ls, rfl⟩ := pairs_of h.2
    exact ⟨p :: ls, rfl⟩
theorem lines_of_is {n : Int} {v : PyData} (h : isLines n v = true) : ∃ ls : List (Nat × Nat), v = linesD ls ∧ ls.length ≤ 400 := by
  cases v with
  | list ds =>
    have h : (decide (ds.length ≤ 400) && ds.all (isLine n)) = true := h
    rw [Bool.and_eq_true] at h
    have h1 := of_decide_eq_true h.1
    obtain ⟨ls, rfl⟩ := pairs_of h.2
    rw [List.length_map] at h1
    exact ⟨ls, rfl, h1⟩
  | _ => cases h
end

--@passes look_at_lines look_at_measured

section
variable {P : Program} {w : World} {K : PySem.W.Frag} {mg : Str → Option Value} {base : Heap}
def isMeas : PyData → Bool
  | .tuple [a, b] => isWhD 1 (some 12) a && isWhD 1 (some 50) b
  | _ => false
def pre_is_measure (ds : List PyData) (φ : PyData → Prop) : Prop := ∃ v : PyData, ds = [v] ∧ φ (.bool (isMeas v))
theorem len_is_measure : ∀ ds φ, pre_is_measure ds φ → ds.length = 1 := by rintro _ φ ⟨v, rfl, _⟩; rfl
theorem len2_no {es : List PyData} (h : es.length ≠ 2) : (!((es.length : Int) == 2)) = true := by
  rw [beq_eq_false_iff_ne.mpr (by omega)]
  rfl
theorem meas_no {es : List PyData} (h : es.length ≠ 2) : isMeas (.tuple es) = false := by
  match es, h with
  | [], _ => rfl
  | [_], _ => rfl
  | [_, _], h => exact absurd rfl h
  | _ :: _ :: _ :: _, _ => rfl
theorem ok_is_measure (T : Txt P K mg) : FnG P w K mg base CX0 2 T.a_is_measure T.d_is_measure ["value"] (SpD pre_is_measure) := by
  refine FnG.ok0 T.F_is_measure sc_is_measure (sp_len len_is_measure) (fun cdv A outer s H vs Q E hr hg h => ?_)
  refine ⟨_, (pss_cons (ps_if (PW.pt (pw_or (pt_not (k_tru (K := K) rfl (pe_callB (k_isi (K := K) rfl) (by rfl) T.z_isinstance (by decide +kernel) (pa_cons (pv 0) (pa_cons (pe_bltn (v := .ty "tuple") (u := .type "tuple") (by rfl) T.z_tuple (by decide +kernel) rfl) pa_nil))) (by intro _; rfl))) (pw_or1 (pt_cmpR (k_ne (K := K) rfl (by exact hr.units)) (pe_callB (k_len (K := K) rfl) (by rfl) T.z_len (by decide +kernel) (pa_cons (pv 0) pa_nil)) pe_int (nomark _))))) (pss_one (ps_ret pe_bl)) pss_nil)
      (pss_one (ps_ret (k_andT (K := K) rfl (pe_cg (ok_is_whole (P := P) (w := w) (base := base) T) (by exact hr.mono (by first | decide | omega)) (by exact hg) (by rfl) T.g_is_whole T.F_is_whole.kp (bd_is_whole_3 T.F_is_whole) .nil pass0 (pa_cons (pe_ix (k_ix (K := K) rfl) (pv 0) pe_int (fun _ _ => rfl)) (pa_cons pe_int (pa_cons (pe_glob (v := .int 12) rfl T.c_MOST_GAP ⟨_, rfl⟩) pa_nil)))) (pe_one (pe_cg (ok_is_whole (P := P) (w := w) (base := base) T) (by exact hr.mono (by first | decide | omega)) (by exact hg) (by rfl) T.g_is_whole T.F_is_whole.kp (bd_is_whole_3 T.F_is_whole) .nil pass0 (pa_cons (pe_ix (k_ix (K := K) rfl) (pv 0) pe_int (fun _ _ => rfl)) (pa_cons pe_int (pa_cons (pe_glob (v := .int 50) rfl T.c_MOST_INK ⟨_, rfl⟩) pa_nil))))))))), fn_pure (by decide) len_is_measure (fun F G0 ds φ hp => ?_) h⟩
  obtain ⟨v, rfl, q⟩ := hp
  cases v with
  | tuple es =>
    by_cases h2 : es.length = 2
    · match es, h2 with
      | [a, b], _ =>
        walk_at "dv"
        refine op2_ixT atI_zero ?_
        walk_at "dv"
        refine ⟨a, 1, some 12, rfl, ?_⟩
        have e : isMeas (.tuple [a, b]) = (isWhD 1 (some 12) a && isWhD 1 (some 50) b) := rfl
        rw [e] at q
        cases h1 : isWhD 1 (some 12) a with
        | false =>
          rw [h1, Bool.false_and] at q
          walk_at "dv"
          exact q
        | true =>
          rw [h1, Bool.true_and] at q
          walk_at "dv"
          refine op2_ixT (d := b) rfl ?_
          walk_at "dv"
          exact ⟨b, 1, some 50, rfl, q⟩
    · walk_at "dv"
      rw [len2_no h2]
      walk_at "dv"
      rw [meas_no h2] at q
      exact q
  | _ =>
    walk_at "dv"
    exact q
/-- parts, from where one may begin -/
def partsOk (many gap : Int) : Int → List PyData → Bool
  | _, [] => true
  | free, .tuple [.int a, .int b] :: ds => (decide (0 ≤ a) && decide (0 ≤ b)) && (!(decide (a < free) || (decide (b - a < gap) || decide (many < b))) && partsOk many gap (b + gap) ds)
  | _, _ => false
def isParts (many gap : Int) : PyData → Bool
  | .list ds => partsOk many gap 0 ds
  | _ => false
/-- the head of a list of parts is none -/
def headNo (many gap free : Int) (d : PyData) : Prop := ∀ ds, partsOk many gap free (d :: ds) = false
theorem head_tup {many gap free : Int} {es : List PyData} (h : es.length ≠ 2 ∨ es.all natD = false) : headNo many gap free (.tuple es) := fun ds => by
  match es, h with
  | [], _ => rfl
  | [x], _ => cases x <;> rfl
  | [x, y], h =>
    cases x with
    | int a =>
      cases y with
      | int b =>
        have h : ([PyData.int a, .int b].all natD) = false := h.elim (fun z => absurd rfl z) id
        have e : ([PyData.int a, .int b].all natD) = (decide (0 ≤ a) && decide (0 ≤ b)) := by
          simp [natD, isWhD, isWh]
        rw [e] at h
        show (_ && _) = false
        rw [h]
        rfl
      | _ => rfl
    | _ => cases y <;> rfl
  | x :: y :: z :: r, _ => cases x <;> first | rfl | (cases y <;> rfl)
theorem two_nats {es : List PyData} (h1 : es.length = 2) (h2 : es.all natD = true) : ∃ a b : Int, es = [.int a, .int b] ∧ 0 ≤ a ∧ 0 ≤ b := by
  match es, h1 with
  | [x, y], _ =>
    simp only [List.all_cons, List.all_nil, Bool.and_true, Bool.and_eq_true] at h2
    obtain ⟨hx, hy⟩ := h2
    cases x with
    | int a =>
      cases y with
      | int b =>
        have hx : (decide ((0 : Int) ≤ a) && true) = true := hx
        have hy : (decide ((0 : Int) ≤ b) && true) = true := hy
        rw [Bool.and_true] at hx hy
        exact ⟨a, b, rfl, of_decide_eq_true hx, of_decide_eq_true hy⟩
      | _ => cases hy
    | _ => cases hx
def pre_is_parts (ds : List PyData) (φ : PyData → Prop) : Prop := ∃ (many gap : Int) (v : PyData), ds = [.int many, .int gap, v] ∧ φ (.bool (isParts many gap v))
theorem len_is_parts : ∀ ds φ, pre_is_parts ds φ → ds.length = 3 := by rintro _ φ ⟨m, g, v, rfl, _⟩; rfl
theorem ok_is_parts (T : Txt P K mg) : FnG P w K mg base CX0 2 T.a_is_parts T.d_is_parts ["many", "gap", "value"] (SpD pre_is_parts) := by
  refine FnG.ok0 T.F_is_parts sc_is_parts (sp_len len_is_parts) (fun cdv A outer s H vs Q E hr hg h => ?_)
  refine ⟨_, (pss_cons (ps_if (pt_not (k_tru (K := K) rfl (pe_callB (k_isi (K := K) rfl) (by rfl) T.z_isinstance (by decide +kernel) (pa_cons (pv 2) (pa_cons (pe_bltn (v := .ty "list") (u := .type "list") (by rfl) T.z_list (by decide +kernel) rfl) pa_nil))) (by intro _; rfl))) (pss_one (ps_ret pe_bl)) pss_nil)
      (pss_cons (ps_set (i := 3) sc_is_parts.nd rfl (by first | exact Or.inl rfl | exact Or.inr rfl) pe_int)
      (pss_cons (ps_for PassesOwn.never rfl (k_plist (K := K) rfl (pv 2)) (pg_name (i := 4) sc_is_parts.nd rfl (by first | exact Or.inl rfl | exact Or.inr rfl)) (pss_cons (ps_if (PW.pt (pw_or (pt_not (k_tru (K := K) rfl (pe_callB (k_isi (K := K) rfl) (by rfl) T.z_isinstance (by decide +kernel) (pa_cons (pv 4) (pa_cons (pe_bltn (v := .ty "tuple") (u := .type "tuple") (by rfl) T.z_tuple (by decide +kernel) rfl) pa_nil))) (by intro _; rfl))) (pw_or (pt_cmpR (k_ne (K := K) rfl (by exact hr.units)) (pe_callB (k_len (K := K) rfl) (by rfl) T.z_len (by decide +kernel) (pa_cons (pv 4) pa_nil)) pe_int (nomark _)) (pw_or1 (pt_not (k_tru (K := K) rfl (pe_callB (k_all (K := K) rfl rfl) (by rfl) T.z_all (by decide +kernel) (pa_cons (pe_lc (own := [("number", 5)]) rfl sc_is_parts.nd (k_ptup (K := K) rfl (pv 4)) (blkOk_by (own := [("number", 5)]) (N := nm_is_parts) (by rfl)) (fun _ _ _ _ _ => (pg_name (i := 5) sc_is_parts.nd rfl (by first | exact Or.inl rfl | exact Or.inr rfl))) (fun _ _ _ _ _ => pts_nil) (fun _ _ _ _ _ => (pe_cg (ok_is_whole (P := P) (w := w) (base := base) T) (by exact hr.mono (by first | decide | omega)) (by exact hg) (by rfl) T.g_is_whole T.F_is_whole.kp (bd_is_whole_2 T.F_is_whole) (.cons (show L2.RelV V.non Value.none from rfl) .nil) pass0 (pa_cons (pv 5) (pa_cons pe_int pa_nil))))) pa_nil)) (by intro _; rfl))))))) (pss_one (ps_ret pe_bl)) pss_nil)
      (pss_cons (ps_if (PW.pt (pw_or (pt_cmpR op_lt (pe_ix (k_ix (K := K) rfl) (pv 4) pe_int (fun _ _ => rfl)) (pv 3) (nomark _)) (pw_or (pt_cmpR op_lt (pe_op op_sub (pe_ix (k_ix (K := K) rfl) (pv 4) pe_int (fun _ _ => rfl)) (pe_ix (k_ix (K := K) rfl) (pv 4) pe_int (fun _ _ => rfl))) (pv 1) (nomark _)) (pw_or1 (pt_cmpR op_gt (pe_ix (k_ix (K := K) rfl) (pv 4) pe_int (fun _ _ => rfl)) (pv 0) (nomark _)))))) (pss_one (ps_ret pe_bl)) pss_nil)
      (pss_one (ps_set (i := 3) sc_is_parts.nd rfl (by first | exact Or.inl rfl | exact Or.inr rfl) (pe_op (k_add (K := K) rfl) (pe_ix (k_ix (K := K) rfl) (pv 4) pe_int (fun _ _ => rfl)) (pv 1)))))))
      (pss_one (ps_ret pe_bl))))), fn_pure (by decide) len_is_parts (fun F G0 ds φ hp => ?_) h⟩
  obtain ⟨many, gap, v, rfl, q⟩ := hp
  cases v with
  | list ds =>
    have q : φ (.bool (partsOk many gap 0 ds)) := q
    walk_at "dv"
    refine q_for (js := [4]) (wi_list ?_)
    walk_at "dv"
    refine ⟨fun i ρ => ∃ (free : Int) (s4 : Slot), partsOk many gap free (ds.drop i) = partsOk many gap 0 ds ∧ ρ = [.val (.int many), .val (.int gap), .val (.list ds), .val (.int free), s4, .any], ⟨0, _, rfl, rfl⟩, ?_, ?_⟩
    · rintro i d _ hd ⟨free, s4, he, rfl⟩
      have hi := (List.getElem?_eq_some_iff.mp hd).1
      have ed : ds.drop i = d :: ds.drop (i + 1) := by
        rw [List.drop_eq_getElem_cons hi, (List.getElem?_eq_some_iff.mp hd).2]
      rw [ed] at he
      have no : headNo many gap free d → φ (.bool false) := fun h => by
        rw [h] at he
        rw [← he] at q
        exact q
      refine wg_name ?_
      cases d with
      | tuple es =>
        by_cases h2 : es.length = 2
        · walk_at "dv"
          rw [show (!((es.length : Int) == 2)) = false by rw [h2]; rfl]
          walk_at "dv"
          refine we_new (wn_lcM (α := PyData) (js := [5]) (by decide) (wi_tup ?_))
          walk_at "dv"
          refine ⟨es, fun d => d, by simp, by omega, rfl, fun d => .bool (natD d), fun d hd => ?_, ?_⟩
          · refine wg_name ⟨rfl, ?_⟩
            walk_at "dv"
            exact ⟨d, 0, none, rfl, rfl, rfl⟩
          walk_at "dv"
          refine (opc_allM ?_).op
          walk_at "dv"
          cases h3 : es.all natD with
          | false =>
            walk_at "dv"
            exact no (head_tup (.inr h3))
          | true =>
            walk_at "dv"
            obtain ⟨a, b, rfl, ha, hb⟩ := two_nats h2 h3
            have hh : partsOk many gap free (.tuple [.int a, .int b] :: ds.drop (i + 1)) = (!(decide (a < free) || (decide (b - a < gap) || decide (many < b))) && partsOk many gap (b + gap) (ds.drop (i + 1))) := by
              show (_ && _) = _
              rw [decide_eq_true ha, decide_eq_true hb]
              rfl
            have stop : (decide (a < free) || (decide (b - a < gap) || decide (many < b))) = true → φ (.bool false) := fun h => by
              rw [hh, h] at he
              have he : false = partsOk many gap 0 ds := he
              rw [← he] at q
              exact q
            refine op2_ixT atI_zero ?_
            walk_at "dv"
            cases c1 : decide (a < free) with
            | true =>
              walk_at "dv"
              exact stop (by rw [c1]; rfl)
            | false =>
              walk_at "dv"
              refine op2_ixT (d := .int b) rfl ?_
              walk_at "dv"
              refine op2_ixT atI_zero ?_
              walk_at "dv"
              cases c2 : decide (b - a < gap) with
              | true =>
                walk_at "dv"
                exact stop (by rw [c1, c2]; rfl)
              | false =>
                walk_at "dv"
                refine op2_ixT (d := .int b) rfl ?_
                walk_at "dv"
                cases c3 : decide (many < b) with
                | true =>
                  walk_at "dv"
                  exact stop (by rw [c1, c2, c3]; rfl)
                | false =>
                  walk_at "dv"
                  refine op2_ixT (d := .int b) rfl ?_
                  walk_at "dv"
                  rw [hh, c1, c2, c3] at he
                  exact ⟨b + gap, _, he, rfl⟩
        · walk_at "dv"
          rw [len2_no h2]
          walk_at "dv"
          exact no (head_tup (.inl h2))
      | _ =>
        walk_at "dv"
        exact no fun _ => rfl
    · rintro _ ⟨free, s4, he, rfl⟩
      rw [List.drop_length] at he
      walk_at "dv"
      rw [← he] at q
      exact q
  | _ =>
    walk_at "dv"
    exact q
end

--@passes look_at_lines look_at_measured

section
variable {P : Program} {w : World} {K : PySem.W.Frag} {mg : Str → Option Value} {base : Heap}
def pre_look_at_lines (ds : List PyData) (φ : PyData → Prop) (ψ : String → PyData → Prop) : Prop := ∃ v l : PyData, ds = [v, l] ∧ (isWhD 0 (some 400) l = false → ψ "InvalidNumber" l) ∧
  (∀ n : Int, l = .int n → isWh n 0 (some 400) = true → (isLines n v = false → ψ "InvalidList" v) ∧ (isLines n v = true → φ .none))
theorem len_look_at_lines : ∀ ds φ ψ, pre_look_at_lines ds φ ψ → ds.length = 2 := by rintro _ φ ψ ⟨v, l, rfl, _⟩; rfl
theorem ok_look_at_lines (T : Txt P K mg) : FnG P w K mg base (L2.CX P w) 4 T.a_look_at_lines T.d_look_at_lines ["lines", "long"] (SpX T.cA pre_look_at_lines) := by
  refine FnG.okX T.F_look_at_lines sc_look_at_lines (spx_len len_look_at_lines) (fun cdv A outer s H vs Q E hr hg h => ?_)
  refine ⟨_, (pss_cons (ps_expr (pe_cg (ok_look_at_count (P := P) (w := w) (base := base) T) (by exact hr.mono (by first | decide | omega)) (by exact hg) (by rfl) T.g_look_at_count T.F_look_at_count.kp (bd_look_at_count_2 T.F_look_at_count) .nil (passes_call (takes_of rfl rfl rfl rfl) fun _ _ _ _ z => z) (pa_cons (pv 1) (pa_cons (pe_glob (v := .int 400) rfl T.c_MOST_LINES ⟨_, rfl⟩) pa_nil))))
      (pss_one (ps_if (pt_not (k_tru (K := K) rfl (pe_cg (ok_are_lines (P := P) (w := w) (base := base) T) (by exact hr.mono (by first | decide | omega)) (by exact hg) (by rfl) T.g_are_lines T.F_are_lines.kp (b_are_lines T.F_are_lines) .nil pass0 (pa_cons (pv 1) (pa_cons (pv 0) pa_nil))) (by intro _; rfl))) (pss_one (ps_raiseV T.X_InvalidList rfl (takes_of rfl rfl rfl rfl) (by exact hr.mono (by first | decide | omega)) (by rfl) (pa_cons (pv 0) pa_nil))) pss_nil))), fn_x (by decide) len_look_at_lines (fun F G0 ds φ ψ hp hE => ?_) h⟩
  obtain ⟨v, l, rfl, p1, p2⟩ := hp
  refine q_seq (q_dropX hE ?_)
  walk_at "dv"
  refine ⟨l, some 400, rfl, p1, fun h1 => ?_⟩
  cases l with
  | int n =>
    obtain ⟨p3, p4⟩ := p2 n rfl h1
    walk_at "dv"
    refine ⟨n, v, rfl, ?_⟩
    cases h2 : isLines n v with
    | false =>
      walk_at "dv"
      refine q_raise "InvalidList" hE (by simp [Txt.cA]) ?_
      walk_at "dv"
      exact p3 h2
    | true =>
      walk_at "dv"
      exact p4 h2
  | _ => cases h1
def pre_look_at_measured (ds : List PyData) (φ : PyData → Prop) (ψ : String → PyData → Prop) : Prop := ∃ v l m : PyData, ds = [v, l, m] ∧ (isWhD 0 (some 400) l = false → ψ "InvalidNumber" l) ∧
  (∀ n : Int, l = .int n → isWh n 0 (some 400) = true → (isLines n v = false → ψ "InvalidList" v) ∧ (isLines n v = true → (isMeas m = false → ψ "InvalidLayout" m) ∧ (isMeas m = true → φ .none)))
theorem len_look_at_measured : ∀ ds φ ψ, pre_look_at_measured ds φ ψ → ds.length = 3 := by rintro _ φ ψ ⟨v, l, m, rfl, _⟩; rfl
theorem ok_look_at_measured (T : Txt P K mg) : FnG P w K mg base (L2.CX P w) 5 T.a_look_at_measured T.d_look_at_measured ["lines", "long", "measure"] (SpX T.cA pre_look_at_measured) := by
  refine FnG.okX T.F_look_at_measured sc_look_at_measured (spx_len len_look_at_measured) (fun cdv A outer s H vs Q E hr hg h => ?_)
  refine ⟨_, (pss_cons (ps_expr (pe_cg (ok_look_at_lines (P := P) (w := w) (base := base) T) (by exact hr.mono (by first | decide | omega)) (by exact hg) (by rfl) T.g_look_at_lines T.F_look_at_lines.kp (b_look_at_lines T.F_look_at_lines) .nil (passes_call (takes_of rfl rfl rfl rfl) fun _ _ _ _ z => z) (pa_cons (pv 0) (pa_cons (pv 1) pa_nil))))
      (pss_one (ps_if (pt_not (k_tru (K := K) rfl (pe_cg (ok_is_measure (P := P) (w := w) (base := base) T) (by exact hr.mono (by first | decide | omega)) (by exact hg) (by rfl) T.g_is_measure T.F_is_measure.kp (b_is_measure T.F_is_measure) .nil pass0 (pa_cons (pv 2) pa_nil)) (by intro _; rfl))) (pss_one (ps_raiseV T.X_InvalidLayout rfl (takes_of rfl rfl rfl rfl) (by exact hr.mono (by first | decide | omega)) (by rfl) (pa_cons (pv 2) pa_nil))) pss_nil))), fn_x (by decide) len_look_at_measured (fun F G0 ds φ ψ hp hE => ?_) h⟩
  obtain ⟨v, l, m, rfl, p1, p2⟩ := hp
  refine q_seq (q_dropX hE ?_)
  walk_at "dv"
  refine ⟨v, l, rfl, p1, fun n hn h1 => ⟨(p2 n hn h1).1, fun h2 => ?_⟩⟩
  obtain ⟨p3, p4⟩ := (p2 n hn h1).2 h2
  walk_at "dv"
  refine ⟨m, rfl, ?_⟩
  cases h3 : isMeas m with
  | false =>
    walk_at "dv"
    refine q_raise "InvalidLayout" hE (by simp [Txt.cA]) ?_
    walk_at "dv"
    exact p3 h3
  | true =>
    walk_at "dv"
    exact p4 h3
end

section
variable {P : Program} {w : World} {K : PySem.W.Frag} {mg : Str → Option Value} {base : Heap}
/-- the purse of draws: n were drawn at most -/
def PZ (n : Nat) (xs : List PyData) : Prop := ∃ a b c : Int, xs = [.int a, .int b, .int c] ∧ 0 ≤ a ∧ 0 ≤ b ∧ b < 2147483647 ∧ 0 ≤ c ∧ c ≤ n
def pre__law_hash (ds : List PyData) (φ : PyData → Prop) : Prop := ∃ s i : Int, ds = [.int s, .int i] ∧ 0 ≤ i ∧ i < 2 ^ 60 ∧ ∀ r : Int, 0 ≤ r → r < 2147483647 → φ (.int r)
theorem len__law_hash : ∀ ds φ, pre__law_hash ds φ → ds.length = 2 := by rintro _ φ ⟨s, i, rfl, _⟩; rfl
theorem ok__law_hash (T : Txt P K mg) : FnG P w K mg base CX0 1 T.a__law_hash T.d__law_hash ["seed", "index"] (SpD pre__law_hash) := by
  refine FnG.ok0 T.F__law_hash sc__law_hash (sp_len len__law_hash) (fun cdv A outer s H vs Q E hr hg h => ?_)
  refine ⟨_, (pss_cons (ps_set (i := 2) sc__law_hash.nd rfl (by first | exact Or.inl rfl | exact Or.inr rfl) (pe_op op_mod (pe_callTy call_int1' (by rfl) T.z_int (by decide +kernel) (pa_cons (pe_op (k_add (K := K) rfl) (pe_op (k_add (K := K) rfl) (pe_op (k_add (K := K) rfl) (pe_op op_mulU (pv 0) pe_int) (pe_op op_mulU (pe_op op_mulU pe_int (pv 1)) (pv 1))) (pe_op op_mulU pe_int (pv 1))) pe_int) pa_nil)) pe_int))
      (pss_cons (ps_set (i := 2) sc__law_hash.nd rfl (by first | exact Or.inl rfl | exact Or.inr rfl) (pe_op op_mod (pe_callTy call_int1' (by rfl) T.z_int (by decide +kernel) (pa_cons (pe_op (k_add (K := K) rfl) (pe_op (k_add (K := K) rfl) (pe_op op_mulU (pv 2) (pv 2)) (pe_op op_mulU pe_int (pv 1))) pe_int) pa_nil)) pe_int))
      (pss_one (ps_ret (pe_op op_mod (pe_callTy call_int1' (by rfl) T.z_int (by decide +kernel) (pa_cons (pe_op op_mulU (pv 2) pe_int) pa_nil)) pe_int))))), fn_pure (by decide) len__law_hash (fun F G0 ds φ hp => ?_) h⟩
  obtain ⟨s, i, rfl, h0, h1, q⟩ := hp
  walk_at "dv"
  exact q _ (by omega) (by omega)
def pre__law_random (m : Nat) (ds : List PyData) (φ : Nat → PyData → Prop) : Prop := ∃ b : Nat, ds = [.int b] ∧ 0 < b ∧ b < 2 ^ 29 ∧ m < 2 ^ 40 ∧ ∀ r : Nat, r < b → φ (m + 1) (.int r)
theorem len__law_random : ∀ m ds φ, pre__law_random m ds φ → ds.length = 1 := by rintro m _ φ ⟨b, rfl, _⟩; rfl
theorem ok__law_random (T : Txt P K mg) : FnG P w K mg base CX0 2 T.a__law_random T.d__law_random ["generator", "limit"] (SpZ PZ pre__law_random) := by
  refine FnG.ok0 T.F__law_random sc__law_random (spz_len len__law_random) (fun cdv A outer s H vs Q E hr hg h => ?_)
  refine ⟨_, (pss_cons (ps_if (pt_cmpR op_gt (pe_ix (k_ix (K := K) rfl) (pv 0) pe_int (fun _ _ => rfl)) pe_int (nomark _)) (pss_cons (ps_set (i := 2) sc__law_random.nd rfl (by first | exact Or.inl rfl | exact Or.inr rfl) (pe_op op_mod (pe_callTy call_int1' (by rfl) T.z_int (by decide +kernel) (pa_cons (pe_ix (k_ix (K := K) rfl) (pv 0) pe_int (fun _ _ => rfl)) pa_nil)) (pv 1)))
      (pss_cons (ps_asg (pe_op op_fdiv (pe_ix (k_ix (K := K) rfl) (pv 0) pe_int (fun _ _ => rfl)) (pv 1)) (pg_sub (pv 0) pe_int set_list))
      (pss_one (ps_ret (pv 2))))) pss_nil)
      (pss_cons (ps_set (i := 2) sc__law_random.nd rfl (by first | exact Or.inl rfl | exact Or.inr rfl) pe_int)
      (pss_cons (ps_for PassesOwn.never rfl (pi_r1 rfl T.z_range (pa_cons (pe_op (k_add (K := K) rfl) pe_int (pe_op op_fdiv (pe_bits (pv 1)) pe_int)) pa_nil)) (pg_name (i := 3) sc__law_random.nd rfl (by first | exact Or.inl rfl | exact Or.inr rfl)) (pss_cons (ps_asg (pe_op (k_add (K := K) rfl) (pe_ix (k_ix (K := K) rfl) (pv 0) pe_int (fun _ _ => rfl)) pe_int) (pg_sub (pv 0) pe_int set_list))
      (pss_one (ps_set (i := 2) sc__law_random.nd rfl (by first | exact Or.inl rfl | exact Or.inr rfl) (pe_op (k_add (K := K) rfl) (pe_op op_mulU (pv 2) pe_int) (pe_cg (ok__law_hash (P := P) (w := w) (base := base) T) (by exact hr.mono (by first | decide | omega)) (by exact hg) (by rfl) T.g__law_hash T.F__law_hash.kp (b__law_hash T.F__law_hash) .nil pass0 (pa_cons (pe_ix (k_ix (K := K) rfl) (pv 0) pe_int (fun _ _ => rfl)) (pa_cons (pe_ix (k_ix (K := K) rfl) (pv 0) pe_int (fun _ _ => rfl)) pa_nil))))))))
      (pss_one (ps_ret (pe_op op_mod (pe_callTy call_int1' (by rfl) T.z_int (by decide +kernel) (pa_cons (pv 2) pa_nil)) (pv 1))))))), fn_zL (by decide) len__law_random (fun F G0 p m xs ds φ hp hP => ?_) h⟩
  obtain ⟨b, rfl, hb0, hb1, hm, q⟩ := hp
  obtain ⟨x, y, z, rfl, hx, hy, hy2, hz, hz2⟩ := hP
  walk_at "dv"
  refine ⟨fun h1 => ?_, fun h1 => ?_⟩
  · have h1' := of_decide_eq_true h1
    walk_at "dv"
    refine ⟨m + 1, _, rfl, ⟨x / b, y, z, rfl, Int.ediv_nonneg hx (by omega), hy, hy2, hz, by omega⟩, ?_⟩
    have h2 := Int.emod_nonneg x (show (b : Int) ≠ 0 by omega)
    have h3 := Int.emod_lt_of_pos x (show (0 : Int) < b by omega)
    have q1 := q (x % b).toNat (by omega)
    rw [Int.toNat_of_nonneg h2] at q1
    exact q1
  · have hn : Builtin.Int.intBits (b : Int) ≤ 29 := PyProof.Rows.intBits_le (by omega)
    walk_at "dv"
    refine q_for (js := [3]) (wi_r1 ?_)
    walk_at "dv"
    rw [show (1 + (Builtin.Int.intBits (b : Int) : Int) / 30).toNat = 1 by omega]
    refine ⟨fun i ρ => (i = 0 ∧ ρ = [.res (lst p [.int x, .int y, .int z]), .val (.int b), .val (.int 0), .any]) ∨ (i = 1 ∧ ∃ (D : Int) (sl : Slot), ρ = [.res (lst p [.int x, .int y, .int (z + 1)]), .val (.int b), .val (.int D), sl]), .inl ⟨rfl, rfl⟩, ?_, ?_⟩
    · rintro i d ρ hd (⟨rfl, rfl⟩ | ⟨rfl, _⟩)
      · refine wg_name ?_
        walk_at "dv"
        refine ⟨y, z + 1, rfl, by omega, by omega, fun r h0 h1 => ?_⟩
        walk_at "dv"
        exact .inr ⟨rfl, _, _, rfl⟩
      · have := (inz_get hd).1
        omega
    · rintro ρ (⟨h0, _⟩ | ⟨_, D, sl, rfl⟩)
      · rw [inz_len] at h0
        cases h0
      walk_at "dv"
      refine ⟨m + 1, _, rfl, ⟨x, y, z + 1, rfl, hx, hy, hy2, by omega, by omega⟩, ?_⟩
      have h2 := Int.emod_nonneg D (show (b : Int) ≠ 0 by omega)
      have h3 := Int.emod_lt_of_pos D (show (0 : Int) < b by omega)
      have q1 := q (D % b).toNat (by omega)
      rw [Int.toNat_of_nonneg h2] at q1
      exact q1

/-- the script's cell -/
def sp__law_cell (K : PySem.W.Frag) : Sp := fun vs H Q _ => ∃ (a : Addr) (ns : List Int) (i : Nat), vs = [.ref a, .int i] ∧ SqL K H a (ns.map V.int) ∧ ∀ (c : Int) (H' : Hp), Same H H' → Q (.int c) H'
theorem len__law_cell : ∀ vs H Q E, sp__law_cell K vs H Q E → vs.length = 2 := by rintro _ H Q E ⟨a, ns, i, rfl, _⟩; rfl
theorem ok__law_cell (T : Txt P K mg) : FnG P w K mg base CX0 1 T.a__law_cell T.d__law_cell ["script", "index"] (sp__law_cell K) := by
  refine FnG.ok0 T.F__law_cell sc__law_cell len__law_cell (fun cdv A outer s H vs Q E hr hg h => ?_)
  refine ⟨_, (pss_cons (ps_if (pt_cmpR op_lt (pv 1) (pe_callB (k_len (K := K) rfl) (by rfl) T.z_len (by decide +kernel) (pa_cons (pv 0) pa_nil)) (nomark _)) (pss_one (ps_ret (pe_ix (k_ix (K := K) rfl) (pv 0) (pv 1) (fun _ _ => rfl)))) pss_nil)
      (pss_one (ps_ret (pe_op op_mod (pe_callB (k_sum (K := K) rfl rfl) (by rfl) T.z_sum (by decide +kernel) (pa_cons (pe_slice (k_sl (K := K) rfl) (pv 0) po_none (po_some pe_int)) pa_nil)) pe_int)))), ?_⟩
  obtain ⟨a, ns, i, rfl, hS, q⟩ := h
  refine ⟨.int i, rfl, .ref a, rfl, .ref a, ns.length, rfl, .inl ⟨ns.map V.int, hS, by simp⟩, (i : Int), (ns.length : Int), rfl, rfl, _, rfl, ?_⟩
  by_cases hi : i < ns.length
  · rw [show decide ((i : Int) < (ns.length : Int)) = true from decide_eq_true (by omega)]
    exact ⟨.ref a, rfl, .int i, rfl, .inl ⟨a, ns.map V.int, (i : Int), .int ns[i], rfl, rfl, hS, by rw [atI_nat (by rw [List.length_map]; exact hi)]; simp, q _ _ (Same.refl H)⟩⟩
  · rw [show decide ((i : Int) < (ns.length : Int)) = false from decide_eq_false (by omega)]
    cases ns with
    | nil =>
      refine ⟨.ref a, rfl, 1, rfl, .inl (.inl ⟨a, [], rfl, hS, fun p hp => ?_⟩)⟩
      exact ⟨p, [], rfl, .inl (.inl upd_same), 0, 1000003, rfl, rfl, by decide, q _ _ (same_upd hp)⟩
    | cons n r =>
      refine ⟨.ref a, rfl, 1, rfl, .inl (.inl ⟨a, (n :: r).map V.int, rfl, hS, fun p hp => ?_⟩)⟩
      exact ⟨p, [n], rfl, .inl (.inl upd_same), _, 1000003, rfl, rfl, (by decide : (0 : Int) < 1000003), q _ _ (same_upd hp)⟩
def sp__law_generator (K : PySem.W.Frag) : Sp := fun vs H Q _ => ∃ (a : Addr) (ns : List Int) (i : Nat), vs = [.ref a, .int i] ∧ i < 4 ∧ SqL K H a (ns.map V.int) ∧ ∀ (p : Addr) (g0 g1 : Int) (H' : Hp), Same H H' → H p = none → 0 ≤ g0 → 0 ≤ g1 → g1 < 2147483647 → H' p = some (.lst [.int g0, .int g1, .int (1000 * (i : Int))]) → Q (.ref p) H'
theorem len__law_generator : ∀ vs H Q E, sp__law_generator K vs H Q E → vs.length = 2 := by rintro _ H Q E ⟨a, ns, i, rfl, _⟩; rfl
theorem ok__law_generator (T : Txt P K mg) : FnG P w K mg base CX0 2 T.a__law_generator T.d__law_generator ["script", "index"] (sp__law_generator K) := by
  refine FnG.ok0 T.F__law_generator sc__law_generator len__law_generator (fun cdv A outer s H vs Q E hr hg h => ?_)
  refine ⟨_, (pss_cons (ps_set (i := 2) sc__law_generator.nd rfl (by first | exact Or.inl rfl | exact Or.inr rfl) (pe_cg (ok__law_cell (P := P) (w := w) (base := base) T) (by exact hr.mono (by first | decide | omega)) (by exact hg) (by rfl) T.g__law_cell T.F__law_cell.kp (b__law_cell T.F__law_cell) .nil pass0 (pa_cons (pv 0) (pa_cons (pv 1) pa_nil))))
      (pss_one (ps_ret (pe_lst (pa_cons (pe_op op_mod (pe_callTy call_int1' (by rfl) T.z_int (by decide +kernel) (pa_cons (pe_callB (call_max2' rfl) (by rfl) T.z_max (by decide +kernel) (pa_cons (pe_op op_sub (pv 2) (pe_op op_powW pe_int pe_int)) (pa_cons pe_int pa_nil))) pa_nil)) (pe_op op_powW (pe_op op_powW pe_int pe_int) pe_int)) (pa_cons (pe_op op_mod (pe_callTy call_int1' (by rfl) T.z_int (by decide +kernel) (pa_cons (pv 2) pa_nil)) pe_int) (pa_cons (pe_op op_mulU pe_int (pv 1)) pa_nil))))))), ?_⟩
  obtain ⟨a, ns, i, rfl, hi, hS, q⟩ := h
  refine ⟨.ref a, rfl, .int i, rfl, a, ns, i, rfl, hS, fun c H' sH => ?_⟩
  have st : Sta H' (fun _ => none) (fun _ => none) H' [some (.ref a), some (.int i), some (.int c)] [.any, .val (.int i), .val (.int c)] := by
    refine ⟨Same.refl H', fun _ _ e => (nomatch e), fun _ _ e => e, fun _ _ e _ => e, rfl, fun i x e => ?_, fun i j x y _ e1 e2 a ha hb => ?_⟩
    · rcases i with _ | _ | _ | i
      · simp at e
        subst e
        trivial
      · simp at e
        subst e
        exact ⟨_, rfl, .int _⟩
      · simp at e
        subst e
        exact ⟨_, rfl, .int _⟩
      · simp at e
    · rcases i with _ | _ | _ | i
      · simp at e1
        subst e1
        cases ha
      · simp at e1
        subst e1
        cases ha
      · simp at e1
        subst e1
        cases ha
      · simp at e1
  dsimp only [gName, tRet]
  rw [show (L2.start nm__law_generator [V.ref a, V.int i]).set 2 (some (V.int c)) = [some (V.ref a), some (V.int i), some (V.int c)] from rfl]
  refine (show Wn _ _ _ from wn_lst (Φ := fun ds _ => ∃ g0 g1 : Int, 0 ≤ g0 ∧ 0 ≤ g1 ∧ g1 < 2147483647 ∧ ds = [.int g0, .int g1, .int (1000 * (i : Int))]) ?_) H' _ _ H' _ st _ (fun p xs ds ρ' G' H2 s2 g2 hp rx hF hG hn ⟨g0, g1, h0, h1, h2, e⟩ => ?_)
  · walk_at "dv"
    refine op2_powW (n := 4) (by decide) (by decide) (by decide) ?_
    walk_at "dv"
    refine op2_powW (n := 4) (by decide) (by decide) (by decide) ?_
    walk_at "dv"
    refine op2_powW (n := 200) (by decide +kernel) (by decide) (by decide) ?_
    refine op2_mod (by decide +kernel) ?_
    walk_at "dv"
    refine ⟨_, _, ?_, ?_, ?_, rfl⟩
    · exact Int.emod_nonneg _ (by decide +kernel)
    · omega
    · omega
  · subst e
    have ex : xs = [V.int g0, V.int g1, V.int (1000 * (i : Int))] := map_int (bs := [g0, g1, 1000 * (i : Int)]) rx
    subst ex
    exact q p g0 g1 H2 (sH.trans s2.fh) (none_of sH hF) h0 h1 h2 hp
def pre__law_pick (m : Nat) (ds : List PyData) (φ : Nat → PyData → Prop) : Prop := ∃ d : PyData, ds = [d] ∧ m < 2 ^ 40 ∧
  ((∃ xs : List PyData, d = .list xs ∧ 0 < xs.length ∧ xs.length < 2 ^ 29 ∧ ∀ x ∈ xs, φ (m + 1) x) ∨ (∃ z : Str, d = .str z ∧ 0 < z.length ∧ z.length ≤ 100000 ∧ ∀ c ∈ tl z, φ (m + 1) (.str ⟨#[c]⟩)))
theorem len__law_pick : ∀ m ds φ, pre__law_pick m ds φ → ds.length = 1 := by rintro m _ φ ⟨b, rfl, _⟩; rfl
theorem pickL {m : Nat} {xs : List PyData} {φ : Nat → PyData → Prop} (h0 : 0 < xs.length) (h1 : xs.length < 2 ^ 29) (hm : m < 2 ^ 40) (q : ∀ x ∈ xs, φ (m + 1) x) : pre__law_pick m [.list xs] φ := ⟨_, rfl, hm, .inl ⟨xs, rfl, h0, h1, q⟩⟩
theorem pickS {m : Nat} {z : Str} {φ : Nat → PyData → Prop} (h0 : 0 < z.length) (h1 : z.length ≤ 100000) (hm : m < 2 ^ 40) (q : ∀ c ∈ tl z, φ (m + 1) (.str ⟨#[c]⟩)) : pre__law_pick m [.str z] φ := ⟨_, rfl, hm, .inr ⟨z, rfl, h0, h1, q⟩⟩
theorem ok__law_pick (T : Txt P K mg) : FnG P w K mg base CX0 3 T.a__law_pick T.d__law_pick ["generator", "items"] (SpZ PZ pre__law_pick) := by
  refine FnG.ok0 T.F__law_pick sc__law_pick (spz_len len__law_pick) (fun cdv A outer s H vs Q E hr hg h => ?_)
  refine ⟨_, (pss_one (ps_ret (pe_ix (k_ix (K := K) rfl) (pv 1) (pe_cg (ok__law_random (P := P) (w := w) (base := base) T) (by exact hr.mono (by first | decide | omega)) (by exact hg) (by rfl) T.g__law_random T.F__law_random.kp (b__law_random T.F__law_random) .nil pass0 (pa_cons (pv 0) (pa_cons (pe_callB (k_len (K := K) rfl) (by rfl) T.z_len (by decide +kernel) (pa_cons (pv 1) pa_nil)) pa_nil))) (fun _ _ => rfl)))), fn_z (by decide) len__law_pick (fun F G0 p m ds φ hp => ?_) h⟩
  obtain ⟨d, rfl, hm, ⟨xs, rfl, h0, h1, q⟩ | ⟨z, rfl, h0, h1, q⟩⟩ := hp
  · walk_at "dv"
    refine ⟨xs.length, rfl, h0, h1, hm, fun r hr => ?_⟩
    refine op2_ixL (atI_nat hr) ?_
    exact ⟨_, rfl, q _ (List.getElem_mem hr)⟩
  · walk_at "dv"
    refine (opc_lenS h1 ?_).op
    walk_at "dv"
    refine ⟨z.length, rfl, h0, by omega, hm, fun r hr => ?_⟩
    have hr' : r < (tl z).length := by rw [← len_tl]; exact hr
    refine op2_ixS h1 (atI_nat (xs := tl z) hr') ?_
    exact ⟨_, rfl, q _ (List.getElem_mem hr')⟩
def pre__law_between (m : Nat) (ds : List PyData) (φ : Nat → PyData → Prop) : Prop := ∃ a b : Nat, ds = [.int a, .int b] ∧ a ≤ b ∧ b < 2 ^ 28 ∧ m < 2 ^ 40 ∧ ∀ r : Nat, a ≤ r → r ≤ b → φ (m + 1) (.int r)
theorem len__law_between : ∀ m ds φ, pre__law_between m ds φ → ds.length = 2 := by rintro m _ φ ⟨a, b, rfl, _⟩; rfl
theorem ok__law_between (T : Txt P K mg) : FnG P w K mg base CX0 3 T.a__law_between T.d__law_between ["generator", "low", "high"] (SpZ PZ pre__law_between) := by
  refine FnG.ok0 T.F__law_between sc__law_between (spz_len len__law_between) (fun cdv A outer s H vs Q E hr hg h => ?_)
  refine ⟨_, (pss_one (ps_ret (pe_op (k_add (K := K) rfl) (pv 1) (pe_cg (ok__law_random (P := P) (w := w) (base := base) T) (by exact hr.mono (by first | decide | omega)) (by exact hg) (by rfl) T.g__law_random T.F__law_random.kp (b__law_random T.F__law_random) .nil pass0 (pa_cons (pv 0) (pa_cons (pe_op (k_add (K := K) rfl) (pe_op op_sub (pv 2) (pv 1)) pe_int) pa_nil)))))), fn_z (by decide) len__law_between (fun F G0 p m ds φ hp => ?_) h⟩
  obtain ⟨a, b, rfl, hab, hb, hm, q⟩ := hp
  walk_at "dv"
  refine ⟨b - a + 1, congrArg (fun x => [PyData.int x]) (by omega), by omega, by omega, hm, fun r hr => ?_⟩
  walk_at "dv"
  have e := q (a + r) (by omega) (by omega)
  rw [Int.natCast_add] at e
  exact e
end

--@passes look_at_lines look_at_measured

section
variable {P : Program} {w : World} {K : PySem.W.Frag} {mg : Str → Option Value} {base : Heap}
theorem ok__law_error (T : Txt P K mg) : FnG P w K mg base CX0 8 T.a__law_error T.d__law_error ["call"] (SpErr P w K mg base T.cA 7 (.ref T.a_InkError)) := by
  refine FnG.ok0 T.F__law_error sc__law_error sperr_len (fun cdv A outer s H vs Q E hr hg h => ?_)
  refine ⟨_, (pss_cons (ps_set (i := 1) sc__law_error.nd rfl (by first | exact Or.inl rfl | exact Or.inr rfl) pe_non)
      (pss_cons (ps_tryK rfl rfl rfl sc__law_error.nd (i := 2) rfl rfl (c := .ref T.a_InkError) ⟨by rfl, by decide, .inl T.g_InkError⟩ (takesNo.mpr trivial) (fun W pn xe tk _ => (pss_one (show PS _ _ (tTryF P w K mg base 7 0 W) from ps_tryF (k := 7) (i := 0) (by exact hr.mono (by first | decide | omega)) (by exact hg) tk rfl (by first | exact Or.inl rfl | exact Or.inr rfl | exact .inl (.inl rfl))))) (fun a oe pn => (pss_one (ps_set (i := 1) sc__law_error.nd rfl (by first | exact Or.inl rfl | exact Or.inr rfl) (pv 2)))))
      (pss_one (ps_ret (pv 1))))), fn_err (by decide) (fun F G0 f pn ok ψ hx => ?_) h⟩
  refine q_seq (q_set (we_non ?_))
  exact q_tryF rfl (show 2 < 3 by decide) hx (fun ho => ⟨rfl, .inl ⟨ho, rfl⟩⟩) (fun n d a dx hψ => ⟨rfl, .inr ⟨n, d, a, dx, hψ, rfl⟩⟩)
def nameOf : Nat → String
  | 0 => "InvalidNumber"
  | 1 => "InvalidList"
  | _ => "InvalidLayout"
def pre__law_refused (ok : Prop) (ψ : String → PyData → Prop) (ds : List PyData) (φ : PyData → Prop) : Prop := ∃ (place : Nat) (v : PyData), ds = [.int place, v] ∧ place < 3 ∧ ¬ ok ∧ (∀ n d, ψ n d → n = nameOf place ∧ d = v) ∧ (Oks v ∨ v = .dict []) ∧ φ (.bool true)
theorem len__law_refused : ∀ ok ψ ds φ, pre__law_refused ok ψ ds φ → ds.length = 2 := by rintro _ _ _ φ ⟨p, v, rfl, _⟩; rfl
theorem bools_okd {bs : List PyData} (h : (bs.all fun d => match d with | .bool _ => true | _ => false) = true) : Okd (.list bs) := (OkdN.list (n := 0) fun d hd => by
  have := List.all_eq_true.mp h d hd
  cases d with
  | bool b => exact .bool
  | _ => cases this).okd (by decide)
theorem eqv_self4 {x y : PyData} (b : Bool) (h : PyData.eqv x y = b) : PyData.eqv x y = b := h
theorem ok__law_refused (T : Txt P K mg) : FnG P w K mg base CX0 9 T.a__law_refused T.d__law_refused ["call", "place", "value"] (SpC P w K mg base T.cA 7 pre__law_refused) := by
  refine FnG.ok0 T.F__law_refused sc__law_refused (spc_len len__law_refused) (fun cdv A outer s H vs Q E hr hg h => ?_)
  refine ⟨_, (pss_cons (ps_set (i := 3) sc__law_refused.nd rfl (by first | exact Or.inl rfl | exact Or.inr rfl) (pe_cg (ok__law_error (P := P) (w := w) (base := base) T) (by exact hr.mono (by first | decide | omega)) (by exact hg) (by rfl) T.g__law_error T.F__law_error.kp (b__law_error T.F__law_error) .nil pass0 (pa_cons (pv 0) pa_nil)))
      (pss_cons (ps_set (i := 4) sc__law_refused.nd rfl (by first | exact Or.inl rfl | exact Or.inr rfl) (pe_lst (pa_cons (pe_callB (k_isx (K := K) rfl) (by rfl) T.z_isinstance (by decide +kernel) (pa_cons (pv 3) (pa_cons (pe_glob (v := .ref T.a_InvalidNumber) (by rfl) T.g_InvalidNumber rfl) pa_nil))) (pa_cons (pe_callB (k_isx (K := K) rfl) (by rfl) T.z_isinstance (by decide +kernel) (pa_cons (pv 3) (pa_cons (pe_glob (v := .ref T.a_InvalidList) (by rfl) T.g_InvalidList rfl) pa_nil))) (pa_cons (pe_callB (k_isx (K := K) rfl) (by rfl) T.z_isinstance (by decide +kernel) (pa_cons (pv 3) (pa_cons (pe_glob (v := .ref T.a_InvalidLayout) (by rfl) T.g_InvalidLayout rfl) pa_nil))) pa_nil)))))
      (pss_one (ps_ret (k_andT (K := K) rfl (pe_cmpR (k_eq (K := K) rfl (by exact hr.units)) (pv 4) (pe_lc (own := [("at", 5)]) rfl sc__law_refused.nd (pi_r1 rfl T.z_range (pa_cons (pe_callB (k_len (K := K) rfl) (by rfl) T.z_len (by decide +kernel) (pa_cons (pv 4) pa_nil)) pa_nil)) (blkOk_by (own := [("at", 5)]) (N := nm__law_refused) (by rfl)) (fun _ _ _ _ _ => (pg_name (i := 5) sc__law_refused.nd rfl (by first | exact Or.inl rfl | exact Or.inr rfl))) (fun _ _ _ _ _ => pts_nil) (fun _ _ _ _ _ => (pe_cmpR (k_eq (K := K) rfl (by exact hr.units)) (pv 5) (pv 1) (nomark _)))) (nomark _)) (k_andT (K := K) rfl (pe_callB (k_isx (K := K) rfl) (by rfl) T.z_isinstance (by decide +kernel) (pa_cons (pv 3) (pa_cons (pe_bltn (v := .ty "ValueError") (u := .type "ValueError") (by rfl) T.z_ValueError (by decide +kernel) rfl) pa_nil))) (pe_one (pe_cmpR (k_eq (K := K) rfl (by exact hr.units)) (pe_callB (call_repr (by exact hg) (by exact hr.units)) (by rfl) T.z_repr (by decide +kernel) (pa_cons (k_xv (K := K) rfl (pv 3)) pa_nil)) (pe_callB (call_repr (by exact hg) (by exact hr.units)) (by rfl) T.z_repr (by decide +kernel) (pa_cons (pv 2) pa_nil)) (nomark _))))))))), fn_c (by decide) len__law_refused (fun F G0 f pn ok ψ ds φ hp => ?_) h⟩
  obtain ⟨place, v, rfl, hpl, hno, hψ, hv, q⟩ := hp
  rcases (by omega : place = 0 ∨ place = 1 ∨ place = 2) with h | h | h
  · obtain rfl : place = 0 := by omega
    have eA : T.cA "InvalidNumber" = T.a_InvalidNumber := by simp [Txt.cA]
    refine q_seq (q_setErr rfl (fun n d hh => ?_) (fun ho => absurd ho hno) (fun n d a dx hh => ?_))
    · obtain ⟨rfl, _⟩ := hψ n d hh
      rw [show T.cA (nameOf 0) = T.a_InvalidNumber from eA]
      exact T.m_InvalidNumber_InkError
    · obtain ⟨rfl, rfl⟩ := hψ n d hh
      rw [show T.cA (nameOf 0) = T.a_InvalidNumber from eA]
      refine q_seq (q_set (we_new (wn_lst ?_)))
      refine wa_cons (we_isx rfl T.q_InvalidNumber T.k_InvalidNumber_InvalidNumber ?_)
      refine wa_cons (we_isx rfl T.q_InvalidNumber T.k_InvalidNumber_InvalidList ?_)
      refine wa_cons (we_isx rfl T.q_InvalidNumber T.k_InvalidNumber_InvalidLayout ?_)
      refine wa_nil (len_ok (by simp) ?_)
      walk_at "dv"
      refine we_new (wn_lcM (α := Nat) (js := [5]) (by decide) (wi_r1 ?_))
      walk_at "dv"
      refine ⟨List.range 3, fun (j : Nat) => .int (0 + (j : Int)), rfl, by simp, rfl, fun j => .bool (j == 0), fun j hj => ?_, ?_⟩
      · refine wg_name ⟨rfl, ?_⟩
        walk_at "dv"
        refine ⟨rfl, ?_⟩
        have hj := List.mem_range.mp hj
        rcases (by omega : j = 0 ∨ j = 1 ∨ j = 2) with rfl | rfl | rfl <;> rfl
      refine (op2_eqD (bools_okd (by decide +kernel)) (bools_okd (by decide +kernel)) ?_).op
      rw [show PyData.eqv _ _ = true from eqv_self4 _ rfl]
      refine tru_b ⟨fun _ => ?_, fun z => nomatch z⟩
      refine we_andT (we_isxT rfl T.q_InvalidNumber T.k_InvalidNumber_ValueError (tru_b ⟨fun _ => ?_, fun z => nomatch z⟩))
      refine we_op (we_cb (wa_cons (we_xv rfl T.q_InvalidNumber (wa_nil ?_))))
      refine (opc_reprU hv ?_).op
      walk_at "dv"
      refine (opc_reprU hv ?_).op
      walk_at "dv"
      rw [show (d.shown == d.shown) = true by simp]
      exact ⟨rfl, q⟩
  · obtain rfl : place = 1 := by omega
    have eA : T.cA "InvalidList" = T.a_InvalidList := by simp [Txt.cA]
    refine q_seq (q_setErr rfl (fun n d hh => ?_) (fun ho => absurd ho hno) (fun n d a dx hh => ?_))
    · obtain ⟨rfl, _⟩ := hψ n d hh
      rw [show T.cA (nameOf 1) = T.a_InvalidList from eA]
      exact T.m_InvalidList_InkError
    · obtain ⟨rfl, rfl⟩ := hψ n d hh
      rw [show T.cA (nameOf 1) = T.a_InvalidList from eA]
      refine q_seq (q_set (we_new (wn_lst ?_)))
      refine wa_cons (we_isx rfl T.q_InvalidList T.k_InvalidList_InvalidNumber ?_)
      refine wa_cons (we_isx rfl T.q_InvalidList T.k_InvalidList_InvalidList ?_)
      refine wa_cons (we_isx rfl T.q_InvalidList T.k_InvalidList_InvalidLayout ?_)
      refine wa_nil (len_ok (by simp) ?_)
      walk_at "dv"
      refine we_new (wn_lcM (α := Nat) (js := [5]) (by decide) (wi_r1 ?_))
      walk_at "dv"
      refine ⟨List.range 3, fun (j : Nat) => .int (0 + (j : Int)), rfl, by simp, rfl, fun j => .bool (j == 1), fun j hj => ?_, ?_⟩
      · refine wg_name ⟨rfl, ?_⟩
        walk_at "dv"
        refine ⟨rfl, ?_⟩
        have hj := List.mem_range.mp hj
        rcases (by omega : j = 0 ∨ j = 1 ∨ j = 2) with rfl | rfl | rfl <;> rfl
      refine (op2_eqD (bools_okd (by decide +kernel)) (bools_okd (by decide +kernel)) ?_).op
      rw [show PyData.eqv _ _ = true from eqv_self4 _ rfl]
      refine tru_b ⟨fun _ => ?_, fun z => nomatch z⟩
      refine we_andT (we_isxT rfl T.q_InvalidList T.k_InvalidList_ValueError (tru_b ⟨fun _ => ?_, fun z => nomatch z⟩))
      refine we_op (we_cb (wa_cons (we_xv rfl T.q_InvalidList (wa_nil ?_))))
      refine (opc_reprU hv ?_).op
      walk_at "dv"
      refine (opc_reprU hv ?_).op
      walk_at "dv"
      rw [show (d.shown == d.shown) = true by simp]
      exact ⟨rfl, q⟩
  · obtain rfl : place = 2 := by omega
    have eA : T.cA "InvalidLayout" = T.a_InvalidLayout := by simp [Txt.cA]
    refine q_seq (q_setErr rfl (fun n d hh => ?_) (fun ho => absurd ho hno) (fun n d a dx hh => ?_))
    · obtain ⟨rfl, _⟩ := hψ n d hh
      rw [show T.cA (nameOf 2) = T.a_InvalidLayout from eA]
      exact T.m_InvalidLayout_InkError
    · obtain ⟨rfl, rfl⟩ := hψ n d hh
      rw [show T.cA (nameOf 2) = T.a_InvalidLayout from eA]
      refine q_seq (q_set (we_new (wn_lst ?_)))
      refine wa_cons (we_isx rfl T.q_InvalidLayout T.k_InvalidLayout_InvalidNumber ?_)
      refine wa_cons (we_isx rfl T.q_InvalidLayout T.k_InvalidLayout_InvalidList ?_)
      refine wa_cons (we_isx rfl T.q_InvalidLayout T.k_InvalidLayout_InvalidLayout ?_)
      refine wa_nil (len_ok (by simp) ?_)
      walk_at "dv"
      refine we_new (wn_lcM (α := Nat) (js := [5]) (by decide) (wi_r1 ?_))
      walk_at "dv"
      refine ⟨List.range 3, fun (j : Nat) => .int (0 + (j : Int)), rfl, by simp, rfl, fun j => .bool (j == 2), fun j hj => ?_, ?_⟩
      · refine wg_name ⟨rfl, ?_⟩
        walk_at "dv"
        refine ⟨rfl, ?_⟩
        have hj := List.mem_range.mp hj
        rcases (by omega : j = 0 ∨ j = 1 ∨ j = 2) with rfl | rfl | rfl <;> rfl
      refine (op2_eqD (bools_okd (by decide +kernel)) (bools_okd (by decide +kernel)) ?_).op
      rw [show PyData.eqv _ _ = true from eqv_self4 _ rfl]
      refine tru_b ⟨fun _ => ?_, fun z => nomatch z⟩
      refine we_andT (we_isxT rfl T.q_InvalidLayout T.k_InvalidLayout_ValueError (tru_b ⟨fun _ => ?_, fun z => nomatch z⟩))
      refine we_op (we_cb (wa_cons (we_xv rfl T.q_InvalidLayout (wa_nil ?_))))
      refine (opc_reprU hv ?_).op
      walk_at "dv"
      refine (opc_reprU hv ?_).op
      walk_at "dv"
      rw [show (d.shown == d.shown) = true by simp]
      exact ⟨rfl, q⟩
end

section
variable {P : Program} {w : World} {K : PySem.W.Frag} {mg : Str → Option Value} {base : Heap}
theorem cut_le {α : Type} {ds : List α} {lo hi : Option Int} : (cutD ds lo hi).length ≤ ds.length := by
  unfold cutD
  rw [List.length_take, List.length_drop]
  omega
theorem cut_upto {α : Type} (ds : List α) (n : Nat) : cutD ds none (some (n : Int)) = ds.take n := by
  unfold cutD
  rw [HT.sIx_none, HT.sIx_nat, Nat.sub_zero, List.drop_zero]
  rcases Nat.le_total n ds.length with h | h
  · rw [show min n ds.length = n by omega]
  · rw [show min n ds.length = ds.length by omega, List.take_of_length_le (Nat.le_refl _), List.take_of_length_le h]
theorem cut_from {α : Type} (ds : List α) (n : Nat) : cutD ds (some (n : Int)) none = ds.drop n := by
  unfold cutD
  rw [HT.sIx_none, HT.sIx_nat]
  rcases Nat.le_total n ds.length with h | h
  · rw [show min n ds.length = n by omega, List.take_of_length_le (by rw [List.length_drop]; omega)]
  · rw [show min n ds.length = ds.length by omega, List.drop_of_length_le (Nat.le_refl _), List.drop_of_length_le h]
    exact List.take_nil
theorem cut_seg {α : Type} (ds : List α) (a b : Nat) : cutD ds (some (a : Int)) (some (b : Int)) = seg ds a b := by
  unfold cutD seg
  rw [HT.sIx_nat, HT.sIx_nat]
  rcases Nat.le_total a ds.length with h | h
  · rw [show min a ds.length = a by omega]
    rcases Nat.le_total b ds.length with h2 | h2
    · rw [show min b ds.length = b by omega]
    · rw [show min b ds.length = ds.length by omega, List.take_of_length_le (by rw [List.length_drop]; omega), List.take_of_length_le (by rw [List.length_drop]; omega)]
  · rw [show min a ds.length = ds.length by omega, List.drop_of_length_le (Nat.le_refl _), List.drop_of_length_le h, List.take_nil, List.take_nil]
theorem cut_last {α : Type} (ds : List α) (n : Nat) (h0 : 0 < n) (h : n ≤ ds.length) : cutD ds (some (-(n : Int))) none = ds.drop (ds.length - n) := by
  unfold cutD
  rw [HT.sIx_none]
  have e : HT.sIx ds.length 0 (some (-(n : Int))) = ds.length - n := by
    show (if (-(n : Int)) < 0 then (-(n : Int) + (ds.length : Int)).toNat else _) = _
    rw [if_pos (by omega)]
    omega
  rw [e, List.take_of_length_le (by rw [List.length_drop]; omega)]
abbrev numD (l : List Nat) : List PyData := l.map fun k : Nat => .int (k : Int)
theorem cast_sum (l : List Nat) : (l.map fun k : Nat => (k : Int)).sum = ((l.sum : Nat) : Int) := by
  induction l with
  | nil => rfl
  | cons a l ih =>
    rw [List.map_cons, List.sum_cons, List.sum_cons, ih]
    omega
theorem numD_get {l : List Nat} {k x : Nat} (h : l[k]? = some x) : atI (numD l) (k : Int) = some (.int (x : Int)) := by
  have hk : k < l.length := (List.getElem?_eq_some_iff.mp h).1
  rw [atI_nat (by rw [List.length_map]; exact hk), List.getElem_map]
  rw [List.getElem?_eq_getElem hk] at h
  rw [Option.some.inj h]
theorem numD_set (l : List Nat) (k y : Nat) : (numD l).set k (.int (y : Int)) = numD (l.set k y) := by
  unfold numD
  rw [List.map_set]
theorem ix_nat {n k : Nat} (h : k < n) : ixN n (k : Int) = some k := by
  unfold ixN
  rw [if_pos (by omega), if_pos (by omega), Int.toNat_natCast]
theorem last_take (l : List Nat) (n : Nat) (h : n ≤ l.length) : l.reverse.drop (l.reverse.length - n) = (l.take n).reverse := by
  rw [List.drop_reverse, List.length_reverse]
  congr 2
  omega
def pre_with_line (n : Nat) (ds : List PyData) (φ : Nat → PyData → Prop) : Prop := ∃ (g : List Nat) (p : Nat × Nat) (long gap ink : Nat), n = encN g.reverse ∧ ds = [pairD p, .int (long : Int), .tuple [.int (gap : Int), .int (ink : Int)]] ∧ g.length < 1000 ∧ 0 < gap ∧ gap ≤ 12 ∧ (∀ x ∈ g, x ≤ long) ∧ p.1 + p.2 ≤ long ∧
  (stepG long gap ink g (cnt p) = none → ∀ n', φ n' .none) ∧ (∀ m g', stepG long gap ink g (cnt p) = some (m, g') → φ (encN g'.reverse) (.int (m : Int)))
theorem len_with_line : ∀ m ds φ, pre_with_line m ds φ → ds.length = 3 := by rintro m _ φ ⟨g, p, long, gap, ink, _, rfl, _⟩; rfl
theorem pl_num (l : List Nat) : PL (encN l) (numD l) := by
  show _ = _
  rw [dec_enc]
theorem ok_with_line (T : Txt P K mg) : FnG P w K mg base CX0 1 T.a_with_line T.d_with_line ["counts", "line", "long", "measure"] (SpZ PL pre_with_line) := by
  refine FnG.ok0 T.F_with_line sc_with_line (spz_len len_with_line) (fun cdv A outer s H vs Q E hr hg h => ?_)
  refine ⟨_, (pss_cons (ps_asg (pv 3) (k_tup (K := K) (n := 2) rfl rfl (pgs_cons (pg_name (i := 4) sc_with_line.nd rfl (by first | exact Or.inl rfl | exact Or.inr rfl)) (pgs_cons (pg_name (i := 5) sc_with_line.nd rfl (by first | exact Or.inl rfl | exact Or.inr rfl)) pgs_nil))))
      (pss_cons (ps_expr (k_append (K := K) rfl (pv 0) (pa_cons (pe_callB (k_sumU (K := K) rfl rfl) (by rfl) T.z_sum (by decide +kernel) (pa_cons (pv 1) pa_nil)) pa_nil)))
      (pss_cons (ps_if (pt_cmpR op_lt (pe_callB (k_len (K := K) rfl) (by rfl) T.z_len (by decide +kernel) (pa_cons (pv 0) pa_nil)) (pv 4) (nomark _)) (pss_one (ps_ret pe_int)) pss_nil)
      (pss_cons (ps_set (i := 6) sc_with_line.nd rfl (by first | exact Or.inl rfl | exact Or.inr rfl) (pe_callB (call_max2' rfl) (by rfl) T.z_max (by decide +kernel) (pa_cons pe_int (pa_cons (pe_op op_sub (pv 5) (pe_callB (k_sumU (K := K) rfl rfl) (by rfl) T.z_sum (by decide +kernel) (pa_cons (pe_slice (k_sl (K := K) rfl) (pv 0) (po_some (pe_un un_neg (pv 4))) po_none) pa_nil))) pa_nil))))
      (pss_cons (ps_set (i := 7) sc_with_line.nd rfl (by first | exact Or.inl rfl | exact Or.inr rfl) (pv 6))
      (pss_cons (ps_for PassesOwn.never rfl (pi_range3 rfl T.z_range (pa_cons (pe_op op_sub (pe_callB (k_len (K := K) rfl) (by rfl) T.z_len (by decide +kernel) (pa_cons (pv 0) pa_nil)) pe_int) (pa_cons (pe_op op_sub (pe_op op_sub (pe_callB (k_len (K := K) rfl) (by rfl) T.z_len (by decide +kernel) (pa_cons (pv 0) pa_nil)) pe_int) (pv 4)) (pa_cons (pe_un un_neg pe_int) pa_nil)))) (pg_name (i := 8) sc_with_line.nd rfl (by first | exact Or.inl rfl | exact Or.inr rfl)) (pss_cons (ps_set (i := 9) sc_with_line.nd rfl (by first | exact Or.inl rfl | exact Or.inr rfl) (pe_callB (call_min2' rfl) (by rfl) T.z_min (by decide +kernel) (pa_cons (pv 6) (pa_cons (pe_op op_sub (pv 2) (pe_ix (k_ix (K := K) rfl) (pv 0) (pv 8) (fun _ _ => rfl))) pa_nil))))
      (pss_cons (ps_augS (pv 0) (pv 8) (k_pget (K := K) rfl) (pv 9) ip_add set_list)
      (pss_one (ps_aug (i := 6) sc_with_line.nd rfl (by first | exact Or.inl rfl | exact Or.inr rfl) (pv 9) ip_sub)))))
      (pss_one (ps_ret (pe_ifExp (pt_cmpR op_gt (pv 6) pe_int (nomark _)) pe_non (pv 7)))))))))), fn_zL (by decide) len_with_line (fun F G0 p m xs ds φ hp hP => ?_) h⟩
  obtain ⟨g, p0, long, gap, ink, rfl, rfl, hg, h0, h12, hlo, hp0, q1, q2⟩ := hp
  have hP : xs = (decN (encN g.reverse)).map fun k : Nat => .int (k : Int) := hP
  rw [dec_enc] at hP
  subst hP
  refine q_seq (q_asg (js := [4, 5]) (we_var rfl ?_))
  refine wg_tup rfl (wgs_cons (wg_name (wgs_cons (wg_name (wgs_nil ?_)))))
  refine q_seq (q_app rfl ?_)
  walk_at "dv"
  refine (opc_sumT (ns := [(p0.1 : Int), (p0.2 : Int)]) ?_).op
  refine ⟨_, rfl, by rw [List.length_map, List.length_reverse]; omega, ?_⟩
  have e1 : numD g.reverse ++ [.int [(p0.1 : Int), (p0.2 : Int)].sum] = numD (cnt p0 :: g).reverse := by
    unfold numD
    rw [List.reverse_cons, List.map_append]
    rw [show [(p0.1 : Int), (p0.2 : Int)].sum = ((cnt p0 : Nat) : Int) from show (p0.1 : Int) + ((p0.2 : Int) + 0) = ((p0.1 + p0.2 : Nat) : Int) by omega]
    rfl
  rw [e1]
  show Ws _ _ _ [.res (lst p (numD (cnt p0 :: g).reverse)), .val (pairD p0), .val (.int (long : Int)), .val (.tuple [.int (gap : Int), .int (ink : Int)]), .val (.int (gap : Int)), .val (.int (ink : Int)), .any, .any, .any, .any] _
  have lo : ∀ x ∈ cnt p0 :: g, x ≤ long := fun x hx => by
    rcases List.mem_cons.mp hx with rfl | hx
    · exact hp0
    · exact hlo x hx
  generalize eh : cnt p0 :: g = h at lo
  have hl : h.length = g.length + 1 := by rw [← eh]; rfl
  walk_at "dv"
  rw [show (numD h.reverse).length = h.length from by unfold numD; rw [List.length_map, List.length_reverse]]
  refine ⟨fun c1 => ?_, fun c1 => ?_⟩
  · have c1 := of_decide_eq_true c1
    walk_at "dv"
    exact ⟨_, _, rfl, pl_num _, q2 0 h (by rw [← eh]; exact step_short (by rw [eh]; omega))⟩
  have c1 : ¬ h.length < gap := by have := of_decide_eq_false c1; omega
  have hst : stepG long gap ink g (cnt p0) = if 0 < (fill long gap h (ink - (h.take gap).sum)).2 then none else some (ink - (h.take gap).sum, (fill long gap h (ink - (h.take gap).sum)).1) := by
    unfold stepG
    rw [eh, if_neg c1]
  walk_at "dv"
  rw [show cutD (numD h.reverse) (some (-(gap : Int))) none = numD (h.take gap).reverse from by
    rw [cut_last _ gap h0 (by unfold numD; rw [List.length_map, List.length_reverse]; omega), ← last_take h gap (by omega)]
    unfold numD
    rw [List.length_map, List.map_drop]]
  refine (opc_sumMU (f := fun k : Nat => (k : Int)) ?_).op
  rw [cast_sum, List.sum_reverse]
  walk_at "dv"
  rw [show max (0 : Int) ((ink : Int) - (((h.take gap).sum : Nat) : Int)) = ((ink - (h.take gap).sum : Nat) : Int) by omega]
  generalize ink - (h.take gap).sum = L at hst
  refine q_for (js := [8]) (wi_r3 ?_)
  walk_at "dv"
  rw [show (numD h.reverse).length = h.length from by unfold numD; rw [List.length_map, List.length_reverse]]
  refine ⟨_, _, rfl, ⟨by omega, by omega, by omega, by omega⟩, ?_⟩
  rw [show ((h.length : Int) - 1 - ((h.length : Int) - 1 - (gap : Int))).toNat = gap by omega]
  refine ⟨fun k ρ => ∃ s8 s9, ρ = [.res (lst p (numD (fill long k h L).1.reverse)), .val (pairD p0), .val (.int (long : Int)), .val (.tuple [.int (gap : Int), .int (ink : Int)]), .val (.int (gap : Int)), .val (.int (ink : Int)), .val (.int ((fill long k h L).2 : Int)), .val (.int (L : Int)), s8, s9], ⟨_, _, rfl⟩, ?_, ?_⟩
  · rintro k d _ hd ⟨s8, s9, rfl⟩
    obtain ⟨hk, rfl⟩ := down_get hd
    obtain ⟨x, ex, ef⟩ := fill_next long k h L (by omega)
    have hfl := fill_len long k h L
    have hx : x ≤ long := fill_le k h L lo x (List.mem_of_getElem? ex)
    rw [show ((h.length : Int) - 1 + (k : Int) * (-1)) = ((h.length - 1 - k : Nat) : Int) by omega]
    generalize fill long k h L = f at ex hfl ef
    obtain ⟨fl, fr⟩ := f
    have hfl : fl.length = h.length := hfl
    have eg : fl.reverse[h.length - 1 - k]? = some x := by
      rw [← hfl, get_rev _ _ (by omega)]
      exact ex
    refine wg_name ?_
    walk_at "dv"
    refine ⟨_, _, _, rfl, rfl, numD_get eg, ?_⟩
    walk_at "dv"
    rw [show min ((fr : Nat) : Int) ((long : Int) - (x : Int)) = ((min fr (long - x) : Nat) : Int) by omega]
    refine q_augL rfl (we_var rfl ⟨_, _, _, rfl, rfl, numD_get eg, rfl, we_var rfl (op2_ip ⟨_, _, rfl, ix_nat (by unfold numD; rw [List.length_map, List.length_reverse]; omega), ?_⟩)⟩)
    rw [← Int.natCast_add, numD_set, show fl.reverse.set (h.length - 1 - k) (x + min fr (long - x)) = (fl.set k (x + min fr (long - x))).reverse from by rw [← hfl, set_rev _ _ _ (by omega)]]
    walk_at "dv"
    rw [show ((fr : Int) - ((min fr (long - x) : Nat) : Int)) = ((fr - min fr (long - x) : Nat) : Int) by omega]
    exact ⟨_, _, by rw [ef]⟩
  · rintro _ ⟨s8, s9, rfl⟩
    rw [down_len]
    walk_at "dv"
    rw [show decide ((0 : Int) < (((fill long gap h L).2 : Nat) : Int)) = decide (0 < (fill long gap h L).2) from decide_eq_decide.mpr (by omega)]
    by_cases c2 : 0 < (fill long gap h L).2
    · rw [decide_eq_true c2]
      rw [if_pos c2] at hst
      walk_at "dv"
      exact ⟨_, _, rfl, pl_num _, q1 hst _⟩
    · rw [decide_eq_false c2]
      rw [if_neg c2] at hst
      walk_at "dv"
      exact ⟨_, _, rfl, pl_num _, q2 _ _ hst⟩
end

section
variable {P : Program} {w : World} {K : PySem.W.Frag} {mg : Str → Option Value} {base : Heap}
theorem run_get {long gap ink : Nat} {g cs : List Nat} {cost i c : Nat} (h : cs[i]? = some c) : runG long gap ink g (cs.drop i) cost = (stepG long gap ink g c).bind fun x => runG long gap ink x.2 (cs.drop (i + 1)) (cost + x.1) := by
  have hi := (List.getElem?_eq_some_iff.mp h).1
  rw [List.drop_eq_getElem_cons hi, (List.getElem?_eq_some_iff.mp h).2, run_cons]
def pre_filled_part (ds : List PyData) (φ : PyData → Prop) : Prop := ∃ (ls : List (Nat × Nat)) (long gap ink : Nat), ds = [linesD ls, .int (long : Int), .tuple [.int (gap : Int), .int (ink : Int)]] ∧ ls.length ≤ 400 ∧ 0 < gap ∧ gap ≤ 12 ∧ (∀ p ∈ ls, p.1 + p.2 ≤ long) ∧
  (runG long gap ink [] (ls.map cnt) 0 = none → φ .none) ∧ (∀ k g, runG long gap ink [] (ls.map cnt) 0 = some (k, g) → φ (.tuple [.int (k : Int), .list (numD g.reverse)]))
theorem len_filled_part : ∀ ds φ, pre_filled_part ds φ → ds.length = 3 := by rintro _ φ ⟨ls, long, gap, ink, rfl, _⟩; rfl
theorem ok_filled_part (T : Txt P K mg) : FnG P w K mg base CX0 2 T.a_filled_part T.d_filled_part ["lines", "long", "measure"] (SpD pre_filled_part) := by
  refine FnG.ok0 T.F_filled_part sc_filled_part (sp_len len_filled_part) (fun cdv A outer s H vs Q E hr hg h => ?_)
  refine ⟨_, (pss_cons (ps_par (i := 3) (j := 4) rfl sc_filled_part.nd rfl rfl (by decide) rfl rfl (pa_cons (pe_lst pa_nil) (pa_cons pe_int pa_nil)) (by rfl))
      (pss_cons (ps_for PassesOwn.never rfl (k_plist (K := K) rfl (pv 0)) (pg_name (i := 5) sc_filled_part.nd rfl (by first | exact Or.inl rfl | exact Or.inr rfl)) (pss_cons (ps_set (i := 6) sc_filled_part.nd rfl (by first | exact Or.inl rfl | exact Or.inr rfl) (pe_cg (ok_with_line (P := P) (w := w) (base := base) T) (by exact hr.mono (by first | decide | omega)) (by exact hg) (by rfl) T.g_with_line T.F_with_line.kp (b_with_line T.F_with_line) .nil pass0 (pa_cons (pv 3) (pa_cons (pv 5) (pa_cons (pv 1) (pa_cons (pv 2) pa_nil))))))
      (pss_cons (ps_if (pt_cmpR op_isN' (pv 6) pe_non (nomark _)) (pss_one (ps_ret pe_non)) pss_nil)
      (pss_one (ps_aug (i := 4) sc_filled_part.nd rfl (by first | exact Or.inl rfl | exact Or.inr rfl) (pv 6) ip_add)))))
      (pss_one (ps_ret (pe_tup (pa_cons (pv 4) (pa_cons (pv 3) pa_nil))))))), fn_pure (by decide) len_filled_part (fun F G0 ds φ hp => ?_) h⟩
  obtain ⟨ls, long, gap, ink, rfl, hll, h0, h12, hls, q1, q2⟩ := hp
  refine q_seq (q_parN (wn_lst (wa_nil (len_ok (by simp) (we_int ?_)))))
  intro lp
  refine q_seq (q_for (js := [5]) (wi_list ?_))
  walk_at "dv"
  refine ⟨fun i ρ => ∃ (g : List Nat) (cost : Nat) (s5 s6 : Slot), runG long gap ink g ((ls.map cnt).drop i) cost = runG long gap ink [] (ls.map cnt) 0 ∧ g.length = i ∧ (∀ x ∈ g, x ≤ long) ∧ ρ = [.val (.list (ls.map pairD)), .val (.int (long : Int)), .val (.tuple [.int (gap : Int), .int (ink : Int)]), .res (lst lp (numD g.reverse)), .val (.int (cost : Int)), s5, s6], ⟨[], 0, _, _, rfl, rfl, (fun x hx => nomatch hx), rfl⟩, ?_, ?_⟩
  · rintro i d _ hd ⟨g, cost, s5, s6, hrun, hgl, hlo, rfl⟩
    have hi : i < ls.length := by
      have := (List.getElem?_eq_some_iff.mp hd).1
      rw [List.length_map] at this
      exact this
    obtain rfl : pairD ls[i] = d := by
      rw [List.getElem?_map, List.getElem?_eq_getElem hi] at hd
      exact Option.some.inj hd
    have hmem := List.getElem_mem hi
    have hc : (ls.map cnt)[i]? = some (cnt ls[i]) := by rw [List.getElem?_map, List.getElem?_eq_getElem hi]; rfl
    generalize ls[i] = p0 at hmem hc
    rw [run_get hc] at hrun
    refine wg_name ?_
    rw [show (lst lp (numD g.reverse)) = lstP lp (PL (encN g.reverse)) from lst_PL lp g.reverse]
    refine q_seq (q_set (we_callZ rfl ?_))
    walk_at "dv"
    refine ⟨g, p0, long, gap, ink, rfl, rfl, by omega, h0, h12, hlo, hls p0 hmem, fun e n' => ?_, fun m g' e => ?_⟩
    · rw [e] at hrun
      walk_at "dv"
      exact q1 hrun.symm
    · rw [e] at hrun
      have lo2 := step_low (hls p0 hmem : cnt p0 ≤ long) hlo e
      have gl2 := step_len e
      rw [← lst_PL]
      walk_at "dv"
      exact ⟨g', cost + m, _, _, hrun, by omega, lo2, rfl⟩
  · rintro _ ⟨g, cost, s5, s6, hrun, hgl, hlo, rfl⟩
    rw [List.length_map] at hrun hgl
    rw [List.drop_of_length_le (by rw [List.length_map]; exact Nat.le_refl _)] at hrun
    refine q_ret (we_tup (wa_cons (we_var rfl (wa_cons (we_varR rfl (wa_nil (len_ok (by simp) ?_)))))))
    exact q2 cost g hrun.symm
end

section
variable {P : Program} {w : World} {K : PySem.W.Frag} {mg : Str → Option Value} {base : Heap}
theorem isWh_in {a lo hi : Int} (h1 : lo ≤ a) (h2 : a ≤ hi) : isWh a lo (some hi) = true := by
  show (decide _ && decide _) = true
  rw [decide_eq_true h1, decide_eq_true h2]
  rfl
theorem no_wh {a lo : Int} {mo : Option Int} {C : Prop} (h1 : isWh a lo mo = true) (h2 : isWhD lo mo (.int a) = false) : C := by
  have h2 : isWh a lo mo = false := h2
  rw [h1] at h2
  cases h2
theorem wh_lo {a lo hi : Int} (h : isWh a lo (some hi) = true) : lo ≤ a ∧ a ≤ hi := by
  have h : (decide (lo ≤ a) && decide (a ≤ hi)) = true := h
  rw [Bool.and_eq_true] at h
  exact ⟨of_decide_eq_true h.1, of_decide_eq_true h.2⟩
abbrev measD (gap ink : Nat) : PyData := .tuple [.int (gap : Int), .int (ink : Int)]
theorem line_sum (p : Nat × Nat) : sumD [.int (p.1 : Int), .int (p.2 : Int)] = ((p.1 + p.2 : Nat) : Int) := by
  show (p.1 : Int) + ((p.2 : Int) + 0) = _
  omega
theorem line_is {n : Int} (p : Nat × Nat) : isLine n (pairD p) = decide (((p.1 + p.2 : Nat) : Int) ≤ n) := by
  show (([PyData.int (p.1 : Int), .int (p.2 : Int)].length == 2) && ([PyData.int (p.1 : Int), .int (p.2 : Int)].all natD && decide (sumD [.int (p.1 : Int), .int (p.2 : Int)] ≤ n))) = _
  have e2 : ∀ k : Nat, natD (.int (k : Int)) = true := fun k => by
    show (decide ((0 : Int) ≤ (k : Int)) && true) = true
    rw [decide_eq_true (by omega)]
    rfl
  rw [line_sum, show ([PyData.int (p.1 : Int), .int (p.2 : Int)].all natD) = true by simp [e2]]
  rfl
theorem lines_low {long : Nat} {ls : List (Nat × Nat)} (h : isLines (long : Int) (.list (ls.map pairD)) = true) : ∀ p ∈ ls, p.1 + p.2 ≤ long := fun p hp => by
  have h : (decide ((ls.map pairD).length ≤ 400) && (ls.map pairD).all (isLine (long : Int))) = true := h
  rw [Bool.and_eq_true, List.all_eq_true] at h
  have h2 := h.2 (pairD p) (List.mem_map.mpr ⟨p, hp, rfl⟩)
  rw [line_is] at h2
  have := of_decide_eq_true h2
  omega
theorem lines_ok {n : Nat} {ls : List (Nat × Nat)} (hl : ls.length ≤ 400) (h : ∀ p ∈ ls, p.1 + p.2 ≤ n) : isLines n (.list (ls.map pairD)) = true := by
  show (decide ((ls.map pairD).length ≤ 400) && (ls.map pairD).all (isLine n)) = true
  rw [List.length_map, decide_eq_true hl, Bool.true_and, List.all_eq_true]
  intro d hd
  obtain ⟨p, hp, rfl⟩ := List.mem_map.mp hd
  rw [line_is]
  have := h p hp
  exact decide_eq_true (by omega)
theorem meas_of {m : PyData} (h : isMeas m = true) : ∃ gap ink : Nat, m = measD gap ink ∧ 1 ≤ gap ∧ gap ≤ 12 ∧ 1 ≤ ink ∧ ink ≤ 50 := by
  cases m with
  | tuple es =>
    match es, h with
    | [a, b], h =>
      have h : (isWhD 1 (some 12) a && isWhD 1 (some 50) b) = true := h
      rw [Bool.and_eq_true] at h
      cases a with
      | int i =>
        cases b with
        | int j =>
          obtain ⟨h1, h2⟩ := wh_lo (h.1 : isWh i 1 (some 12) = true)
          obtain ⟨h3, h4⟩ := wh_lo (h.2 : isWh j 1 (some 50) = true)
          refine ⟨i.toNat, j.toNat, ?_, by omega, by omega, by omega, by omega⟩
          show _ = PyData.tuple [.int ((i.toNat : Nat) : Int), .int ((j.toNat : Nat) : Int)]
          rw [Int.toNat_of_nonneg (by omega), Int.toNat_of_nonneg (by omega)]
        | _ => cases h.2
      | _ => cases h.1
  | _ => cases h
theorem meas_ok {gap ink : Nat} (h1 : 1 ≤ gap) (h2 : gap ≤ 12) (h3 : 1 ≤ ink) (h4 : ink ≤ 50) : isMeas (measD gap ink) = true := by
  show (isWh (gap : Int) 1 (some 12) && isWh (ink : Int) 1 (some 50)) = true
  rw [isWh_in (by omega) (by omega), isWh_in (by omega) (by omega)]
  rfl
theorem good_of {many gap : Nat} : ∀ {ds : List PyData} {free : Nat}, partsOk (many : Int) (gap : Int) (free : Int) ds = true → ∃ ps : List (Nat × Nat), ds = ps.map pairD ∧ GoodP many gap free ps
  | [], _, _ => ⟨[], rfl, trivial⟩
  | d :: ds, free, h => by
    cases d with
    | tuple es =>
      by_cases hl : es.length ≠ 2 ∨ es.all natD = false
      · rw [head_tup hl] at h
        cases h
      · obtain ⟨a, b, rfl, ha, hb⟩ := two_nats (es := es) (Decidable.not_not.mp fun z => hl (.inl z)) (by
          cases q : es.all natD with
          | true => rfl
          | false => exact absurd (.inr q) hl)
        have h : ((decide (0 ≤ a) && decide (0 ≤ b)) && (!(decide (a < (free : Int)) || (decide (b - a < (gap : Int)) || decide ((many : Int) < b))) && partsOk (many : Int) (gap : Int) (b + (gap : Int)) ds)) = true := h
        rw [Bool.and_eq_true, Bool.and_eq_true, Bool.and_eq_true, Bool.not_eq_true', Bool.or_eq_false_iff, Bool.or_eq_false_iff] at h
        obtain ⟨_, ⟨c1, c2, c3⟩, c4⟩ := h
        have c1 := of_decide_eq_false c1
        have c2 := of_decide_eq_false c2
        have c3 := of_decide_eq_false c3
        have eb : b + (gap : Int) = ((b.toNat + gap : Nat) : Int) := by omega
        rw [eb] at c4
        obtain ⟨ps, rfl, g⟩ := good_of c4
        refine ⟨(a.toNat, b.toNat) :: ps, ?_, by omega, by omega, by omega, g⟩
        rw [List.map_cons]
        show PyData.tuple [.int a, .int b] :: _ = PyData.tuple [.int ((a.toNat : Nat) : Int), .int ((b.toNat : Nat) : Int)] :: _
        rw [Int.toNat_of_nonneg ha, Int.toNat_of_nonneg hb]
    | _ => cases h
theorem good_ok {many gap : Nat} : ∀ {ps : List (Nat × Nat)} {free : Nat}, GoodP many gap free ps → partsOk (many : Int) (gap : Int) (free : Int) (ps.map pairD) = true
  | [], _, _ => rfl
  | (s, e) :: ps, free, g => by
    obtain ⟨g1, g2, g3, g4⟩ := g
    show ((decide (0 ≤ (s : Int)) && decide (0 ≤ (e : Int))) && (!(decide ((s : Int) < (free : Int)) || (decide ((e : Int) - (s : Int) < (gap : Int)) || decide ((many : Int) < (e : Int)))) && partsOk (many : Int) (gap : Int) ((e : Int) + (gap : Int)) (ps.map pairD))) = true
    rw [decide_eq_true (show (0 : Int) ≤ (s : Int) by omega), decide_eq_true (show (0 : Int) ≤ (e : Int) by omega), decide_eq_false (show ¬ (s : Int) < (free : Int) by omega), decide_eq_false (show ¬ (e : Int) - (s : Int) < (gap : Int) by omega), decide_eq_false (show ¬ (many : Int) < (e : Int) by omega),
      show (e : Int) + (gap : Int) = ((e + gap : Nat) : Int) by omega, good_ok g4]
    rfl
theorem parts_of {many gap : Nat} {v : PyData} (h : isParts (many : Int) (gap : Int) v = true) : ∃ ps : List (Nat × Nat), v = .list (ps.map pairD) ∧ GoodP many gap 0 ps := by
  cases v with
  | list ds =>
    obtain ⟨ps, rfl, g⟩ := good_of (free := 0) h
    exact ⟨ps, rfl, g⟩
  | _ => cases h
theorem parts_ok {many gap : Nat} {ps : List (Nat × Nat)} (h : GoodP many gap 0 ps) : isParts (many : Int) (gap : Int) (.list (ps.map pairD)) = true := good_ok (free := 0) h
theorem run_len {long gap ink : Nat} : ∀ {cs g : List Nat} {cost k : Nat} {g' : List Nat}, runG long gap ink g cs cost = some (k, g') → g'.length = g.length + cs.length
  | [], g, cost, k, g', h => by
    injection h with h
    injection h with h1 h2
    rw [← h2]
    rfl
  | c :: cs, g, cost, k, g', h => by
    rw [run_cons] at h
    cases e : stepG long gap ink g c with
    | none => rw [e] at h; cases h
    | some x =>
      rw [e] at h
      have := run_len (show runG long gap ink x.2 cs (cost + x.1) = some (k, g') from h)
      have := step_len (show stepG long gap ink g c = some (x.1, x.2) from e)
      rw [List.length_cons]
      omega
theorem fill_cons {long gap ink : Nat} {ls : List (Nat × Nat)} {free s e cost : Nat} {ps : List (Nat × Nat)} {F : List Nat} : fillP long gap ink ls free ((s, e) :: ps) cost F = (runG long gap ink [] ((seg ls s e).map cnt) 0).bind fun x => fillP long gap ink ls e ps (cost + (x.1 + inkSum (seg ls free s))) (F ++ List.replicate (s - free) 0 ++ x.2.reverse) := by
  rw [fillP]
  cases runG long gap ink [] ((seg ls s e).map cnt) 0 <;> rfl
theorem cut_map {α β : Type} (f : α → β) (ls : List α) (s e : Nat) : cutD (ls.map f) (some (s : Int)) (some (e : Int)) = (seg ls s e).map f := by
  rw [cut_seg]
  unfold seg
  rw [List.map_take, List.map_drop]
theorem ink_cast (ls : List (Nat × Nat)) : (ls.map fun p => (p.1 : Int)).sum = ((inkSum ls : Nat) : Int) := by
  unfold inkSum
  rw [← cast_sum, List.map_map]
  rfl
theorem rep_zero (n : Nat) : (List.replicate n [PyData.int 0]).flatten = numD (List.replicate n 0) := by
  induction n with
  | zero => rfl
  | succ n ih =>
    rw [List.replicate_succ, List.flatten_cons, ih]
    rfl
theorem nl_nums (l : List Nat) : nlA (numD l) = true := by
  induction l with
  | nil => rfl
  | cons a l ih => exact ih
def goodLf (ls : List (Nat × Nat)) (long gap ink : Nat) (ps : List (Nat × Nat)) (φ : PyData → Prop) : Prop := (fillP long gap ink ls 0 ps 0 [] = none → φ .none) ∧ (∀ (k : Nat) (F : List Nat), fillP long gap ink ls 0 ps 0 [] = some (k, F) → φ (.tuple [.int (k : Int), .list (numD F)]))
def pre_least_filling (ds : List PyData) (φ : PyData → Prop) (ψ : String → PyData → Prop) : Prop := ∃ v l m q : PyData, ds = [v, l, m, q] ∧ (isWhD 0 (some 400) l = false → ψ "InvalidNumber" l) ∧
  (∀ long : Nat, l = .int (long : Int) → long ≤ 400 → (isLines (long : Int) v = false → ψ "InvalidList" v) ∧ (isLines (long : Int) v = true → (isMeas m = false → ψ "InvalidLayout" m) ∧
    ∀ (ls : List (Nat × Nat)) (gap ink : Nat), v = .list (ls.map pairD) → m = measD gap ink → isMeas m = true → (isParts (ls.length : Int) (gap : Int) q = false → ψ "InvalidList" q) ∧
      ∀ ps : List (Nat × Nat), q = .list (ps.map pairD) → GoodP ls.length gap 0 ps → goodLf ls long gap ink ps φ))
theorem len_least_filling : ∀ ds φ ψ, pre_least_filling ds φ ψ → ds.length = 4 := by rintro _ φ ψ ⟨v, l, m, q, rfl, _⟩; rfl
theorem ok_least_filling (T : Txt P K mg) : FnG P w K mg base (L2.CX P w) 6 T.a_least_filling T.d_least_filling ["lines", "long", "measure", "parting"] (SpX T.cA pre_least_filling) := by
  refine FnG.okX T.F_least_filling sc_least_filling (spx_len len_least_filling) (fun cdv A outer s H vs Q E hr hg h => ?_)
  refine ⟨_, (pss_cons (ps_expr (pe_cg (ok_look_at_measured (P := P) (w := w) (base := base) T) (by exact hr.mono (by first | decide | omega)) (by exact hg) (by rfl) T.g_look_at_measured T.F_look_at_measured.kp (b_look_at_measured T.F_look_at_measured) .nil (passes_call (takes_of rfl rfl rfl rfl) fun _ _ _ _ z => z) (pa_cons (pv 0) (pa_cons (pv 1) (pa_cons (pv 2) pa_nil)))))
      (pss_cons (ps_if (pt_not (k_tru (K := K) rfl (pe_cg (ok_is_parts (P := P) (w := w) (base := base) T) (by exact hr.mono (by first | decide | omega)) (by exact hg) (by rfl) T.g_is_parts T.F_is_parts.kp (b_is_parts T.F_is_parts) .nil pass0 (pa_cons (pe_callB (k_len (K := K) rfl) (by rfl) T.z_len (by decide +kernel) (pa_cons (pv 0) pa_nil)) (pa_cons (pe_ix (k_ix (K := K) rfl) (pv 2) pe_int (fun _ _ => rfl)) (pa_cons (pv 3) pa_nil)))) (by intro _; rfl))) (pss_one (ps_raiseV T.X_InvalidList rfl (takes_of rfl rfl rfl rfl) (by exact hr.mono (by first | decide | omega)) (by rfl) (pa_cons (pv 3) pa_nil))) pss_nil)
      (pss_cons (ps_par3 (i := 4) (j := 5) (l := 6) rfl sc_least_filling.nd rfl rfl rfl (by decide) (by decide) (by decide) rfl rfl rfl (pa_cons pe_int (pa_cons (pe_lst pa_nil) (pa_cons pe_int pa_nil))) (by rfl))
      (pss_cons (ps_for (passes_of rfl) rfl (k_plist (K := K) rfl (pv 3)) (k_tup (K := K) (n := 2) rfl rfl (pgs_cons (pg_name (i := 7) sc_least_filling.nd rfl (by first | exact Or.inl rfl | exact Or.inr rfl)) (pgs_cons (pg_name (i := 8) sc_least_filling.nd rfl (by first | exact Or.inl rfl | exact Or.inr rfl)) pgs_nil))) (pss_cons (ps_set (i := 9) sc_least_filling.nd rfl (by first | exact Or.inl rfl | exact Or.inr rfl) (pe_cg (ok_filled_part (P := P) (w := w) (base := base) T) (by exact hr.mono (by first | decide | omega)) (by exact hg) (by rfl) T.g_filled_part T.F_filled_part.kp (b_filled_part T.F_filled_part) .nil pass0 (pa_cons (pe_slice (k_sl (K := K) rfl) (pv 0) (po_some (pv 7)) (po_some (pv 8))) (pa_cons (pv 1) (pa_cons (pv 2) pa_nil)))))
      (pss_cons (ps_if (pt_cmpR op_isN' (pv 9) pe_non (nomark _)) (pss_one (ps_ret pe_non)) pss_nil)
      (pss_cons (ps_aug (i := 4) sc_least_filling.nd rfl (by first | exact Or.inl rfl | exact Or.inr rfl) (pe_op (k_add (K := K) rfl) (pe_ix (k_ix (K := K) rfl) (pv 9) pe_int (fun _ _ => rfl)) (pe_callB (k_sum (K := K) rfl rfl) (by rfl) T.z_sum (by decide +kernel) (pa_cons (pe_lc (own := [("line", 10)]) rfl sc_least_filling.nd (k_plist (K := K) rfl (pe_slice (k_sl (K := K) rfl) (pv 0) (po_some (pv 6)) (po_some (pv 7)))) (blkOk_by (own := [("line", 10)]) (N := nm_least_filling) (by rfl)) (fun _ _ _ _ _ => (pg_name (i := 10) sc_least_filling.nd rfl (by first | exact Or.inl rfl | exact Or.inr rfl))) (fun _ _ _ _ _ => pts_nil) (fun _ _ _ _ _ => (pe_ix (k_ix (K := K) rfl) (pv 10) pe_int (fun _ _ => rfl)))) pa_nil))) ip_add)
      (pss_cons (ps_expr (k_extend (K := K) rfl (pv 5) (pa_cons (pe_op op_mulU (pe_lst (pa_cons pe_int pa_nil)) (pe_op op_sub (pv 7) (pv 6))) pa_nil)))
      (pss_cons (ps_expr (k_extend (K := K) rfl (pv 5) (pa_cons (pe_ix (k_ix (K := K) rfl) (pv 9) pe_int (fun _ _ => rfl)) pa_nil)))
      (pss_one (ps_set (i := 6) sc_least_filling.nd rfl (by first | exact Or.inl rfl | exact Or.inr rfl) (pv 8)))))))))
      (pss_cons (ps_aug (i := 4) sc_least_filling.nd rfl (by first | exact Or.inl rfl | exact Or.inr rfl) (pe_callB (k_sum (K := K) rfl rfl) (by rfl) T.z_sum (by decide +kernel) (pa_cons (pe_lc (own := [("line", 10)]) rfl sc_least_filling.nd (k_plist (K := K) rfl (pe_slice (k_sl (K := K) rfl) (pv 0) (po_some (pv 6)) po_none)) (blkOk_by (own := [("line", 10)]) (N := nm_least_filling) (by rfl)) (fun _ _ _ _ _ => (pg_name (i := 10) sc_least_filling.nd rfl (by first | exact Or.inl rfl | exact Or.inr rfl))) (fun _ _ _ _ _ => pts_nil) (fun _ _ _ _ _ => (pe_ix (k_ix (K := K) rfl) (pv 10) pe_int (fun _ _ => rfl)))) pa_nil)) ip_add)
      (pss_one (ps_ret (pe_tup (pa_cons (pv 4) (pa_cons (pe_op (k_add (K := K) rfl) (pv 5) (pe_op op_mulU (pe_lst (pa_cons pe_int pa_nil)) (pe_op op_sub (pe_callB (k_len (K := K) rfl) (by rfl) T.z_len (by decide +kernel) (pa_cons (pv 0) pa_nil)) (pv 6)))) pa_nil)))))))))), fn_x (by decide) len_least_filling (fun F G0 ds φ ψ hp hE => ?_) h⟩
  obtain ⟨v, l, m, q, rfl, p1, p2⟩ := hp
  refine q_seq (q_dropX hE ?_)
  walk_at "dv"
  refine ⟨v, l, m, rfl, p1, fun n hn h1 => ?_⟩
  obtain ⟨n1, n2⟩ := wh_lo h1
  obtain ⟨long, rfl⟩ : ∃ long : Nat, n = (long : Int) := ⟨n.toNat, by omega⟩
  obtain ⟨p3, p4⟩ := p2 long hn (by omega)
  refine ⟨p3, fun h2 => ?_⟩
  obtain ⟨p5, p6⟩ := p4 h2
  refine ⟨p5, fun h3 => ?_⟩
  subst hn
  obtain ⟨ls, rfl, hll⟩ := lines_of_is h2
  obtain ⟨gap, ink, rfl, m1, m2, m3, m4⟩ := meas_of h3
  obtain ⟨p7, p8⟩ := p6 ls gap ink rfl rfl h3
  have hls := lines_low h2
  walk_at "dv"
  refine op2_ixT atI_zero ?_
  walk_at "dv"
  rw [List.length_map]
  refine ⟨_, _, _, rfl, ?_⟩
  cases h4 : isParts (ls.length : Int) (gap : Int) q with
  | false =>
    walk_at "dv"
    refine q_raise "InvalidList" hE (by simp [Txt.cA]) ?_
    walk_at "dv"
    exact p7 h4
  | true =>
    refine tru_b (wt_n rfl (q_nx ?_))
    obtain ⟨ps, rfl, hg⟩ := parts_of h4
    obtain ⟨q1, q2⟩ := p8 ps rfl hg
    clear h1 h2 h3 h4 p1 p2 p3 p4 p5 p6 p7 p8
    refine q_seq (q_par3M (we_int (wn_lst (wa_nil (len_ok (by simp) (we_int ?_))))))
    intro lp
    refine q_seq (q_for (js := [7, 8]) (wi_list ?_))
    walk_at "dv"
    refine ⟨fun i ρ => ∃ (free fr2 cost : Nat) (F : List Nat) (s7 s8 s9 : Slot), fillP long gap ink ls free (ps.drop i) cost F = fillP long gap ink ls 0 ps 0 [] ∧ GoodP ls.length gap fr2 (ps.drop i) ∧ free ≤ fr2 ∧ free ≤ ls.length ∧ F.length = free ∧ ρ = [.val (.list (ls.map pairD)), .val (.int (long : Int)), .val (measD gap ink), .val (.list (ps.map pairD)), .val (.int (cost : Int)), .res (lst lp (numD F)), .val (.int (free : Int)), s7, s8, s9, .any], ⟨0, 0, 0, [], _, _, _, rfl, hg, Nat.le_refl _, Nat.zero_le _, rfl, rfl⟩, ?_, ?_⟩
    · rintro i d _ hd ⟨free, fr2, cost, F, s7, s8, s9, hrun, hgd, hf2, hfl, hFl, rfl⟩
      have hi : i < ps.length := by
        have := (List.getElem?_eq_some_iff.mp hd).1
        rw [List.length_map] at this
        exact this
      obtain rfl : pairD ps[i] = d := by
        rw [List.getElem?_map, List.getElem?_eq_getElem hi] at hd
        exact Option.some.inj hd
      rw [List.drop_eq_getElem_cons hi] at hrun hgd
      generalize ps[i] = se at hrun hgd
      obtain ⟨s, e⟩ := se
      obtain ⟨g1, g2, g3, g4⟩ := hgd
      rw [fill_cons] at hrun
      refine wg_tup rfl (wgs_cons (wg_name (wgs_cons (wg_name (wgs_nil ?_)))))
      show Ws _ _ _ [.val (.list (ls.map pairD)), .val (.int (long : Int)), .val (measD gap ink), .val (.list (ps.map pairD)), .val (.int (cost : Int)), .res (lst lp (numD F)), .val (.int (free : Int)), .val (.int (s : Int)), .val (.int (e : Int)), s9, .any] _
      walk_at "dv"
      rw [cut_map]
      refine ⟨seg ls s e, long, gap, ink, rfl, by rw [seg_len (by omega) g3]; omega, m1, m2, fun p hp => hls p (seg_mem hp), fun er => ?_, fun k g er => ?_⟩
      · rw [er] at hrun
        walk_at "dv"
        exact q1 hrun.symm
      · rw [er] at hrun
        have hrun : fillP long gap ink ls e (ps.drop (i + 1)) (cost + (k + inkSum (seg ls free s))) (F ++ List.replicate (s - free) 0 ++ g.reverse) = fillP long gap ink ls 0 ps 0 [] := hrun
        have gl := run_len er
        rw [List.length_nil, List.length_map, seg_len (by omega) g3] at gl
        walk_at "dv"
        refine op2_ixT atI_zero ?_
        walk_at "dv"
        refine we_new (wn_lcM (α := Nat × Nat) (js := [10]) (by decide) (wi_list ?_))
        walk_at "dv"
        rw [cut_map]
        refine ⟨seg ls free s, fun p => .tuple [.int (p.1 : Int), .int (p.2 : Int)], rfl, by rw [seg_len (by omega) (by omega)]; omega, rfl, fun p => .int (p.1 : Int), fun p hp => ?_, ?_⟩
        · refine wg_name ⟨rfl, ?_⟩
          walk_at "dv"
          exact op2_ixT atI_zero ⟨rfl, rfl⟩
        walk_at "dv"
        refine (opc_sumM (f := fun p : Nat × Nat => (p.1 : Int)) ?_).op
        rw [ink_cast]
        walk_at "dv"
        rw [show (cost : Int) + ((k : Int) + ((inkSum (seg ls free s) : Nat) : Int)) = ((cost + (k + inkSum (seg ls free s)) : Nat) : Int) by omega]
        refine q_ext rfl ?_
        walk_at "dv"
        refine op2_mulLs (by omega) (by omega) (by show 1 * _ ≤ _; omega) ?_
        rw [rep_zero, show ((s : Int) - (free : Int)).toNat = s - free by omega]
        refine ⟨_, _, rfl, rfl, by unfold numD; rw [List.length_map, List.length_map, List.length_replicate]; omega, ?_⟩
        rw [← List.map_append]
        refine q_seq (q_ext rfl ?_)
        walk_at "dv"
        refine op2_ixT (d := .list (numD g.reverse)) rfl ?_
        refine ⟨_, _, rfl, rfl, by unfold numD; rw [List.length_map, List.length_map, List.length_append, List.length_replicate, List.length_reverse]; omega, ?_⟩
        rw [← List.map_append]
        walk_at "dv"
        exact ⟨e, e + gap, _, _, _, _, _, hrun, g4, by omega, g3, by rw [List.length_append, List.length_append, List.length_replicate, List.length_reverse]; omega, rfl⟩
    rintro _ ⟨free, fr2, cost, F, s7, s8, s9, hrun, hgd, hf2, hfl, hFl, rfl⟩
    rw [List.length_map, List.drop_of_length_le (Nat.le_refl _)] at hrun
    clear hgd
    walk_at "dv"
    refine we_new (wn_lcM (α := Nat × Nat) (js := [10]) (by decide) (wi_list ?_))
    walk_at "dv"
    rw [cut_from, ← List.map_drop]
    refine ⟨ls.drop free, fun p => .tuple [.int (p.1 : Int), .int (p.2 : Int)], rfl, by rw [List.length_drop]; omega, rfl, fun p => .int (p.1 : Int), fun p hp => ?_, ?_⟩
    · refine wg_name ⟨rfl, ?_⟩
      walk_at "dv"
      exact op2_ixT atI_zero ⟨rfl, rfl⟩
    walk_at "dv"
    refine (opc_sumM (f := fun p : Nat × Nat => (p.1 : Int)) ?_).op
    rw [ink_cast]
    walk_at "dv"
    rw [show (cost : Int) + ((inkSum (ls.drop free) : Nat) : Int) = ((cost + inkSum (ls.drop free) : Nat) : Int) by omega]
    refine we_varR rfl ?_
    walk_at "dv"
    rw [List.length_map]
    refine op2_mulLs (by omega) (by omega) (by show 1 * _ ≤ _; omega) ?_
    rw [rep_zero, show ((ls.length : Int) - (free : Int)).toNat = ls.length - free by omega]
    refine op2_addL (by unfold numD; rw [List.length_map, List.length_map, List.length_replicate]; omega) ?_
    rw [← List.map_append]
    walk_at "dv"
    exact q2 _ _ hrun.symm
def pre2_least_filling (ds : List PyData) (φ : PyData → Prop) : Prop := ∃ (ls : List (Nat × Nat)) (long gap ink : Nat) (ps : List (Nat × Nat)), ds = [.list (ls.map pairD), .int (long : Int), measD gap ink, .list (ps.map pairD)] ∧ ls.length ≤ 400 ∧ (∀ p ∈ ls, p.1 + p.2 ≤ long) ∧ long ≤ 400 ∧ 1 ≤ gap ∧ gap ≤ 12 ∧ 1 ≤ ink ∧ ink ≤ 50 ∧ GoodP ls.length gap 0 ps ∧ goodLf ls long gap ink ps φ
theorem len2_least_filling : ∀ ds φ, pre2_least_filling ds φ → ds.length = 4 := by rintro _ φ ⟨ls, long, gap, ink, ps, rfl, _⟩; rfl
theorem meas_good {ls : List (Nat × Nat)} {long gap ink : Nat} (hll : ls.length ≤ 400) (hls : ∀ p ∈ ls, p.1 + p.2 ≤ long) (hlong : long ≤ 400) (m1 : 1 ≤ gap) (m2 : gap ≤ 12) (m3 : 1 ≤ ink) (m4 : ink ≤ 50) {φ : PyData → Prop} {ψ : String → PyData → Prop} (q : φ .none) : pre_look_at_measured [.list (ls.map pairD), .int (long : Int), measD gap ink] φ ψ := by
  have ip : isWh (long : Int) 0 (some 400) = true := isWh_in (by omega) (by omega)
  refine ⟨_, _, _, rfl, fun h => no_wh ip h, fun n en _ => ?_⟩
  injection en with en
  subst en
  exact ⟨fun h => (by rw [lines_ok hll hls] at h; cases h), fun _ => ⟨fun h => (by rw [meas_ok m1 m2 m3 m4] at h; cases h), fun _ => q⟩⟩
theorem ok2_least_filling (T : Txt P K mg) : FnG P w K mg base (L2.CX P w) 6 T.a_least_filling T.d_least_filling ["lines", "long", "measure", "parting"] (SpO pre2_least_filling) := by
  refine FnG.okX T.F_least_filling sc_least_filling (spo_len len2_least_filling) (fun cdv A outer s H vs Q E hr hg h => ?_)
  refine ⟨_, (pss_cons (ps_expr (pe_cg (ok_look_at_measured (P := P) (w := w) (base := base) T) (by exact hr.mono (by first | decide | omega)) (by exact hg) (by rfl) T.g_look_at_measured T.F_look_at_measured.kp (b_look_at_measured T.F_look_at_measured) .nil (passes_call (takes_of rfl rfl rfl rfl) fun _ _ _ _ z => z) (pa_cons (pv 0) (pa_cons (pv 1) (pa_cons (pv 2) pa_nil)))))
      (pss_cons (ps_if (pt_not (k_tru (K := K) rfl (pe_cg (ok_is_parts (P := P) (w := w) (base := base) T) (by exact hr.mono (by first | decide | omega)) (by exact hg) (by rfl) T.g_is_parts T.F_is_parts.kp (b_is_parts T.F_is_parts) .nil pass0 (pa_cons (pe_callB (k_len (K := K) rfl) (by rfl) T.z_len (by decide +kernel) (pa_cons (pv 0) pa_nil)) (pa_cons (pe_ix (k_ix (K := K) rfl) (pv 2) pe_int (fun _ _ => rfl)) (pa_cons (pv 3) pa_nil)))) (by intro _; rfl))) (pss_one (ps_raiseV T.X_InvalidList rfl (takes_of rfl rfl rfl rfl) (by exact hr.mono (by first | decide | omega)) (by rfl) (pa_cons (pv 3) pa_nil))) pss_nil)
      (pss_cons (ps_par3 (i := 4) (j := 5) (l := 6) rfl sc_least_filling.nd rfl rfl rfl (by decide) (by decide) (by decide) rfl rfl rfl (pa_cons pe_int (pa_cons (pe_lst pa_nil) (pa_cons pe_int pa_nil))) (by rfl))
      (pss_cons (ps_for (passes_of rfl) rfl (k_plist (K := K) rfl (pv 3)) (k_tup (K := K) (n := 2) rfl rfl (pgs_cons (pg_name (i := 7) sc_least_filling.nd rfl (by first | exact Or.inl rfl | exact Or.inr rfl)) (pgs_cons (pg_name (i := 8) sc_least_filling.nd rfl (by first | exact Or.inl rfl | exact Or.inr rfl)) pgs_nil))) (pss_cons (ps_set (i := 9) sc_least_filling.nd rfl (by first | exact Or.inl rfl | exact Or.inr rfl) (pe_cg (ok_filled_part (P := P) (w := w) (base := base) T) (by exact hr.mono (by first | decide | omega)) (by exact hg) (by rfl) T.g_filled_part T.F_filled_part.kp (b_filled_part T.F_filled_part) .nil pass0 (pa_cons (pe_slice (k_sl (K := K) rfl) (pv 0) (po_some (pv 7)) (po_some (pv 8))) (pa_cons (pv 1) (pa_cons (pv 2) pa_nil)))))
      (pss_cons (ps_if (pt_cmpR op_isN' (pv 9) pe_non (nomark _)) (pss_one (ps_ret pe_non)) pss_nil)
      (pss_cons (ps_aug (i := 4) sc_least_filling.nd rfl (by first | exact Or.inl rfl | exact Or.inr rfl) (pe_op (k_add (K := K) rfl) (pe_ix (k_ix (K := K) rfl) (pv 9) pe_int (fun _ _ => rfl)) (pe_callB (k_sum (K := K) rfl rfl) (by rfl) T.z_sum (by decide +kernel) (pa_cons (pe_lc (own := [("line", 10)]) rfl sc_least_filling.nd (k_plist (K := K) rfl (pe_slice (k_sl (K := K) rfl) (pv 0) (po_some (pv 6)) (po_some (pv 7)))) (blkOk_by (own := [("line", 10)]) (N := nm_least_filling) (by rfl)) (fun _ _ _ _ _ => (pg_name (i := 10) sc_least_filling.nd rfl (by first | exact Or.inl rfl | exact Or.inr rfl))) (fun _ _ _ _ _ => pts_nil) (fun _ _ _ _ _ => (pe_ix (k_ix (K := K) rfl) (pv 10) pe_int (fun _ _ => rfl)))) pa_nil))) ip_add)
      (pss_cons (ps_expr (k_extend (K := K) rfl (pv 5) (pa_cons (pe_op op_mulU (pe_lst (pa_cons pe_int pa_nil)) (pe_op op_sub (pv 7) (pv 6))) pa_nil)))
      (pss_cons (ps_expr (k_extend (K := K) rfl (pv 5) (pa_cons (pe_ix (k_ix (K := K) rfl) (pv 9) pe_int (fun _ _ => rfl)) pa_nil)))
      (pss_one (ps_set (i := 6) sc_least_filling.nd rfl (by first | exact Or.inl rfl | exact Or.inr rfl) (pv 8)))))))))
      (pss_cons (ps_aug (i := 4) sc_least_filling.nd rfl (by first | exact Or.inl rfl | exact Or.inr rfl) (pe_callB (k_sum (K := K) rfl rfl) (by rfl) T.z_sum (by decide +kernel) (pa_cons (pe_lc (own := [("line", 10)]) rfl sc_least_filling.nd (k_plist (K := K) rfl (pe_slice (k_sl (K := K) rfl) (pv 0) (po_some (pv 6)) po_none)) (blkOk_by (own := [("line", 10)]) (N := nm_least_filling) (by rfl)) (fun _ _ _ _ _ => (pg_name (i := 10) sc_least_filling.nd rfl (by first | exact Or.inl rfl | exact Or.inr rfl))) (fun _ _ _ _ _ => pts_nil) (fun _ _ _ _ _ => (pe_ix (k_ix (K := K) rfl) (pv 10) pe_int (fun _ _ => rfl)))) pa_nil)) ip_add)
      (pss_one (ps_ret (pe_tup (pa_cons (pv 4) (pa_cons (pe_op (k_add (K := K) rfl) (pv 5) (pe_op op_mulU (pe_lst (pa_cons pe_int pa_nil)) (pe_op op_sub (pe_callB (k_len (K := K) rfl) (by rfl) T.z_len (by decide +kernel) (pa_cons (pv 0) pa_nil)) (pv 6)))) pa_nil)))))))))), fn_own (by decide) len2_least_filling (fun F G0 ds φ hp => ?_) h⟩
  obtain ⟨ls, long, gap, ink, ps, rfl, hll, hls, hlong, m1, m2, m3, m4, hg, q1, q2⟩ := hp
  refine o_seq (q_drop (we_callX ?_))
  walk_at "dv"
  refine meas_good hll hls hlong m1 m2 m3 m4 ?_
  refine o_seq (q_if ?_)
  walk_at "dv"
  refine op2_ixT atI_zero ?_
  walk_at "dv"
  rw [List.length_map]
  refine ⟨_, _, _, rfl, ?_⟩
  rw [parts_ok hg]
  refine tru_b (wt_n rfl (q_nx ?_))
  refine o_seq (q_par3M (we_int (wn_lst (wa_nil (len_ok (by simp) (we_int ?_))))))
  intro lp
  refine o_seq (q_for (js := [7, 8]) (wi_list ?_))
  walk_at "dv"
  refine ⟨fun i ρ => ∃ (free fr2 cost : Nat) (F : List Nat) (s7 s8 s9 : Slot), fillP long gap ink ls free (ps.drop i) cost F = fillP long gap ink ls 0 ps 0 [] ∧ GoodP ls.length gap fr2 (ps.drop i) ∧ free ≤ fr2 ∧ free ≤ ls.length ∧ F.length = free ∧ ρ = [.val (.list (ls.map pairD)), .val (.int (long : Int)), .val (measD gap ink), .val (.list (ps.map pairD)), .val (.int (cost : Int)), .res (lst lp (numD F)), .val (.int (free : Int)), s7, s8, s9, .any], ⟨0, 0, 0, [], _, _, _, rfl, hg, Nat.le_refl _, Nat.zero_le _, rfl, rfl⟩, ?_, ?_⟩
  · rintro i d _ hd ⟨free, fr2, cost, F, s7, s8, s9, hrun, hgd, hf2, hfl, hFl, rfl⟩
    have hi : i < ps.length := by
      have := (List.getElem?_eq_some_iff.mp hd).1
      rw [List.length_map] at this
      exact this
    obtain rfl : pairD ps[i] = d := by
      rw [List.getElem?_map, List.getElem?_eq_getElem hi] at hd
      exact Option.some.inj hd
    rw [List.drop_eq_getElem_cons hi] at hrun hgd
    generalize ps[i] = se at hrun hgd
    obtain ⟨s, e⟩ := se
    obtain ⟨g1, g2, g3, g4⟩ := hgd
    rw [fill_cons] at hrun
    refine wg_tup rfl (wgs_cons (wg_name (wgs_cons (wg_name (wgs_nil ?_)))))
    show Ws _ _ _ [.val (.list (ls.map pairD)), .val (.int (long : Int)), .val (measD gap ink), .val (.list (ps.map pairD)), .val (.int (cost : Int)), .res (lst lp (numD F)), .val (.int (free : Int)), .val (.int (s : Int)), .val (.int (e : Int)), s9, .any] _
    walk_at "dv"
    rw [cut_map]
    refine ⟨seg ls s e, long, gap, ink, rfl, by rw [seg_len (by omega) g3]; omega, m1, m2, fun p hp => hls p (seg_mem hp), fun er => ?_, fun k g er => ?_⟩
    · rw [er] at hrun
      walk_at "dv"
      exact ⟨rfl, q1 hrun.symm⟩
    · rw [er] at hrun
      have hrun : fillP long gap ink ls e (ps.drop (i + 1)) (cost + (k + inkSum (seg ls free s))) (F ++ List.replicate (s - free) 0 ++ g.reverse) = fillP long gap ink ls 0 ps 0 [] := hrun
      have gl := run_len er
      rw [List.length_nil, List.length_map, seg_len (by omega) g3] at gl
      walk_at "dv"
      refine op2_ixT atI_zero ?_
      walk_at "dv"
      refine we_new (wn_lcM (α := Nat × Nat) (js := [10]) (by decide) (wi_list ?_))
      walk_at "dv"
      rw [cut_map]
      refine ⟨seg ls free s, fun p => .tuple [.int (p.1 : Int), .int (p.2 : Int)], rfl, by rw [seg_len (by omega) (by omega)]; omega, rfl, fun p => .int (p.1 : Int), fun p hp => ?_, ?_⟩
      · refine wg_name ⟨rfl, ?_⟩
        walk_at "dv"
        exact op2_ixT atI_zero ⟨rfl, rfl⟩
      walk_at "dv"
      refine (opc_sumM (f := fun p : Nat × Nat => (p.1 : Int)) ?_).op
      rw [ink_cast]
      walk_at "dv"
      rw [show (cost : Int) + ((k : Int) + ((inkSum (seg ls free s) : Nat) : Int)) = ((cost + (k + inkSum (seg ls free s)) : Nat) : Int) by omega]
      refine q_ext rfl ?_
      walk_at "dv"
      refine op2_mulLs (by omega) (by omega) (by show 1 * _ ≤ _; omega) ?_
      rw [rep_zero, show ((s : Int) - (free : Int)).toNat = s - free by omega]
      refine ⟨_, _, rfl, rfl, by unfold numD; rw [List.length_map, List.length_map, List.length_replicate]; omega, ?_⟩
      rw [← List.map_append]
      refine q_seq (q_ext rfl ?_)
      walk_at "dv"
      refine op2_ixT (d := .list (numD g.reverse)) rfl ?_
      refine ⟨_, _, rfl, rfl, by unfold numD; rw [List.length_map, List.length_map, List.length_append, List.length_replicate, List.length_reverse]; omega, ?_⟩
      rw [← List.map_append]
      walk_at "dv"
      exact ⟨e, e + gap, _, _, _, _, _, hrun, g4, by omega, g3, by rw [List.length_append, List.length_append, List.length_replicate, List.length_reverse]; omega, rfl⟩
  rintro _ ⟨free, fr2, cost, F, s7, s8, s9, hrun, hgd, hf2, hfl, hFl, rfl⟩
  rw [List.length_map, List.drop_of_length_le (Nat.le_refl _)] at hrun
  clear hgd
  refine o_seq (q_aug rfl ?_)
  walk_at "dv"
  refine we_new (wn_lcM (α := Nat × Nat) (js := [10]) (by decide) (wi_list ?_))
  walk_at "dv"
  rw [cut_from, ← List.map_drop]
  refine ⟨ls.drop free, fun p => .tuple [.int (p.1 : Int), .int (p.2 : Int)], rfl, by rw [List.length_drop]; omega, rfl, fun p => .int (p.1 : Int), fun p hp => ?_, ?_⟩
  · refine wg_name ⟨rfl, ?_⟩
    walk_at "dv"
    exact op2_ixT atI_zero ⟨rfl, rfl⟩
  walk_at "dv"
  refine (opc_sumM (f := fun p : Nat × Nat => (p.1 : Int)) ?_).op
  rw [ink_cast]
  refine op2_ip ?_
  refine o_ret (wr_tup (wra_cons (wr_nl (we_var rfl ⟨rfl, ?_⟩))))
  rw [show (cost : Int) + ((inkSum (ls.drop free) : Nat) : Int) = ((cost + inkSum (ls.drop free) : Nat) : Int) by omega]
  refine wra_cons (wr_addL (we_varR rfl ?_))
  walk_at "dv"
  rw [List.length_map]
  refine op2_mulLs (by omega) (by omega) (by show 1 * _ ≤ _; omega) ?_
  rw [rep_zero, show ((ls.length : Int) - (free : Int)).toNat = ls.length - free by omega]
  refine ⟨_, _, rfl, rfl, by unfold numD; rw [List.length_map, List.length_map, List.length_replicate]; omega, ?_, ?_⟩
  · rw [← List.map_append]
    exact nl_nums _
  rw [← List.map_append]
  refine wra_nil ⟨by simp, ?_⟩
  exact q2 _ _ hrun.symm
end

section
variable {P : Program} {w : World} {K : PySem.W.Frag} {mg : Str → Option Value} {base : Heap}
def nxt (gap : Nat) : Nat → List (Nat × Nat) → Nat
  | f, [] => f
  | _, (_, e) :: r => nxt gap (e + gap) r
theorem good_app {many gap s e : Nat} : ∀ {ls : List (Nat × Nat)} {f : Nat}, GoodP many gap f ls → nxt gap f ls ≤ s → s + gap ≤ e → e ≤ many → GoodP many gap f (ls ++ [(s, e)]) ∧ nxt gap f (ls ++ [(s, e)]) = e + gap
  | [], f, _, h1, h2, h3 => ⟨⟨h1, h2, h3, trivial⟩, rfl⟩
  | (a, b) :: ls, f, g, h1, h2, h3 => by
    obtain ⟨g1, g2, g3, g4⟩ := g
    obtain ⟨i1, i2⟩ := good_app g4 h1 h2 h3
    exact ⟨⟨g1, g2, g3, i1⟩, i2⟩
theorem good_low {many gap : Nat} : ∀ {ls : List (Nat × Nat)} {f : Nat}, GoodP many gap f ls → ∀ p ∈ ls, p.1 ≤ many ∧ p.2 ≤ many
  | (a, b) :: ls, f, ⟨g1, g2, g3, g4⟩, p, hp => by
    rcases List.mem_cons.mp hp with rfl | hp
    · exact ⟨by show a ≤ many; omega, g3⟩
    · exact good_low g4 p hp
def pre__law_drawn_lines (m : Nat) (ds : List PyData) (φ : Nat → PyData → Prop) : Prop := ∃ many long : Nat, ds = [.int many, .int long] ∧ many ≤ 400 ∧ long ≤ 400 ∧ m + 4000 ≤ 2 ^ 40 ∧ ∀ (m' : Nat) (ls : List (Nat × Nat)), m' ≤ m + 4000 → ls.length = many → (∀ p ∈ ls, p.1 + p.2 ≤ long) → φ m' (linesD ls)
theorem len__law_drawn_lines : ∀ m ds φ, pre__law_drawn_lines m ds φ → ds.length = 2 := by rintro m _ φ ⟨a, b, rfl, _⟩; rfl
theorem ok__law_drawn_lines (T : Txt P K mg) : FnG P w K mg base CX0 3 T.a__law_drawn_lines T.d__law_drawn_lines ["generator", "many", "long"] (SpZ PZ pre__law_drawn_lines) := by
  refine FnG.ok0 T.F__law_drawn_lines sc__law_drawn_lines (spz_len len__law_drawn_lines) (fun cdv A outer s H vs Q E hr hg h => ?_)
  refine ⟨_, (pss_cons (ps_set (i := 3) sc__law_drawn_lines.nd rfl (by first | exact Or.inl rfl | exact Or.inr rfl) (pe_lst pa_nil))
      (pss_cons (ps_for PassesOwn.never rfl (pi_r1 rfl T.z_range (pa_cons (pv 1) pa_nil)) (pg_name (i := 4) sc__law_drawn_lines.nd rfl (by first | exact Or.inl rfl | exact Or.inr rfl)) (pss_cons (ps_set (i := 5) sc__law_drawn_lines.nd rfl (by first | exact Or.inl rfl | exact Or.inr rfl) (pe_cg (ok__law_random (P := P) (w := w) (base := base) T) (by exact hr.mono (by first | decide | omega)) (by exact hg) (by rfl) T.g__law_random T.F__law_random.kp (b__law_random T.F__law_random) .nil pass0 (pa_cons (pv 0) (pa_cons pe_int pa_nil))))
      (pss_cons (ps_set (i := 6) sc__law_drawn_lines.nd rfl (by first | exact Or.inl rfl | exact Or.inr rfl) (pe_ix (k_ix (K := K) rfl) (pe_lst (pa_cons pe_int (pa_cons pe_int (pa_cons (pe_cg (ok__law_random (P := P) (w := w) (base := base) T) (by exact hr.mono (by first | decide | omega)) (by exact hg) (by rfl) T.g__law_random T.F__law_random.kp (b__law_random T.F__law_random) .nil pass0 (pa_cons (pv 0) (pa_cons (pe_op (k_add (K := K) rfl) (pv 2) pe_int) pa_nil))) (pa_cons (pv 2) (pa_cons (pe_cg (ok__law_random (P := P) (w := w) (base := base) T) (by exact hr.mono (by first | decide | omega)) (by exact hg) (by rfl) T.g__law_random T.F__law_random.kp (b__law_random T.F__law_random) .nil pass0 (pa_cons (pv 0) (pa_cons (pe_op (k_add (K := K) rfl) (pe_callB (call_min2' rfl) (by rfl) T.z_min (by decide +kernel) (pa_cons pe_int (pa_cons (pv 2) pa_nil))) pe_int) pa_nil))) pa_nil)))))) (pv 5) (fun _ _ => rfl)))
      (pss_one (ps_expr (k_append (K := K) rfl (pv 3) (pa_cons (pe_tup (pa_cons (pv 6) (pa_cons (pe_op op_mulU (pe_cg (ok__law_random (P := P) (w := w) (base := base) T) (by exact hr.mono (by first | decide | omega)) (by exact hg) (by rfl) T.g__law_random T.F__law_random.kp (b__law_random T.F__law_random) .nil pass0 (pa_cons (pv 0) (pa_cons (pe_op (k_add (K := K) rfl) (pe_op op_sub (pv 2) (pv 6)) pe_int) pa_nil))) (pe_callTy call_int1' (by rfl) T.z_int (by decide +kernel) (pa_cons (pe_cmpR (k_eq (K := K) rfl (by exact hr.units)) (pe_cg (ok__law_random (P := P) (w := w) (base := base) T) (by exact hr.mono (by first | decide | omega)) (by exact hg) (by rfl) T.g__law_random T.F__law_random.kp (b__law_random T.F__law_random) .nil pass0 (pa_cons (pv 0) (pa_cons pe_int pa_nil))) pe_int (nomark _)) pa_nil))) pa_nil))) pa_nil)))))))
      (pss_one (ps_ret (pv 3))))), fn_z (by decide) len__law_drawn_lines (fun F G0 p m ds φ hp => ?_) h⟩
  obtain ⟨many, long, rfl, hmany, hlong, hm, q⟩ := hp
  refine q_seq (q_setN (wn_lst (wa_nil (len_ok (by simp) ?_))))
  intro lp
  refine q_seq (q_for (js := [4]) (wi_r1 ?_))
  walk_at "dv"
  refine ⟨fun i ρ => ∃ (m1 : Nat) (ls : List (Nat × Nat)) (s4 s5 s6 : Slot), m1 ≤ m + 5 * i ∧ ls.length = i ∧ (∀ p ∈ ls, p.1 + p.2 ≤ long) ∧ ρ = [.res (lstP p (PZ m1)), .val (.int many), .val (.int long), .res (lst lp (ls.map pairD)), s4, s5, s6], ⟨m, [], _, _, _, by omega, rfl, by simp, rfl⟩, ?_, ?_⟩
  · rintro i d _ hd ⟨m1, ls, s4, s5, s6, hm1, hll, hls, rfl⟩
    obtain ⟨hi, rfl⟩ := inz_get hd
    rw [Int.toNat_natCast] at hi
    refine wg_name ?_
    walk_at "dv"
    refine ⟨5, rfl, by decide, by decide, by omega, fun w0 hw0 => ?_⟩
    walk_at "dv"
    refine ⟨long + 1, rfl, by omega, by omega, by omega, fun r1 hr1 => ?_⟩
    walk_at "dv"
    rw [show min (2 : Int) (long : Int) + 1 = ((min 2 long + 1 : Nat) : Int) by omega]
    refine ⟨min 2 long + 1, rfl, by omega, by omega, by omega, fun r2 hr2 => ?_⟩
    walk_at "dv"
    obtain ⟨n, hn, en⟩ : ∃ n : Nat, n ≤ long ∧ atI [PyData.int 0, .int 0, .int (r1 : Int), .int (long : Int), .int (r2 : Int)] (w0 : Int) = some (.int (n : Int)) := by
      rcases (by omega : w0 = 0 ∨ w0 = 1 ∨ w0 = 2 ∨ w0 = 3 ∨ w0 = 4) with rfl | rfl | rfl | rfl | rfl
      · exact ⟨0, Nat.zero_le _, rfl⟩
      · exact ⟨0, Nat.zero_le _, rfl⟩
      · exact ⟨r1, by omega, rfl⟩
      · exact ⟨long, Nat.le_refl _, rfl⟩
      · exact ⟨r2, by omega, rfl⟩
    refine op2_ixL en ?_
    refine q_app rfl ?_
    walk_at "dv"
    refine ⟨long - n + 1, congrArg (fun x => [PyData.int x]) (by omega), by omega, by omega, by omega, fun r3 hr3 => ?_⟩
    walk_at "dv"
    refine ⟨3, rfl, by decide, by decide, by omega, fun r4 hr4 => ?_⟩
    walk_at "dv"
    obtain ⟨b, hb, eb⟩ : ∃ b : Nat, b ≤ r3 ∧ ((r3 : Int) * if ((r4 : Int) == 0) = true then 1 else 0) = (b : Int) := by
      split
      · exact ⟨r3, Nat.le_refl _, by omega⟩
      · exact ⟨0, Nat.zero_le _, by omega⟩
    rw [eb]
    refine ⟨by rw [List.length_map]; omega, m1 + 5, ls ++ [(n, b)], _, _, _, by omega, by simp; omega, fun p hp => ?_, by rw [List.map_append]; rfl⟩
    rcases List.mem_append.mp hp with hp | hp
    · exact hls p hp
    · obtain rfl := List.mem_singleton.mp hp
      show n + b ≤ long
      omega
  · rintro _ ⟨m1, ls, s4, s5, s6, hm1, hll, hls, rfl⟩
    rw [inz_len, Int.toNat_natCast] at hm1 hll
    refine q_ret (we_varR rfl ?_)
    exact ⟨m1, rfl, q m1 ls (by omega) hll hls⟩
def pre__law_drawn_parts (m : Nat) (ds : List PyData) (φ : Nat → PyData → Prop) : Prop := ∃ many gap : Nat, ds = [.int many, .int gap] ∧ many ≤ 400 ∧ 0 < gap ∧ gap ≤ 12 ∧ m + 2000 ≤ 2 ^ 40 ∧ ∀ (m' : Nat) (ls : List (Nat × Nat)), m' ≤ m + 2000 → ls.length ≤ 200 → GoodP many gap 0 ls → φ m' (linesD ls)
theorem len__law_drawn_parts : ∀ m ds φ, pre__law_drawn_parts m ds φ → ds.length = 2 := by rintro m _ φ ⟨a, b, rfl, _⟩; rfl
theorem ok__law_drawn_parts (T : Txt P K mg) : FnG P w K mg base CX0 4 T.a__law_drawn_parts T.d__law_drawn_parts ["generator", "many", "gap"] (SpZ PZ pre__law_drawn_parts) := by
  refine FnG.ok0 T.F__law_drawn_parts sc__law_drawn_parts (spz_len len__law_drawn_parts) (fun cdv A outer s H vs Q E hr hg h => ?_)
  refine ⟨_, (pss_cons (ps_par (i := 3) (j := 4) rfl sc__law_drawn_parts.nd rfl rfl (by decide) rfl rfl (pa_cons (pe_lst pa_nil) (pa_cons (pe_cg (ok__law_random (P := P) (w := w) (base := base) T) (by exact hr.mono (by first | decide | omega)) (by exact hg) (by rfl) T.g__law_random T.F__law_random.kp (b__law_random T.F__law_random) .nil pass0 (pa_cons (pv 0) (pa_cons pe_int pa_nil))) pa_nil)) (by rfl))
      (pss_cons (ps_while PassesOwn.never (PW.pt (pw_and (pt_cmpR op_le (pe_op (k_add (K := K) rfl) (pv 4) (pv 2)) (pv 1) (nomark _)) (pw_and1 (pt_cmpR op_lt (pe_callB (k_len (K := K) rfl) (by rfl) T.z_len (by decide +kernel) (pa_cons (pv 3) pa_nil)) pe_int (nomark _))))) (pss_cons (ps_set (i := 5) sc__law_drawn_parts.nd rfl (by first | exact Or.inl rfl | exact Or.inr rfl) (pe_callB (call_min2' rfl) (by rfl) T.z_min (by decide +kernel) (pa_cons (pv 1) (pa_cons (pe_op (k_add (K := K) rfl) (pe_op (k_add (K := K) rfl) (pv 4) (pv 2)) (pe_cg (ok__law_pick (P := P) (w := w) (base := base) T) (by exact hr.mono (by first | decide | omega)) (by exact hg) (by rfl) T.g__law_pick T.F__law_pick.kp (b__law_pick T.F__law_pick) .nil pass0 (pa_cons (pv 0) (pa_cons (pe_lst (pa_cons pe_int (pa_cons pe_int (pa_cons pe_int (pa_cons (pe_cg (ok__law_random (P := P) (w := w) (base := base) T) (by exact hr.mono (by first | decide | omega)) (by exact hg) (by rfl) T.g__law_random T.F__law_random.kp (b__law_random T.F__law_random) .nil pass0 (pa_cons (pv 0) (pa_cons pe_int pa_nil))) pa_nil))))) pa_nil)))) pa_nil))))
      (pss_cons (ps_expr (k_append (K := K) rfl (pv 3) (pa_cons (pe_tup (pa_cons (pv 4) (pa_cons (pv 5) pa_nil))) pa_nil)))
      (pss_one (ps_set (i := 4) sc__law_drawn_parts.nd rfl (by first | exact Or.inl rfl | exact Or.inr rfl) (pe_op (k_add (K := K) rfl) (pe_op (k_add (K := K) rfl) (pv 5) (pv 2)) (pe_cg (ok__law_pick (P := P) (w := w) (base := base) T) (by exact hr.mono (by first | decide | omega)) (by exact hg) (by rfl) T.g__law_pick T.F__law_pick.kp (b__law_pick T.F__law_pick) .nil pass0 (pa_cons (pv 0) (pa_cons (pe_lst (pa_cons pe_int (pa_cons pe_int (pa_cons pe_int (pa_cons (pe_cg (ok__law_random (P := P) (w := w) (base := base) T) (by exact hr.mono (by first | decide | omega)) (by exact hg) (by rfl) T.g__law_random T.F__law_random.kp (b__law_random T.F__law_random) .nil pass0 (pa_cons (pv 0) (pa_cons pe_int pa_nil))) pa_nil))))) pa_nil)))))))))
      (pss_one (ps_ret (pv 3))))), fn_z (by decide) len__law_drawn_parts (fun F G0 p m ds φ hp => ?_) h⟩
  obtain ⟨many, gap, rfl, hmany, hg0, hg1, hm, q⟩ := hp
  refine q_seq (q_parN (wn_lst (wa_nil (len_ok (by simp) (we_callZ rfl ?_)))))
  walk_at "dv"
  refine ⟨4, rfl, by decide, by decide, by omega, fun r0 hr0 => ?_⟩
  intro lp
  refine q_seq (q_while (m0 := 1000 - r0) (fun k ρ => ∃ (m1 at_ : Nat) (ls : List (Nat × Nat)) (s5 : Slot), k = 1000 - at_ ∧ at_ ≤ 500 ∧ ls.length ≤ 200 ∧ m1 ≤ m + 1 + 4 * ls.length ∧ (GoodP many gap 0 ls ∧ nxt gap 0 ls ≤ at_) ∧ ρ = [.res (lstP p (PZ m1)), .val (.int many), .val (.int gap), .res (lst lp (ls.map pairD)), .val (.int (at_ : Int)), s5]) ⟨m + 1, r0, [], .any, rfl, by omega, by simp, by omega, ⟨trivial, Nat.zero_le _⟩, rfl⟩ ?_)
  rintro k _ ⟨m1, at_, ls, s5, rfl, hat, hll, hm1, ⟨hls, hnx⟩, rfl⟩
  refine Wt.imp (Φ := fun b ρ1 => (b = true → at_ + gap ≤ many ∧ ls.length < 200) ∧ ρ1 = [.res (lstP p (PZ m1)), .val (.int many), .val (.int gap), .res (lst lp (ls.map pairD)), .val (.int (at_ : Int)), s5]) ?_ ?_
  · refine wt_and (wt_test ?_)
    walk_at "dv"
    refine ⟨fun h1 => ?_, fun h1 => ⟨fun z => (nomatch z), rfl⟩⟩
    refine wt_test (we_op (we_lenR rfl (we_int (op2_B0 ?_))))
    refine ⟨_, rfl, fun h2 => ?_, rfl⟩
    have h1 := of_decide_eq_true h1
    have h2 := of_decide_eq_true h2
    rw [List.length_map] at h2
    exact ⟨by omega, by omega⟩
  · rintro b _ ⟨hb, rfl⟩
    refine ⟨fun e => ?_, fun e => ?_⟩
    · obtain ⟨h1, h2⟩ := hb e
      walk_at "dv"
      refine ⟨20, rfl, by decide, by decide, by omega, fun r1 hr1 => ?_⟩
      walk_at "dv"
      refine pickL (by simp) (by simp) (by omega) fun x hx => ?_
      have hx2 : ∃ n : Nat, x = .int (n : Int) ∧ n ≤ 20 := by
        simp only [List.mem_cons, List.not_mem_nil, or_false] at hx
        rcases hx with rfl | rfl | rfl | rfl
        · exact ⟨0, rfl, by decide⟩
        · exact ⟨0, rfl, by decide⟩
        · exact ⟨1, rfl, by decide⟩
        · exact ⟨r1, rfl, by omega⟩
      clear hx
      obtain ⟨n, rfl, hn⟩ := hx2
      walk_at "dv"
      have em : min (many : Int) ((at_ : Int) + (gap : Int) + (n : Int)) = ((min many (at_ + gap + n) : Nat) : Int) := by omega
      rw [em]
      generalize he : min many (at_ + gap + n) = e1
      have h3 : e1 ≤ many := by omega
      have h4 : at_ + gap ≤ e1 := by omega
      refine q_app rfl ?_
      walk_at "dv"
      refine ⟨by rw [List.length_map]; omega, ?_⟩
      refine q_set (we_op ?_)
      walk_at "dv"
      refine ⟨9, rfl, by decide, by decide, by omega, fun r2 hr2 => ?_⟩
      walk_at "dv"
      refine pickL (by simp) (by simp) (by omega) fun y hy => ?_
      have hy2 : ∃ n : Nat, y = .int (n : Int) ∧ n ≤ 20 := by
        simp only [List.mem_cons, List.not_mem_nil, or_false] at hy
        rcases hy with rfl | rfl | rfl | rfl
        · exact ⟨0, rfl, by decide⟩
        · exact ⟨0, rfl, by decide⟩
        · exact ⟨1, rfl, by decide⟩
        · exact ⟨r2, rfl, by omega⟩
      clear hy
      obtain ⟨n2, rfl, hn2⟩ := hy2
      obtain ⟨ga, gb⟩ := good_app hls hnx h4 h3
      walk_at "dv"
      refine ⟨1000 - (e1 + gap + n2), by omega, m1 + 4, e1 + gap + n2, ls ++ [(at_, e1)], .val (.int (e1 : Int)), rfl, by omega, by simp; omega, by simp; omega, ⟨ga, by omega⟩, ?_⟩
      rw [List.map_append, Int.natCast_add, Int.natCast_add]
      rfl
    · refine q_ret (we_varR rfl ?_)
      exact ⟨m1, rfl, q m1 ls (by omega) hll hls⟩
end

section
variable {P : Program} {w : World} {K : PySem.W.Frag} {mg : Str → Option Value} {base : Heap}
def noneOr : Option Nat → PyData
  | none => .none
  | some k => .int (k : Int)
theorem get_app {α : Type} {A h : List α} {k : Nat} {x : α} (e : h[k]? = some x) : (A ++ h)[A.length + k]? = some x := by
  rw [List.getElem?_append_right (by omega), Nat.add_sub_cancel_left]
  exact e
theorem set_app {α : Type} (A h : List α) (k : Nat) (y : α) : (A ++ h).set (A.length + k) y = A ++ h.set k y := by
  rw [List.set_append_right _ _ (by omega), Nat.add_sub_cancel_left]
theorem seg_app {α : Type} (A h : List α) (n : Nat) : seg (A ++ h) A.length (A.length + n) = h.take n := by
  unfold seg
  rw [List.drop_left, Nat.add_sub_cancel_left]
theorem take_rev {α : Type} (l : List α) (n : Nat) (h : n < l.length) : ∃ c, l.reverse[n]? = some c ∧ l.take (l.length - n) = l.take (l.length - (n + 1)) ++ [c] := by
  refine ⟨l[l.length - (n + 1)], ?_, ?_⟩
  · rw [List.getElem?_reverse (by omega), List.getElem?_eq_getElem (by omega)]
    congr 2
    omega
  · have e : l.length - n = l.length - (n + 1) + 1 := by omega
    rw [e, List.take_add_one, List.getElem?_eq_getElem (by omega)]
    rfl
theorem cut_map' {α β : Type} (f : α → β) (ls : List α) (s e : Nat) : cutD (ls.map f) (some (s : Int)) (some (e : Int)) = (seg ls s e).map f := cut_map f ls s e
def pre__law_part_cost (ds : List PyData) (φ : PyData → Prop) : Prop := ∃ (ls : List (Nat × Nat)) (long gap ink : Nat), ds = [.list (ls.map pairD), .int (long : Int), .int (gap : Int), .int (ink : Int)] ∧ ls.length ≤ 400 ∧ 1 ≤ gap ∧ gap ≤ 12 ∧ (∀ p ∈ ls, p.1 + p.2 ≤ long) ∧ φ (noneOr ((runG long gap ink [] (ls.map cnt).reverse 0).map (·.1)))
theorem len__law_part_cost : ∀ ds φ, pre__law_part_cost ds φ → ds.length = 4 := by rintro _ φ ⟨ls, long, gap, ink, rfl, _⟩; rfl
theorem ok__law_part_cost (T : Txt P K mg) : FnG P w K mg base CX0 1 T.a__law_part_cost T.d__law_part_cost ["lines", "long", "gap", "ink"] (SpD pre__law_part_cost) := by
  refine FnG.ok0 T.F__law_part_cost sc__law_part_cost (sp_len len__law_part_cost) (fun cdv A outer s H vs Q E hr hg h => ?_)
  refine ⟨_, (pss_cons (ps_par (i := 4) (j := 5) rfl sc__law_part_cost.nd rfl rfl (by decide) rfl rfl (pa_cons (pe_lc (own := [("line", 10)]) rfl sc__law_part_cost.nd (k_plist (K := K) rfl (pv 0)) (blkOk_by (own := [("line", 10)]) (N := nm__law_part_cost) (by rfl)) (fun _ _ _ _ _ => (pg_name (i := 10) sc__law_part_cost.nd rfl (by first | exact Or.inl rfl | exact Or.inr rfl))) (fun _ _ _ _ _ => pts_nil) (fun _ _ _ _ _ => (pe_callB (k_sumU (K := K) rfl rfl) (by rfl) T.z_sum (by decide +kernel) (pa_cons (pv 10) pa_nil)))) (pa_cons pe_int pa_nil)) (by rfl))
      (pss_cons (ps_for PassesOwn.never rfl (pi_range3 rfl T.z_range (pa_cons (pe_op op_sub (pe_callB (k_len (K := K) rfl) (by rfl) T.z_len (by decide +kernel) (pa_cons (pv 0) pa_nil)) (pv 2)) (pa_cons (pe_un un_neg pe_int) (pa_cons (pe_un un_neg pe_int) pa_nil)))) (pg_name (i := 6) sc__law_part_cost.nd rfl (by first | exact Or.inl rfl | exact Or.inr rfl)) (pss_cons (ps_set (i := 7) sc__law_part_cost.nd rfl (by first | exact Or.inl rfl | exact Or.inr rfl) (pe_callB (call_max2' rfl) (by rfl) T.z_max (by decide +kernel) (pa_cons pe_int (pa_cons (pe_op op_sub (pv 3) (pe_callB (k_sumU (K := K) rfl rfl) (by rfl) T.z_sum (by decide +kernel) (pa_cons (pe_slice (k_sl (K := K) rfl) (pv 4) (po_some (pv 6)) (po_some (pe_op (k_add (K := K) rfl) (pv 6) (pv 2)))) pa_nil))) pa_nil))))
      (pss_cons (ps_set (i := 5) sc__law_part_cost.nd rfl (by first | exact Or.inl rfl | exact Or.inr rfl) (pe_op (k_add (K := K) rfl) (pv 5) (pv 7)))
      (pss_cons (ps_for PassesOwn.never rfl (pi_r2 rfl T.z_range (pa_cons (pv 6) (pa_cons (pe_op (k_add (K := K) rfl) (pv 6) (pv 2)) pa_nil))) (pg_name (i := 8) sc__law_part_cost.nd rfl (by first | exact Or.inl rfl | exact Or.inr rfl)) (pss_cons (ps_set (i := 9) sc__law_part_cost.nd rfl (by first | exact Or.inl rfl | exact Or.inr rfl) (pe_callB (call_min2' rfl) (by rfl) T.z_min (by decide +kernel) (pa_cons (pv 7) (pa_cons (pe_op op_sub (pv 1) (pe_ix (k_ix (K := K) rfl) (pv 4) (pv 8) (fun _ _ => rfl))) pa_nil))))
      (pss_cons (ps_asg (pe_op (k_add (K := K) rfl) (pe_ix (k_ix (K := K) rfl) (pv 4) (pv 8) (fun _ _ => rfl)) (pv 9)) (pg_sub (pv 4) (pv 8) set_list))
      (pss_one (ps_set (i := 7) sc__law_part_cost.nd rfl (by first | exact Or.inl rfl | exact Or.inr rfl) (pe_op op_sub (pv 7) (pv 9)))))))
      (pss_one (ps_if (pt_cmpR op_gt (pv 7) pe_int (nomark _)) (pss_one (ps_ret pe_non)) pss_nil))))))
      (pss_one (ps_ret (pv 5))))), fn_pure (by decide) len__law_part_cost (fun F G0 ds φ hp => ?_) h⟩
  obtain ⟨ls, long, gap, ink, rfl, hll, h0, h12, hls, q⟩ := hp
  refine q_seq (q_parN (wn_lcM (α := Nat × Nat) (js := [10]) (by decide) (wi_list ?_)))
  walk_at "dv"
  refine ⟨ls, fun p => .tuple [.int (p.1 : Int), .int (p.2 : Int)], rfl, by omega, rfl, fun p => .int ((cnt p : Nat) : Int), fun p hp => ?_, ?_⟩
  · refine wg_name ⟨rfl, ?_⟩
    walk_at "dv"
    refine (opc_sumT (ns := [(p.1 : Int), (p.2 : Int)]) ?_).op
    refine ⟨rfl, congrArg PyData.int ?_⟩
    show (p.1 : Int) + ((p.2 : Int) + 0) = ((p.1 + p.2 : Nat) : Int)
    omega
  refine we_int ?_
  intro lp
  rw [show (ls.map fun p => PyData.int ((cnt p : Nat) : Int)) = numD (ls.map cnt) from by unfold numD; rw [List.map_map]; rfl]
  have hcl : (ls.map cnt).length = ls.length := List.length_map ..
  have hlo : ∀ c ∈ ls.map cnt, c ≤ long := fun c hc => by
    obtain ⟨p, hp, rfl⟩ := List.mem_map.mp hc
    exact hls p hp
  generalize ls.map cnt = cs at hcl hlo q
  show Ws _ _ _ [.val (.list (ls.map pairD)), .val (.int (long : Int)), .val (.int (gap : Int)), .val (.int (ink : Int)), .res (lst lp (numD cs)), .val (.int 0), .any, .any, .any, .any, .any] _
  refine q_seq (q_for (js := [6]) (wi_r3 ?_))
  walk_at "dv"
  rw [List.length_map]
  refine ⟨_, _, rfl, ⟨by omega, by omega, by omega, by omega⟩, ?_⟩
  rw [show ((ls.length : Int) - (gap : Int) - -1).toNat = ls.length + 1 - gap by omega]
  by_cases hsh : cs.length < gap
  · rw [show ls.length + 1 - gap = 0 by omega]
    refine ⟨fun i ρ => ρ = [.val (.list (ls.map pairD)), .val (.int (long : Int)), .val (.int (gap : Int)), .val (.int (ink : Int)), .res (lst lp (numD cs)), .val (.int 0), .any, .any, .any, .any, .any], rfl, ?_, ?_⟩
    · intro i d ρ hd _
      obtain ⟨hk, _⟩ := down_get hd
      omega
    · rintro _ rfl
      walk_at "dv"
      rw [run_short _ _ _ (by rw [List.length_reverse, List.length_nil]; omega)] at q
      exact q
  have pre0 := run_short (long := long) (gap := gap) (ink := ink) (cs.reverse.take (gap - 1)) [] 0 (by rw [List.length_nil, List.length_take, List.length_reverse]; omega)
  have all0 := run_app (long := long) (gap := gap) (ink := ink) (cs.reverse.take (gap - 1)) (cs.reverse.drop (gap - 1)) [] 0
  rw [List.take_append_drop, pre0] at all0
  have all0 : runG long gap ink [] cs.reverse 0 = runG long gap ink ((cs.reverse.take (gap - 1)).reverse ++ []) (cs.reverse.drop (gap - 1)) 0 := all0
  refine ⟨fun j ρ => ∃ (g : List Nat) (cost : Nat) (s6 s7 s8 s9 : Slot), runG long gap ink g (cs.reverse.drop (gap - 1 + j)) cost = runG long gap ink [] cs.reverse 0 ∧ g.length = gap - 1 + j ∧ (∀ x ∈ g, x ≤ long) ∧ ρ = [.val (.list (ls.map pairD)), .val (.int (long : Int)), .val (.int (gap : Int)), .val (.int (ink : Int)), .res (lst lp (numD (cs.take (cs.length - (gap - 1 + j)) ++ g))), .val (.int (cost : Int)), s6, s7, s8, s9, .any], ⟨_, 0, .any, .any, .any, .any, all0.symm, ?_, ?_, ?_⟩, ?_, ?_⟩
  · rw [List.append_nil, List.length_reverse, List.length_take, List.length_reverse]
    omega
  · intro x hx
    rw [List.append_nil] at hx
    exact hlo x (List.mem_reverse.mp (List.mem_of_mem_take (List.mem_reverse.mp hx)))
  · rw [List.append_nil, Nat.add_zero, List.take_reverse, List.reverse_reverse, List.take_append_drop]
    rfl
  · rintro j d _ hd ⟨g, cost, s6, s7, s8, s9, hrun, hgl, hglo, rfl⟩
    obtain ⟨hj, rfl⟩ := down_get hd
    obtain ⟨c, ec, et⟩ := take_rev cs (gap - 1 + j) (by omega)
    have hcl2 : c ≤ long := hlo c (List.mem_reverse.mp (List.mem_of_getElem? ec))
    rw [run_get ec] at hrun
    rw [et, List.append_assoc]
    have hAl : (cs.take (cs.length - (gap - 1 + j + 1))).length = ls.length - (gap + j) := by
      rw [List.length_take]
      omega
    obtain ⟨A, hA⟩ : ∃ A, A = cs.take (cs.length - (gap - 1 + j + 1)) := ⟨_, rfl⟩
    rw [← hA] at hAl ⊢
    rw [show ((ls.length : Int) - (gap : Int) + (j : Int) * (-1)) = ((A.length : Nat) : Int) by omega]
    have lo : ∀ x ∈ c :: g, x ≤ long := fun x hx => by
      rcases List.mem_cons.mp hx with rfl | hx
      · exact hcl2
      · exact hglo x hx
    rw [show [c] ++ g = c :: g from rfl]
    generalize eh : c :: g = h at lo
    have hhl : h.length = gap + j := by
      rw [← eh, List.length_cons]
      omega
    have hst : stepG long gap ink g c = if 0 < (fill long gap h (ink - (h.take gap).sum)).2 then none else some (ink - (h.take gap).sum, (fill long gap h (ink - (h.take gap).sum)).1) := by
      unfold stepG
      rw [eh, if_neg (by omega)]
    refine wg_name ?_
    walk_at "dv"
    rw [show ((A.length : Nat) : Int) + (gap : Int) = ((A.length + gap : Nat) : Int) by omega, cut_map', seg_app]
    refine (opc_sumMU (f := fun k : Nat => (k : Int)) ?_).op
    rw [cast_sum]
    walk_at "dv"
    rw [show max (0 : Int) ((ink : Int) - (((h.take gap).sum : Nat) : Int)) = ((ink - (h.take gap).sum : Nat) : Int) by omega]
    generalize ink - (h.take gap).sum = L at hst
    rw [show (cost : Int) + (L : Int) = ((cost + L : Nat) : Int) by omega]
    refine q_for (js := [8]) (wi_r2 ?_)
    walk_at "dv"
    refine ⟨_, _, rfl, ?_⟩
    rw [show ((A.length : Int) + (gap : Int) - (A.length : Int)).toNat = gap by omega]
    refine ⟨fun k ρ => ∃ s8 s9, ρ = [.val (.list (ls.map pairD)), .val (.int (long : Int)), .val (.int (gap : Int)), .val (.int (ink : Int)), .res (lst lp (numD (A ++ (fill long k h L).1))), .val (.int ((cost + L : Nat) : Int)), .val (.int (A.length : Int)), .val (.int ((fill long k h L).2 : Int)), s8, s9, .any], ⟨_, _, rfl⟩, ?_, ?_⟩
    · rintro k d _ hd ⟨s8, s9, rfl⟩
      obtain ⟨hk, rfl⟩ := inz_get hd
      obtain ⟨x, ex, ef⟩ := fill_next long k h L (by omega)
      have hfl := fill_len long k h L
      have hx : x ≤ long := fill_le k h L lo x (List.mem_of_getElem? ex)
      rw [show ((A.length : Int) + (k : Int)) = ((A.length + k : Nat) : Int) by omega]
      generalize fill long k h L = f at ex hfl ef
      obtain ⟨fl, fr⟩ := f
      have hfl : fl.length = h.length := hfl
      have eg : (A ++ fl)[A.length + k]? = some x := get_app ex
      refine wg_name ?_
      walk_at "dv"
      refine ⟨_, _, _, rfl, rfl, numD_get eg, ?_⟩
      walk_at "dv"
      rw [show min ((fr : Nat) : Int) ((long : Int) - (x : Int)) = ((min fr (long - x) : Nat) : Int) by omega]
      refine ⟨_, _, _, rfl, rfl, numD_get eg, we_var rfl (op2_addI ?_)⟩
      refine ⟨_, _, rfl, we_var rfl ⟨_, _, A.length + k, rfl, rfl, ix_nat (by unfold numD; rw [List.length_map, List.length_append]; omega), ?_⟩⟩
      rw [← Int.natCast_add, numD_set, set_app]
      walk_at "dv"
      rw [show ((fr : Int) - ((min fr (long - x) : Nat) : Int)) = ((fr - min fr (long - x) : Nat) : Int) by omega]
      exact ⟨_, _, by rw [ef]⟩
    · rintro _ ⟨s8, s9, rfl⟩
      rw [inz_len]
      walk_at "dv"
      rw [show decide ((0 : Int) < (((fill long gap h L).2 : Nat) : Int)) = decide (0 < (fill long gap h L).2) from decide_eq_decide.mpr (by omega)]
      by_cases c2 : 0 < (fill long gap h L).2
      · rw [decide_eq_true c2]
        rw [if_pos c2] at hst
        rw [hst] at hrun
        have hrun : none = runG long gap ink [] cs.reverse 0 := hrun
        walk_at "dv"
        rw [← hrun] at q
        exact q
      · rw [decide_eq_false c2]
        rw [if_neg c2] at hst
        rw [hst] at hrun
        walk_at "dv"
        exact ⟨(fill long gap h L).1, cost + L, _, _, _, _, hrun, by rw [fill_len]; omega, fill_le _ _ _ lo, by subst hA; rfl⟩
  · rintro _ ⟨g, cost, s6, s7, s8, s9, hrun, hgl, hglo, rfl⟩
    rw [down_len] at hrun hgl ⊢
    rw [List.drop_of_length_le (by rw [List.length_reverse]; omega)] at hrun
    have hrun : some (cost, g) = runG long gap ink [] cs.reverse 0 := hrun
    walk_at "dv"
    rw [← hrun] at q
    exact q
theorem cost_cons {long gap ink : Nat} {ls : List (Nat × Nat)} {free s e cost : Nat} {ps : List (Nat × Nat)} : costP long gap ink ls free ((s, e) :: ps) cost = ((runG long gap ink [] ((seg ls s e).map cnt).reverse 0).map (·.1)).bind fun k => costP long gap ink ls e ps (cost + inkSum (seg ls free s) + k) := by
  rw [costP]
  cases (runG long gap ink [] ((seg ls s e).map cnt).reverse 0).map (·.1) <;> rfl
def pre__law_cost (ds : List PyData) (φ : PyData → Prop) : Prop := ∃ (ls : List (Nat × Nat)) (long gap ink : Nat) (ps : List (Nat × Nat)), ds = [.list (ls.map pairD), .int (long : Int), measD gap ink, .list (ps.map pairD)] ∧ ls.length ≤ 400 ∧ (∀ p ∈ ls, p.1 + p.2 ≤ long) ∧ 1 ≤ gap ∧ gap ≤ 12 ∧ ps.length ≤ 400 ∧ GoodP ls.length gap 0 ps ∧ φ (noneOr (costP long gap ink ls 0 ps 0))
theorem len__law_cost : ∀ ds φ, pre__law_cost ds φ → ds.length = 4 := by rintro _ φ ⟨ls, long, gap, ink, ps, rfl, _⟩; rfl
theorem ok__law_cost (T : Txt P K mg) : FnG P w K mg base CX0 2 T.a__law_cost T.d__law_cost ["lines", "long", "measure", "reading"] (SpD pre__law_cost) := by
  refine FnG.ok0 T.F__law_cost sc__law_cost (sp_len len__law_cost) (fun cdv A outer s H vs Q E hr hg h => ?_)
  refine ⟨_, (pss_cons (ps_asg (pe_tup (pa_cons pe_int (pa_cons pe_int pa_nil))) (k_tup (K := K) (n := 2) rfl rfl (pgs_cons (pg_name (i := 4) sc__law_cost.nd rfl (by first | exact Or.inl rfl | exact Or.inr rfl)) (pgs_cons (pg_name (i := 5) sc__law_cost.nd rfl (by first | exact Or.inl rfl | exact Or.inr rfl)) pgs_nil))))
      (pss_cons (ps_for PassesOwn.never rfl (k_plist (K := K) rfl (pe_op (k_add (K := K) rfl) (pv 3) (pe_lst (pa_cons (pe_tup (pa_cons (pe_callB (k_len (K := K) rfl) (by rfl) T.z_len (by decide +kernel) (pa_cons (pv 0) pa_nil)) (pa_cons (pe_callB (k_len (K := K) rfl) (by rfl) T.z_len (by decide +kernel) (pa_cons (pv 0) pa_nil)) pa_nil))) pa_nil)))) (k_tup (K := K) (n := 2) rfl rfl (pgs_cons (pg_name (i := 6) sc__law_cost.nd rfl (by first | exact Or.inl rfl | exact Or.inr rfl)) (pgs_cons (pg_name (i := 7) sc__law_cost.nd rfl (by first | exact Or.inl rfl | exact Or.inr rfl)) pgs_nil))) (pss_cons (ps_set (i := 4) sc__law_cost.nd rfl (by first | exact Or.inl rfl | exact Or.inr rfl) (pe_op (k_add (K := K) rfl) (pv 4) (pe_callB (k_sum (K := K) rfl rfl) (by rfl) T.z_sum (by decide +kernel) (pa_cons (pe_lc (own := [("line", 9)]) rfl sc__law_cost.nd (k_plist (K := K) rfl (pe_slice (k_sl (K := K) rfl) (pv 0) (po_some (pv 5)) (po_some (pv 6)))) (blkOk_by (own := [("line", 9)]) (N := nm__law_cost) (by rfl)) (fun _ _ _ _ _ => (pg_name (i := 9) sc__law_cost.nd rfl (by first | exact Or.inl rfl | exact Or.inr rfl))) (fun _ _ _ _ _ => pts_nil) (fun _ _ _ _ _ => (pe_ix (k_ix (K := K) rfl) (pv 9) pe_int (fun _ _ => rfl)))) pa_nil))))
      (pss_cons (ps_set (i := 8) sc__law_cost.nd rfl (by first | exact Or.inl rfl | exact Or.inr rfl) (pe_ifExp (pt_cmpR op_gt (pv 7) (pv 6) (nomark _)) (pe_cg (ok__law_part_cost (P := P) (w := w) (base := base) T) (by exact hr.mono (by first | decide | omega)) (by exact hg) (by rfl) T.g__law_part_cost T.F__law_part_cost.kp (b__law_part_cost T.F__law_part_cost) .nil pass0 (pa_cons (pe_slice (k_sl (K := K) rfl) (pv 0) (po_some (pv 6)) (po_some (pv 7))) (pa_cons (pv 1) (pa_cons (pe_ix (k_ix (K := K) rfl) (pv 2) pe_int (fun _ _ => rfl)) (pa_cons (pe_ix (k_ix (K := K) rfl) (pv 2) pe_int (fun _ _ => rfl)) pa_nil))))) pe_int))
      (pss_cons (ps_if (pt_cmpR op_isN' (pv 8) pe_non (nomark _)) (pss_one (ps_ret pe_non)) pss_nil)
      (pss_one (ps_par (i := 4) (j := 5) rfl sc__law_cost.nd rfl rfl (by decide) rfl rfl (pa_cons (pe_op (k_add (K := K) rfl) (pv 4) (pv 8)) (pa_cons (pv 7) pa_nil)) (by rfl)))))))
      (pss_one (ps_ret (pv 4))))), fn_pure (by decide) len__law_cost (fun F G0 ds φ hp => ?_) h⟩
  obtain ⟨ls, long, gap, ink, ps, rfl, hll, hls, m1, m2, hpl, hg, q⟩ := hp
  refine q_seq (q_asg (js := [4, 5]) ?_)
  walk_at "dv"
  refine wg_tup rfl (wgs_cons (wg_name (wgs_cons (wg_name (wgs_nil ?_)))))
  walk_at "dv"
  refine q_for (js := [6, 7]) (wi_list ?_)
  walk_at "dv"
  refine op2_addL (by simp; omega) ?_
  rw [List.length_map]
  refine ⟨_, rfl, ?_⟩
  refine ⟨fun i ρ => ∃ (free fr2 cost : Nat) (s6 s7 s8 : Slot), ((i ≤ ps.length ∧ costP long gap ink ls free (ps.drop i) cost = costP long gap ink ls 0 ps 0 ∧ GoodP ls.length gap fr2 (ps.drop i) ∧ free ≤ fr2 ∧ free ≤ ls.length) ∨ (i = ps.length + 1 ∧ costP long gap ink ls 0 ps 0 = some cost)) ∧ ρ = [.val (.list (ls.map pairD)), .val (.int (long : Int)), .val (measD gap ink), .val (.list (ps.map pairD)), .val (.int (cost : Int)), .val (.int (free : Int)), s6, s7, s8, .any], ⟨0, 0, 0, _, _, _, .inl ⟨Nat.zero_le _, rfl, hg, Nat.le_refl _, Nat.zero_le _⟩, rfl⟩, ?_, ?_⟩
  · rintro i d _ hd ⟨free, fr2, cost, s6, s7, s8, hc, rfl⟩
    have hi : i < ps.length + 1 := by
      have := (List.getElem?_eq_some_iff.mp hd).1
      rw [List.length_append, List.length_map, List.length_singleton] at this
      exact this
    rcases hc with ⟨_, hrun, hgd, hf2, hfl⟩ | ⟨z, _⟩
    · by_cases hi2 : i < ps.length
      · have ed : pairD ps[i] = d := by
          rw [List.getElem?_append_left (by rw [List.length_map]; exact hi2), List.getElem?_map, List.getElem?_eq_getElem hi2] at hd
          exact Option.some.inj hd
        subst ed
        rw [List.drop_eq_getElem_cons hi2] at hrun hgd
        generalize ps[i] = se at hrun hgd
        obtain ⟨s, e⟩ := se
        obtain ⟨g1, g2, g3, g4⟩ := hgd
        rw [cost_cons] at hrun
        refine wg_tup rfl (wgs_cons (wg_name (wgs_cons (wg_name (wgs_nil ?_)))))
        show Ws _ _ _ [.val (.list (ls.map pairD)), .val (.int (long : Int)), .val (measD gap ink), .val (.list (ps.map pairD)), .val (.int (cost : Int)), .val (.int (free : Int)), .val (.int (s : Int)), .val (.int (e : Int)), s8, .any] _
        walk_at "dv"
        refine we_new (wn_lcM (α := Nat × Nat) (js := [9]) (by decide) (wi_list ?_))
        walk_at "dv"
        rw [cut_map]
        refine ⟨seg ls free s, fun p => .tuple [.int (p.1 : Int), .int (p.2 : Int)], rfl, by rw [seg_len (by omega) (by omega)]; omega, rfl, fun p => .int (p.1 : Int), fun p hp => ?_, ?_⟩
        · refine wg_name ⟨rfl, ?_⟩
          walk_at "dv"
          exact op2_ixT atI_zero ⟨rfl, rfl⟩
        walk_at "dv"
        refine (opc_sumM (f := fun p : Nat × Nat => (p.1 : Int)) ?_).op
        rw [ink_cast]
        walk_at "dv"
        refine ⟨fun _ => ?_, fun h => (by have := of_decide_eq_false h; omega)⟩
        walk_at "dv"
        rw [cut_map]
        refine op2_ixT atI_zero ?_
        walk_at "dv"
        refine op2_ixT (d := .int (ink : Int)) rfl ?_
        walk_at "dv"
        refine ⟨seg ls s e, long, gap, ink, rfl, by rw [seg_len (by omega) g3]; omega, m1, m2, fun p hp => hls p (seg_mem hp), ?_⟩
        generalize (runG long gap ink [] ((seg ls s e).map cnt).reverse 0).map (·.1) = r at hrun
        cases r with
        | none =>
          have hrun : none = costP long gap ink ls 0 ps 0 := hrun
          rw [← hrun] at q
          walk_at "dv"
          exact q
        | some k =>
          have hrun : costP long gap ink ls e (ps.drop (i + 1)) (cost + inkSum (seg ls free s) + k) = costP long gap ink ls 0 ps 0 := hrun
          rw [show noneOr (some k) = .int (k : Int) from rfl]
          walk_at "dv"
          exact ⟨e, e + gap, cost + inkSum (seg ls free s) + k, _, _, _, .inl ⟨hi2, hrun, g4, by omega, g3⟩, by rw [Int.natCast_add, Int.natCast_add]⟩
      · obtain rfl : i = ps.length := by omega
        have ed : PyData.tuple [.int (ls.length : Int), .int (ls.length : Int)] = d := by
          rw [List.getElem?_append_right (by rw [List.length_map]; exact Nat.le_refl _), List.length_map, Nat.sub_self] at hd
          exact Option.some.inj hd
        subst ed
        rw [List.drop_of_length_le (Nat.le_refl _)] at hrun
        have hrun : some (cost + inkSum (ls.drop free)) = costP long gap ink ls 0 ps 0 := hrun
        refine wg_tup rfl (wgs_cons (wg_name (wgs_cons (wg_name (wgs_nil ?_)))))
        walk_at "dv"
        refine we_new (wn_lcM (α := Nat × Nat) (js := [9]) (by decide) (wi_list ?_))
        walk_at "dv"
        rw [cut_map, show seg ls free ls.length = ls.drop free from by unfold seg; rw [List.take_of_length_le (by rw [List.length_drop]; exact Nat.le_refl _)]]
        refine ⟨ls.drop free, fun p => .tuple [.int (p.1 : Int), .int (p.2 : Int)], rfl, by rw [List.length_drop]; omega, rfl, fun p => .int (p.1 : Int), fun p hp => ?_, ?_⟩
        · refine wg_name ⟨rfl, ?_⟩
          walk_at "dv"
          exact op2_ixT atI_zero ⟨rfl, rfl⟩
        walk_at "dv"
        refine (opc_sumM (f := fun p : Nat × Nat => (p.1 : Int)) ?_).op
        rw [ink_cast]
        walk_at "dv"
        refine ⟨fun h => (by have := of_decide_eq_true h; omega), fun _ => ?_⟩
        walk_at "dv"
        exact ⟨ls.length, 0, cost + inkSum (ls.drop free), _, _, _, .inr ⟨rfl, hrun.symm⟩, by rw [Int.natCast_add, Int.add_zero]⟩
    · omega
  · rintro _ ⟨free, fr2, cost, s6, s7, s8, hc, rfl⟩
    rw [List.length_append, List.length_map, List.length_singleton] at hc
    rcases hc with ⟨z, _⟩ | ⟨_, hc⟩
    · omega
    walk_at "dv"
    rw [hc] at q
    exact q
end

section
variable {P : Program} {w : World} {K : PySem.W.Frag} {mg : Str → Option Value} {base : Heap}
theorem pairs_zip : ∀ (ls : List (Nat × Nat)) (ns : List Nat), Dv.pairs (ls.map pairD) (numD ns) = (ls.zip ns).map fun x => .tuple [.tuple [.int (x.1.1 : Int), .int (x.1.2 : Int)], .int (x.2 : Int)]
  | [], _ => rfl
  | _ :: _, [] => rfl
  | l :: ls, n :: ns => by
    have ih := pairs_zip ls ns
    show PyData.tuple [pairD l, .int (n : Int)] :: Dv.pairs (ls.map pairD) (numD ns) = _
    rw [ih]
    rfl
theorem dist_zip : ∀ (ls : List (Nat × Nat)) (ns : List Nat), ((ls.zip ns).map fun x => (((x.1.1 - x.2) + (x.2 - x.1.1 - x.1.2) : Nat) : Int)).sum = ((dist ls ns : Nat) : Int)
  | [], _ => rfl
  | _ :: _, [] => rfl
  | l :: ls, n :: ns => by
    have ih := dist_zip ls ns
    show ((((l.1 - n) + (n - l.1 - l.2) : Nat) : Int) + ((ls.zip ns).map fun x => (((x.1.1 - x.2) + (x.2 - x.1.1 - x.1.2) : Nat) : Int)).sum) = (((l.1 - n) + (n - l.1 - l.2) + dist ls ns : Nat) : Int)
    rw [ih]
    omega
def pre__law_distance (ds : List PyData) (φ : PyData → Prop) : Prop := ∃ (ls : List (Nat × Nat)) (f : List Nat), ds = [.list (ls.map pairD), .list (numD f)] ∧ ls.length ≤ 400 ∧ φ (.int ((dist ls f : Nat) : Int))
theorem len__law_distance : ∀ ds φ, pre__law_distance ds φ → ds.length = 2 := by rintro _ φ ⟨ls, f, rfl, _⟩; rfl
theorem ok__law_distance (T : Txt P K mg) : FnG P w K mg base CX0 1 T.a__law_distance T.d__law_distance ["lines", "filling"] (SpD pre__law_distance) := by
  refine FnG.ok0 T.F__law_distance sc__law_distance (sp_len len__law_distance) (fun cdv A outer s H vs Q E hr hg h => ?_)
  refine ⟨_, (pss_one (ps_ret (pe_callB (k_sum (K := K) rfl rfl) (by rfl) T.z_sum (by decide +kernel) (pa_cons (pe_lc (own := [("line", 2), ("n", 3)]) rfl sc__law_distance.nd (k_pzip (K := K) rfl (by rfl) T.z_zip (pa_cons (pv 0) (pa_cons (pv 1) pa_nil))) (blkOk_by (own := [("line", 2), ("n", 3)]) (N := nm__law_distance) (by rfl)) (fun _ _ _ _ _ => (k_tup (K := K) (n := 2) rfl rfl (pgs_cons (pg_name (i := 2) sc__law_distance.nd rfl (by first | exact Or.inl rfl | exact Or.inr rfl)) (pgs_cons (pg_name (i := 3) sc__law_distance.nd rfl (by first | exact Or.inl rfl | exact Or.inr rfl)) pgs_nil)))) (fun _ _ _ _ _ => pts_nil) (fun _ _ _ _ _ => (pe_op (k_add (K := K) rfl) (pe_callB (call_max2' rfl) (by rfl) T.z_max (by decide +kernel) (pa_cons pe_int (pa_cons (pe_op op_sub (pe_ix (k_ix (K := K) rfl) (pv 2) pe_int (fun _ _ => rfl)) (pv 3)) pa_nil))) (pe_callB (call_max2' rfl) (by rfl) T.z_max (by decide +kernel) (pa_cons pe_int (pa_cons (pe_op op_sub (pe_op op_sub (pv 3) (pe_ix (k_ix (K := K) rfl) (pv 2) pe_int (fun _ _ => rfl))) (pe_ix (k_ix (K := K) rfl) (pv 2) pe_int (fun _ _ => rfl))) pa_nil)))))) pa_nil)))), fn_pure (by decide) len__law_distance (fun F G0 ds φ hp => ?_) h⟩
  obtain ⟨ls, f, rfl, hll, q⟩ := hp
  walk_at "dv"
  refine we_new (wn_lcM (α := (Nat × Nat) × Nat) (js := [2, 3]) (by decide) (wi_zip ?_))
  walk_at "dv"
  refine ⟨_, _, rfl, ls.zip f, fun x => .tuple [.tuple [.int (x.1.1 : Int), .int (x.1.2 : Int)], .int (x.2 : Int)], pairs_zip ls f, by rw [List.length_zip]; omega, rfl, fun x => .int (((x.1.1 - x.2) + (x.2 - x.1.1 - x.1.2) : Nat) : Int), fun x hx => ?_, ?_⟩
  · refine wg_tup rfl (wgs_cons (wg_name (wgs_cons (wg_name (wgs_nil ⟨rfl, ?_⟩)))))
    walk_at "dv"
    refine op2_ixT atI_zero ?_
    walk_at "dv"
    refine op2_ixT atI_zero ?_
    walk_at "dv"
    refine op2_ixT (d := .int (x.1.2 : Int)) rfl ?_
    walk_at "dv"
    exact ⟨rfl, congrArg PyData.int (by omega)⟩
  walk_at "dv"
  refine (opc_sumM (f := fun x : (Nat × Nat) × Nat => (((x.1.1 - x.2) + (x.2 - x.1.1 - x.1.2) : Nat) : Int)) ?_).op
  rw [dist_zip]
  exact q
def pre__law_is_filling (ds : List PyData) (φ : PyData → Prop) : Prop := ∃ (f : List Nat) (long : Nat), ds = [.list (numD f), .int (f.length : Int), .int (long : Int)] ∧ f.length ≤ 400 ∧ (∀ x ∈ f, x ≤ long) ∧ φ (.bool true)
theorem len__law_is_filling : ∀ ds φ, pre__law_is_filling ds φ → ds.length = 3 := by rintro _ φ ⟨f, l, rfl, _⟩; rfl
theorem ok__law_is_filling (T : Txt P K mg) : FnG P w K mg base CX0 1 T.a__law_is_filling T.d__law_is_filling ["filling", "many", "long"] (SpD pre__law_is_filling) := by
  refine FnG.ok0 T.F__law_is_filling sc__law_is_filling (sp_len len__law_is_filling) (fun cdv A outer s H vs Q E hr hg h => ?_)
  refine ⟨_, (pss_cons (ps_if (PW.pt (pw_or (pt_not (k_tru (K := K) rfl (pe_callB (k_isi (K := K) rfl) (by rfl) T.z_isinstance (by decide +kernel) (pa_cons (pv 0) (pa_cons (pe_bltn (v := .ty "list") (u := .type "list") (by rfl) T.z_list (by decide +kernel) rfl) pa_nil))) (by intro _; rfl))) (pw_or1 (pt_cmpR (k_ne (K := K) rfl (by exact hr.units)) (pe_callB (k_len (K := K) rfl) (by rfl) T.z_len (by decide +kernel) (pa_cons (pv 0) pa_nil)) (pv 1) (nomark _))))) (pss_one (ps_ret pe_bl)) pss_nil)
      (pss_one (ps_ret (pe_cmpR (k_eq (K := K) rfl (by exact hr.units)) (pe_lc (own := [("n", 3)]) rfl sc__law_is_filling.nd (k_plist (K := K) rfl (pv 0)) (blkOk_by (own := [("n", 3)]) (N := nm__law_is_filling) (by rfl)) (fun _ _ _ _ _ => (pg_name (i := 3) sc__law_is_filling.nd rfl (by first | exact Or.inl rfl | exact Or.inr rfl))) (fun _ _ _ _ _ => (pts_one (PW.pt (pw_or (k_tru (K := K) rfl (pe_callB (k_isi (K := K) rfl) (by rfl) T.z_isinstance (by decide +kernel) (pa_cons (pv 3) (pa_cons (pe_bltn (v := .ty "bool") (u := .type "bool") (by rfl) T.z_bool (by decide +kernel) rfl) pa_nil))) (by intro _; rfl)) (pw_or (pt_not (k_tru (K := K) rfl (pe_callB (k_isi (K := K) rfl) (by rfl) T.z_isinstance (by decide +kernel) (pa_cons (pv 3) (pa_cons (pe_bltn (v := .ty "int") (u := .type "int") (by rfl) T.z_int (by decide +kernel) rfl) pa_nil))) (by intro _; rfl))) (pw_or (pt_cmpR op_lt (pv 3) pe_int (nomark _)) (pw_or1 (pt_cmpR op_gt (pv 3) (pv 2) (nomark _))))))))) (fun _ _ _ _ _ => (pv 3))) (pe_lst pa_nil) (nomark _))))), fn_pure (by decide) len__law_is_filling (fun F G0 ds φ hp => ?_) h⟩
  obtain ⟨f, long, rfl, hl, hf, q⟩ := hp
  walk_at "dv"
  rw [List.length_map, show (!((f.length : Int) == (f.length : Int))) = false by simp]
  walk_at "dv"
  refine we_new (wn_lcT (α := Nat) (js := [3]) (by decide) (wi_list ?_))
  walk_at "dv"
  refine ⟨f, fun k : Nat => .int (k : Int), rfl, by omega, rfl, fun _ => false, fun k : Nat => .int (k : Int), fun x hx => ?_, ?_⟩
  · have hxl := hf x hx
    refine wg_name ⟨rfl, ?_⟩
    walk_at "dv"
    have e : decide ((long : Int) < (x : Int)) = false := decide_eq_false (by omega)
    exact ⟨rfl, e, fun z => (by rw [e] at z; cases z)⟩
  rw [show (f.filter fun _ => false).map (fun k : Nat => PyData.int (k : Int)) = [] by simp]
  walk_at "dv"
  refine (op2_eqNil ⟨rfl, rfl⟩ ?_).op
  exact q
theorem keeps_cons {gap ink free s e : Nat} {f : List Nat} {ps : List (Nat × Nat)} : keepsB gap ink f free ((s, e) :: ps) = (decide ((seg f free s).sum = 0) && ((List.range (e + 1 - gap - s)).all (fun i => decide (ink ≤ (seg f (s + i) (s + i + gap)).sum)) && keepsB gap ink f e ps)) := rfl
def pre__law_keeps (ds : List PyData) (φ : PyData → Prop) : Prop := ∃ (f : List Nat) (gap ink : Nat) (ps : List (Nat × Nat)), ds = [.list (numD f), measD gap ink, .list (ps.map pairD)] ∧ f.length ≤ 400 ∧ 1 ≤ gap ∧ gap ≤ 12 ∧ ps.length ≤ 400 ∧ GoodP f.length gap 0 ps ∧ φ (.bool (keepsB gap ink f 0 ps))
theorem len__law_keeps : ∀ ds φ, pre__law_keeps ds φ → ds.length = 3 := by rintro _ φ ⟨f, gap, ink, ps, rfl, _⟩; rfl
theorem ok__law_keeps (T : Txt P K mg) : FnG P w K mg base CX0 1 T.a__law_keeps T.d__law_keeps ["filling", "measure", "reading"] (SpD pre__law_keeps) := by
  refine FnG.ok0 T.F__law_keeps sc__law_keeps (sp_len len__law_keeps) (fun cdv A outer s H vs Q E hr hg h => ?_)
  refine ⟨_, (pss_cons (ps_set (i := 3) sc__law_keeps.nd rfl (by first | exact Or.inl rfl | exact Or.inr rfl) pe_int)
      (pss_cons (ps_for PassesOwn.never rfl (k_plist (K := K) rfl (pv 2)) (k_tup (K := K) (n := 2) rfl rfl (pgs_cons (pg_name (i := 4) sc__law_keeps.nd rfl (by first | exact Or.inl rfl | exact Or.inr rfl)) (pgs_cons (pg_name (i := 5) sc__law_keeps.nd rfl (by first | exact Or.inl rfl | exact Or.inr rfl)) pgs_nil))) (pss_cons (ps_if (pt_cmpR op_gt (pe_callB (k_sum (K := K) rfl rfl) (by rfl) T.z_sum (by decide +kernel) (pa_cons (pe_slice (k_sl (K := K) rfl) (pv 0) (po_some (pv 3)) (po_some (pv 4))) pa_nil)) pe_int (nomark _)) (pss_one (ps_ret pe_bl)) pss_nil)
      (pss_cons (ps_for PassesOwn.never rfl (pi_r2 rfl T.z_range (pa_cons (pv 4) (pa_cons (pe_op (k_add (K := K) rfl) (pe_op op_sub (pv 5) (pe_ix (k_ix (K := K) rfl) (pv 1) pe_int (fun _ _ => rfl))) pe_int) pa_nil))) (pg_name (i := 6) sc__law_keeps.nd rfl (by first | exact Or.inl rfl | exact Or.inr rfl)) (pss_one (ps_if (pt_cmpR op_lt (pe_callB (k_sum (K := K) rfl rfl) (by rfl) T.z_sum (by decide +kernel) (pa_cons (pe_slice (k_sl (K := K) rfl) (pv 0) (po_some (pv 6)) (po_some (pe_op (k_add (K := K) rfl) (pv 6) (pe_ix (k_ix (K := K) rfl) (pv 1) pe_int (fun _ _ => rfl))))) pa_nil)) (pe_ix (k_ix (K := K) rfl) (pv 1) pe_int (fun _ _ => rfl)) (nomark _)) (pss_one (ps_ret pe_bl)) pss_nil)))
      (pss_one (ps_set (i := 3) sc__law_keeps.nd rfl (by first | exact Or.inl rfl | exact Or.inr rfl) (pv 5))))))
      (pss_one (ps_ret (pe_cmpR (k_eq (K := K) rfl (by exact hr.units)) (pe_callB (k_sum (K := K) rfl rfl) (by rfl) T.z_sum (by decide +kernel) (pa_cons (pe_slice (k_sl (K := K) rfl) (pv 0) (po_some (pv 3)) po_none) pa_nil)) pe_int (nomark _)))))), fn_pure (by decide) len__law_keeps (fun F G0 ds φ hp => ?_) h⟩
  obtain ⟨f, gap, ink, ps, rfl, hfl, g0, g12, hpl, hg, q⟩ := hp
  walk_at "dv"
  refine q_for (js := [4, 5]) (wi_list ?_)
  walk_at "dv"
  refine ⟨fun i ρ => ∃ (free fr2 : Nat) (s4 s5 s6 : Slot), keepsB gap ink f free (ps.drop i) = keepsB gap ink f 0 ps ∧ GoodP f.length gap fr2 (ps.drop i) ∧ free ≤ fr2 ∧ free ≤ f.length ∧ ρ = [.val (.list (numD f)), .val (measD gap ink), .val (.list (ps.map pairD)), .val (.int (free : Int)), s4, s5, s6], ⟨0, 0, _, _, _, rfl, hg, Nat.le_refl _, Nat.zero_le _, rfl⟩, ?_, ?_⟩
  · rintro i d _ hd ⟨free, fr2, s4, s5, s6, hrun, hgd, hf2, hf3, rfl⟩
    have hi : i < ps.length := by
      have := (List.getElem?_eq_some_iff.mp hd).1
      rw [List.length_map] at this
      exact this
    obtain rfl : pairD ps[i] = d := by
      rw [List.getElem?_map, List.getElem?_eq_getElem hi] at hd
      exact Option.some.inj hd
    rw [List.drop_eq_getElem_cons hi] at hrun hgd
    generalize ps[i] = se at hrun hgd
    obtain ⟨s, e⟩ := se
    obtain ⟨g1, g2, g3, g4⟩ := hgd
    rw [keeps_cons] at hrun
    refine wg_tup rfl (wgs_cons (wg_name (wgs_cons (wg_name (wgs_nil ?_)))))
    show Ws _ _ _ [.val (.list (numD f)), .val (measD gap ink), .val (.list (ps.map pairD)), .val (.int (free : Int)), .val (.int (s : Int)), .val (.int (e : Int)), s6] _
    walk_at "dv"
    rw [cut_map]
    refine (opc_sumM (f := fun k : Nat => (k : Int)) ?_).op
    rw [cast_sum]
    walk_at "dv"
    by_cases hs : (seg f free s).sum = 0
    · rw [decide_eq_false (show ¬ ((0 : Int) < (((seg f free s).sum : Nat) : Int)) by omega)]
      rw [decide_eq_true hs, Bool.true_and] at hrun
      walk_at "dv"
      refine q_for (js := [6]) (wi_r2 ?_)
      walk_at "dv"
      refine op2_ixT atI_zero ?_
      walk_at "dv"
      refine ⟨_, _, rfl, ?_⟩
      rw [show ((e : Int) - (gap : Int) + 1 - (s : Int)).toNat = e + 1 - gap - s by omega]
      refine ⟨fun k ρ => (∀ j, j < k → ink ≤ (seg f (s + j) (s + j + gap)).sum) ∧ ∃ s6, ρ = [.val (.list (numD f)), .val (measD gap ink), .val (.list (ps.map pairD)), .val (.int (free : Int)), .val (.int (s : Int)), .val (.int (e : Int)), s6], ⟨(fun j hj => nomatch hj), _, rfl⟩, ?_, ?_⟩
      · rintro k d _ hd2 ⟨hall, s6, rfl⟩
        obtain ⟨hk, rfl⟩ := inz_get hd2
        rw [← Int.natCast_add]
        refine wg_name ?_
        walk_at "dv"
        refine op2_ixT atI_zero ?_
        walk_at "dv"
        rw [← Int.natCast_add, cut_map]
        refine (opc_sumM (f := fun k : Nat => (k : Int)) ?_).op
        rw [cast_sum]
        walk_at "dv"
        refine op2_ixT (d := .int (ink : Int)) rfl ?_
        walk_at "dv"
        by_cases hw : ink ≤ (seg f (s + k) (s + k + gap)).sum
        · rw [decide_eq_false (show ¬ ((((seg f (s + k) (s + k + gap)).sum : Nat) : Int) < (ink : Int)) by omega)]
          walk_at "dv"
          refine ⟨fun j hj => ?_, _, rfl⟩
          rcases (by omega : j < k ∨ j = k) with h | rfl
          · exact hall j h
          · exact hw
        · rw [decide_eq_true (show ((((seg f (s + k) (s + k + gap)).sum : Nat) : Int) < (ink : Int)) by omega)]
          walk_at "dv"
          have e1 : ((List.range (e + 1 - gap - s)).all (fun i => decide (ink ≤ (seg f (s + i) (s + i + gap)).sum))) = false := by
            rw [List.all_eq_false]
            exact ⟨k, List.mem_range.mpr hk, by simpa using hw⟩
          rw [e1, Bool.false_and] at hrun
          rw [← hrun] at q
          exact q
      · rintro _ ⟨hall, s6, rfl⟩
        rw [inz_len] at hall
        have e1 : ((List.range (e + 1 - gap - s)).all (fun i => decide (ink ≤ (seg f (s + i) (s + i + gap)).sum))) = true := by
          rw [List.all_eq_true]
          exact fun i hi => decide_eq_true (hall i (List.mem_range.mp hi))
        rw [e1, Bool.true_and] at hrun
        walk_at "dv"
        exact ⟨e, e + gap, _, _, _, hrun, g4, by omega, g3, rfl⟩
    · rw [decide_eq_true (show ((0 : Int) < (((seg f free s).sum : Nat) : Int)) by omega)]
      rw [decide_eq_false hs, Bool.false_and] at hrun
      walk_at "dv"
      rw [← hrun] at q
      exact q
  · rintro _ ⟨free, fr2, s4, s5, s6, hrun, hgd, hf2, hf3, rfl⟩
    rw [List.length_map, List.drop_of_length_le (Nat.le_refl _)] at hrun
    walk_at "dv"
    rw [cut_from, ← List.map_drop]
    refine (opc_sumM (f := fun k : Nat => (k : Int)) ?_).op
    rw [cast_sum]
    walk_at "dv"
    have e1 : ((((f.drop free).sum : Nat) : Int) == 0) = keepsB gap ink f 0 ps := by
      rw [← hrun]
      show _ = decide ((f.drop free).sum = 0)
      by_cases h : (f.drop free).sum = 0
      · rw [h]
        rfl
      · rw [decide_eq_false h, beq_eq_false_iff_ne]
        omega
    rw [e1]
    exact q
def allN : Nat → List (List Nat)
  | 0 => [[]]
  | k + 1 => (allN k).flatMap fun f => (List.range 3).map fun n => f ++ [n]
theorem all_len : ∀ k, (allN k).length = 3 ^ k
  | 0 => rfl
  | k + 1 => by
    show ((allN k).flatMap fun f => (List.range 3).map fun n => f ++ [n]).length = _
    rw [List.length_flatMap]
    have : ((allN k).map fun f => ((List.range 3).map fun n => f ++ [n]).length) = List.replicate (allN k).length 3 := by
      rw [List.eq_replicate_iff]
      exact ⟨by simp, fun b hb => by obtain ⟨f, _, rfl⟩ := List.mem_map.mp hb; simp⟩
    rw [this, List.sum_replicate_nat, all_len k, Nat.pow_succ]
theorem all_mem : ∀ (k : Nat) (f : List Nat), f ∈ allN k ↔ f.length = k ∧ ∀ x ∈ f, x ≤ 2
  | 0, f => by
    show f ∈ [[]] ↔ _
    rw [List.mem_singleton]
    constructor
    · rintro rfl
      exact ⟨rfl, fun x hx => nomatch hx⟩
    · exact fun h => List.length_eq_zero_iff.mp h.1
  | k + 1, f => by
    show f ∈ (allN k).flatMap (fun f => (List.range 3).map fun n => f ++ [n]) ↔ _
    rw [List.mem_flatMap]
    constructor
    · rintro ⟨g, hg, h⟩
      obtain ⟨n, hn, rfl⟩ := List.mem_map.mp h
      obtain ⟨h1, h2⟩ := (all_mem k g).mp hg
      have hn := List.mem_range.mp hn
      refine ⟨by rw [List.length_append, List.length_singleton, h1], fun x hx => ?_⟩
      rcases List.mem_append.mp hx with hx | hx
      · exact h2 x hx
      · rw [List.mem_singleton.mp hx]
        omega
    · rintro ⟨h1, h2⟩
      have hne : f ≠ [] := fun z => by rw [z] at h1; cases h1
      refine ⟨f.dropLast, (all_mem k _).mpr ⟨by rw [List.length_dropLast, h1]; rfl, fun x hx => h2 x ((List.dropLast_sublist f).subset hx)⟩, List.mem_map.mpr ⟨f.getLast hne, List.mem_range.mpr (by have := h2 _ (List.getLast_mem hne); omega), List.dropLast_concat_getLast hne⟩⟩
def extD (l : List (List Nat)) : List PyData := l.flatMap fun f => (List.range 3).map fun n => PyData.list (numD (f ++ [n]))
theorem ext_len (l : List (List Nat)) : (extD l).length = 3 * l.length := by
  unfold extD
  induction l with
  | nil => rfl
  | cons f l ih =>
    rw [List.flatMap_cons, List.length_append, ih, List.length_map, List.length_range, List.length_cons]
    omega
theorem ext_all (k : Nat) : extD (allN k) = (allN (k + 1)).map fun f => PyData.list (numD f) := by
  show _ = ((allN k).flatMap fun f => (List.range 3).map fun n => f ++ [n]).map _
  unfold extD
  rw [List.map_flatMap]
  congr 1
def pre__law_all (ds : List PyData) (φ : PyData → Prop) : Prop := ∃ many : Nat, ds = [.int (many : Int), .int 2] ∧ many ≤ 5 ∧ φ (.list ((allN many).map fun f => .list (numD f)))
theorem len__law_all : ∀ ds φ, pre__law_all ds φ → ds.length = 2 := by rintro _ φ ⟨m, rfl, _⟩; rfl
theorem ok__law_all (T : Txt P K mg) : FnG P w K mg base CX0 1 T.a__law_all T.d__law_all ["many", "long"] (SpD pre__law_all) := by
  refine FnG.ok0 T.F__law_all sc__law_all (sp_len len__law_all) (fun cdv A outer s H vs Q E hr hg h => ?_)
  refine ⟨_, (pss_cons (ps_set (i := 2) sc__law_all.nd rfl (by first | exact Or.inl rfl | exact Or.inr rfl) (pe_lst (pa_cons (pe_lst pa_nil) pa_nil)))
      (pss_cons (ps_for PassesOwn.never rfl (pi_r1 rfl T.z_range (pa_cons (pv 0) pa_nil)) (pg_name (i := 3) sc__law_all.nd rfl (by first | exact Or.inl rfl | exact Or.inr rfl)) (pss_cons (ps_set (i := 4) sc__law_all.nd rfl (by first | exact Or.inl rfl | exact Or.inr rfl) (pe_lst pa_nil))
      (pss_cons (ps_for PassesOwn.never rfl (k_plist (K := K) rfl (pv 2)) (pg_name (i := 5) sc__law_all.nd rfl (by first | exact Or.inl rfl | exact Or.inr rfl)) (pss_one (ps_set (i := 4) sc__law_all.nd rfl (by first | exact Or.inl rfl | exact Or.inr rfl) (pe_op (k_add (K := K) rfl) (pv 4) (pe_lc (own := [("n", 6)]) rfl sc__law_all.nd (pi_r1 rfl T.z_range (pa_cons (pe_op (k_add (K := K) rfl) (pv 1) pe_int) pa_nil)) (blkOk_by (own := [("n", 6)]) (N := nm__law_all) (by rfl)) (fun _ _ _ _ _ => (pg_name (i := 6) sc__law_all.nd rfl (by first | exact Or.inl rfl | exact Or.inr rfl))) (fun _ _ _ _ _ => pts_nil) (fun _ _ _ _ _ => (pe_op (k_add (K := K) rfl) (pv 5) (pe_lst (pa_cons (pv 6) pa_nil)))))))))
      (pss_one (ps_set (i := 2) sc__law_all.nd rfl (by first | exact Or.inl rfl | exact Or.inr rfl) (pv 4))))))
      (pss_one (ps_ret (pv 2))))), fn_pure (by decide) len__law_all (fun F G0 ds φ hp => ?_) h⟩
  obtain ⟨many, rfl, hm, q⟩ := hp
  walk_at "dv"
  refine q_for (js := [3]) (wi_r1 ?_)
  walk_at "dv"
  refine ⟨fun i ρ => ∃ s3 s4 s5, ρ = [.val (.int (many : Int)), .val (.int 2), .val (.list ((allN i).map fun f => .list (numD f))), s3, s4, s5, .any], ⟨_, _, _, rfl⟩, ?_, ?_⟩
  · rintro i d _ hd ⟨s3, s4, s5, rfl⟩
    obtain ⟨hi, rfl⟩ := inz_get hd
    have hi' : i < many := by rw [Int.toNat_natCast] at hi; exact hi
    have hlen : (allN i).length ≤ 243 := by
      rw [all_len]
      rcases (by omega : i = 0 ∨ i = 1 ∨ i = 2 ∨ i = 3 ∨ i = 4) with rfl | rfl | rfl | rfl | rfl <;> decide
    refine wg_name ?_
    refine q_seq (q_set (we_new (wn_lst (wa_nil (len_ok (by simp) ?_)))))
    refine q_seq (q_for (js := [5]) (wi_list ?_))
    walk_at "dv"
    refine ⟨fun j ρ => ∃ s5, ρ = [.val (.int (many : Int)), .val (.int 2), .val (.list ((allN i).map fun f => .list (numD f))), .val (.int (0 + (i : Int))), .val (.list (extD ((allN i).take j))), s5, .any], ⟨_, rfl⟩, ?_, ?_⟩
    · rintro j d _ hd2 ⟨s5, rfl⟩
      have hj : j < (allN i).length := by
        have := (List.getElem?_eq_some_iff.mp hd2).1
        rw [List.length_map] at this
        exact this
      obtain rfl : PyData.list (numD (allN i)[j]) = d := by
        rw [List.getElem?_map, List.getElem?_eq_getElem hj] at hd2
        exact Option.some.inj hd2
      have hfl : ((allN i)[j]).length = i := ((all_mem i _).mp (List.getElem_mem hj)).1
      have eE : extD ((allN i).take (j + 1)) = extD ((allN i).take j) ++ (List.range 3).map fun k => PyData.list (numD ((allN i)[j] ++ [k])) := by
        rw [List.take_add_one, List.getElem?_eq_getElem hj]
        unfold extD
        rw [List.flatMap_append]
        simp
      refine wg_name ?_
      walk_at "dv"
      refine we_new (wn_lcM (α := Nat) (js := [6]) (by decide) (wi_r1 ?_))
      walk_at "dv"
      refine ⟨List.range 3, fun (k : Nat) => .int (0 + (k : Int)), rfl, by simp, rfl, fun k => .list (numD ((allN i)[j] ++ [k])), fun k hk => ?_, ?_⟩
      · refine wg_name ⟨rfl, ?_⟩
        walk_at "dv"
        refine op2_addL (by unfold numD; rw [List.length_map, hfl]; simp; omega) ⟨rfl, ?_⟩
        unfold numD
        rw [List.map_append, Int.zero_add]
        rfl
      refine op2_addL (by rw [ext_len, List.length_map, List.length_range, List.length_take]; omega) ?_
      exact ⟨.val (.list (numD (allN i)[j])), by rw [eE]⟩
    · rintro _ ⟨s5, rfl⟩
      rw [List.length_map, List.take_of_length_le (Nat.le_refl _), ext_all]
      walk_at "dv"
      exact ⟨_, _, _, rfl⟩
  · rintro _ ⟨s3, s4, s5, rfl⟩
    rw [inz_len, Int.toNat_natCast]
    walk_at "dv"
    exact q
end

section
variable {P : Program} {w : World} {K : PySem.W.Frag} {mg : Str → Option Value} {base : Heap}
theorem oks_line {p : Nat × Nat} (h : p.1 ≤ 1000 ∧ p.2 ≤ 1000) : OksN 1 27 (pairD p) := by
  refine (OksN.tuple (n := 0) (m := 10) fun e he => ?_).mono (by decide) (by simp)
  simp only [List.mem_cons, List.not_mem_nil, or_false] at he
  rcases he with rfl | rfl
  · exact OksN.nat (by omega)
  · exact OksN.nat (by omega)
theorem oks_pairs {ls : List (Nat × Nat)} (h : ∀ p ∈ ls, p.1 ≤ 1000 ∧ p.2 ≤ 1000) (hl : ls.length ≤ 1000) : OksN 2 100000 (.list (ls.map pairD)) := by
  refine (OksN.list (n := 1) (m := 27) fun d hd => ?_).mono (by decide) (by rw [List.length_map]; omega)
  obtain ⟨p, hp, rfl⟩ := List.mem_map.mp hd
  exact oks_line (h p hp)
theorem oks_nums {ns : List Nat} (h : ∀ n ∈ ns, n ≤ 1000) (hl : ns.length ≤ 1000) : OksN 2 100000 (.list (numD ns)) := by
  refine (OksN.list (n := 1) (m := 27) fun d hd => ?_).mono (by decide) (by unfold numD; rw [List.length_map]; omega)
  obtain ⟨n, hn, rfl⟩ := List.mem_map.mp hd
  exact (OksN.nat (k := 1) (n := n) (by have := h n hn; omega)).mono (Nat.le_refl _) (by decide)
theorem oks_meas {gap ink : Nat} (h1 : gap ≤ 1000) (h2 : ink ≤ 1000) : OksN 2 100000 (measD gap ink) := (oks_line (p := (gap, ink)) ⟨h1, h2⟩).mono (by decide) (by decide)
theorem oks_told {k : Nat} {F : List Nat} (hk : k < 10 ^ 10) (h : ∀ n ∈ F, n ≤ 1000) (hl : F.length ≤ 1000) : Oks (PyData.tuple [.int (k : Int), .list (numD F)]) := (OksN.tuple (n := 2) (m := 100000) fun d hd => by
  simp only [List.mem_cons, List.not_mem_nil, or_false] at hd
  rcases hd with rfl | rfl
  · exact (OksN.nat (k := 2) (n := k) hk).mono (Nat.le_refl _) (by decide)
  · exact oks_nums h hl).oks (by decide) (by show 3 + 2 * (100000 + 2) ≤ 16777216; decide)
theorem dist_le : ∀ {a : List (Nat × Nat)} {x : List Nat}, (∀ p ∈ a, p.1 ≤ 400) → (∀ n ∈ x, n ≤ 400) → dist a x ≤ 800 * a.length
  | [], _, _, _ => Nat.zero_le _
  | p :: a, [], _, _ => Nat.zero_le _
  | p :: a, n :: x, hp, hn => by
    have ih := dist_le (a := a) (x := x) (fun q hq => hp q (List.mem_cons_of_mem _ hq)) (fun k hk => hn k (List.mem_cons_of_mem _ hk))
    have h1 := hp p (List.mem_cons_self ..)
    have h2 := hn n (List.mem_cons_self ..)
    show (p.1 - n) + (n - p.1 - p.2) + dist a x ≤ _
    rw [List.length_cons]
    omega
/-- what a told filling is -/
theorem told_is {ls : List (Nat × Nat)} {long gap ink k : Nat} {ps : List (Nat × Nat)} {F : List Nat} (h0 : 0 < gap) (hls : ∀ p ∈ ls, p.1 + p.2 ≤ long) (hg : GoodP ls.length gap 0 ps) (e : fillP long gap ink ls 0 ps 0 [] = some (k, F)) : F.length = ls.length ∧ (∀ x ∈ F, x ≤ long) ∧ dist ls F = k ∧ keepsB gap ink F 0 ps = true := by
  obtain ⟨X, eX, h1, h2, h3, h4⟩ := fill_sound h0 hls ps 0 0 0 k [] F (Nat.le_refl _) (Nat.zero_le _) rfl (fun x hx => nomatch hx) hg e
  have eX : F = X := eX
  subst eX
  rw [List.drop_zero, Nat.zero_add] at h3
  exact ⟨h1, h2, h3, h4⟩
def pre__law_good (ds : List PyData) (φ : PyData → Prop) : Prop := ∃ (ls : List (Nat × Nat)) (long gap ink : Nat) (ps : List (Nat × Nat)), ds = [.list (ls.map pairD), .int (long : Int), measD gap ink, .list (ps.map pairD)] ∧ ls.length ≤ 400 ∧ (∀ p ∈ ls, p.1 + p.2 ≤ long) ∧ long ≤ 400 ∧ 1 ≤ gap ∧ gap ≤ 12 ∧ 1 ≤ ink ∧ ink ≤ 50 ∧ ps.length ≤ 400 ∧ GoodP ls.length gap 0 ps ∧ φ (.bool true)
theorem len__law_good : ∀ ds φ, pre__law_good ds φ → ds.length = 4 := by rintro _ φ ⟨ls, long, gap, ink, ps, rfl, _⟩; rfl
theorem ok__law_good (T : Txt P K mg) : FnG P w K mg base CX0 7 T.a__law_good T.d__law_good ["lines", "long", "measure", "reading"] (SpD pre__law_good) := by
  refine FnG.ok0 T.F__law_good sc__law_good (sp_len len__law_good) (fun cdv A outer s H vs Q E hr hg h => ?_)
  refine ⟨_, (pss_cons (ps_par (i := 4) (j := 5) rfl sc__law_good.nd rfl rfl (by decide) rfl rfl (pa_cons (pe_cg (ok__law_cost (P := P) (w := w) (base := base) T) (by exact hr.mono (by first | decide | omega)) (by exact hg) (by rfl) T.g__law_cost T.F__law_cost.kp (b__law_cost T.F__law_cost) .nil pass0 (pa_cons (pv 0) (pa_cons (pv 1) (pa_cons (pv 2) (pa_cons (pv 3) pa_nil))))) (pa_cons (pe_callB (call_repr (by exact hg) (by exact hr.units)) (by rfl) T.z_repr (by decide +kernel) (pa_cons (pe_lst (pa_cons (pv 0) (pa_cons (pv 2) (pa_cons (pv 3) pa_nil)))) pa_nil)) pa_nil)) (by rfl))
      (pss_cons (ps_set (i := 6) sc__law_good.nd rfl (by first | exact Or.inl rfl | exact Or.inr rfl) (pe_cg (ok2_least_filling (P := P) (w := w) (base := base) T) (by exact hr.mono (by first | decide | omega)) (by exact hg) (by rfl) T.g_least_filling T.F_least_filling.kp (b_least_filling T.F_least_filling) .nil passF (pa_cons (pv 0) (pa_cons (pv 1) (pa_cons (pv 2) (pa_cons (pv 3) pa_nil))))))
      (pss_cons (ps_set (i := 7) sc__law_good.nd rfl (by first | exact Or.inl rfl | exact Or.inr rfl) (pe_cgK0 (ok2_least_filling (P := P) (w := w) (base := base) T) (by exact hr.mono (by first | decide | omega)) (by exact hg) (by rfl) T.g_least_filling T.F_least_filling.kp (kb_least_filling_parting_measure_lines_long T.F_least_filling) passF (pk_cons (pv 3) (pk_cons (pv 2) (pk_cons (pv 0) (pk_cons (pv 1) pk_nil))))))
      (pss_cons (ps_if (PW.pt (pw_or (pt_cmpR (k_ne (K := K) rfl (by exact hr.units)) (pe_callB (call_repr (by exact hg) (by exact hr.units)) (by rfl) T.z_repr (by decide +kernel) (pa_cons (pv 6) pa_nil)) (pe_callB (call_repr (by exact hg) (by exact hr.units)) (by rfl) T.z_repr (by decide +kernel) (pa_cons (pv 7) pa_nil)) (nomark _)) (pw_or1 (pt_cmpR (k_ne (K := K) rfl (by exact hr.units)) (pe_callB (call_repr (by exact hg) (by exact hr.units)) (by rfl) T.z_repr (by decide +kernel) (pa_cons (pe_lst (pa_cons (pv 0) (pa_cons (pv 2) (pa_cons (pv 3) pa_nil)))) pa_nil)) (pv 5) (nomark _))))) (pss_one (ps_ret pe_bl)) pss_nil)
      (pss_cons (ps_if (PW.pt (pw_or (pt_cmpR op_isN' (pv 4) pe_non (nomark _)) (pw_or1 (pt_cmpR op_isN' (pv 6) pe_non (nomark _))))) (pss_one (ps_ret (k_andT (K := K) rfl (pe_cmpR op_isN' (pv 4) pe_non (nomark _)) (pe_one (pe_cmpR op_isN' (pv 6) pe_non (nomark _)))))) pss_nil)
      (pss_cons (ps_if (PW.pt (pw_or (pt_not (k_tru (K := K) rfl (pe_callB (k_isi (K := K) rfl) (by rfl) T.z_isinstance (by decide +kernel) (pa_cons (pv 6) (pa_cons (pe_bltn (v := .ty "tuple") (u := .type "tuple") (by rfl) T.z_tuple (by decide +kernel) rfl) pa_nil))) (by intro _; rfl))) (pw_or (pt_cmpR (k_ne (K := K) rfl (by exact hr.units)) (pe_callB (k_len (K := K) rfl) (by rfl) T.z_len (by decide +kernel) (pa_cons (pv 6) pa_nil)) pe_int (nomark _)) (pw_or (pt_cmpR (k_ne (K := K) rfl (by exact hr.units)) (pe_callB (call_repr (by exact hg) (by exact hr.units)) (by rfl) T.z_repr (by decide +kernel) (pa_cons (pe_ix (k_ix (K := K) rfl) (pv 6) pe_int (fun _ _ => rfl)) pa_nil)) (pe_callB (call_repr (by exact hg) (by exact hr.units)) (by rfl) T.z_repr (by decide +kernel) (pa_cons (pv 4) pa_nil)) (nomark _)) (pw_or1 (pt_not (k_tru (K := K) rfl (pe_cg (ok__law_is_filling (P := P) (w := w) (base := base) T) (by exact hr.mono (by first | decide | omega)) (by exact hg) (by rfl) T.g__law_is_filling T.F__law_is_filling.kp (b__law_is_filling T.F__law_is_filling) .nil pass0 (pa_cons (pe_ix (k_ix (K := K) rfl) (pv 6) pe_int (fun _ _ => rfl)) (pa_cons (pe_callB (k_len (K := K) rfl) (by rfl) T.z_len (by decide +kernel) (pa_cons (pv 0) pa_nil)) (pa_cons (pv 1) pa_nil)))) (by intro _; rfl)))))))) (pss_one (ps_ret pe_bl)) pss_nil)
      (pss_cons (ps_if (PW.pt (pw_or (pt_cmpR (k_ne (K := K) rfl (by exact hr.units)) (pe_cg (ok__law_distance (P := P) (w := w) (base := base) T) (by exact hr.mono (by first | decide | omega)) (by exact hg) (by rfl) T.g__law_distance T.F__law_distance.kp (b__law_distance T.F__law_distance) .nil pass0 (pa_cons (pv 0) (pa_cons (pe_ix (k_ix (K := K) rfl) (pv 6) pe_int (fun _ _ => rfl)) pa_nil))) (pv 4) (nomark _)) (pw_or1 (pt_not (k_tru (K := K) rfl (pe_cg (ok__law_keeps (P := P) (w := w) (base := base) T) (by exact hr.mono (by first | decide | omega)) (by exact hg) (by rfl) T.g__law_keeps T.F__law_keeps.kp (b__law_keeps T.F__law_keeps) .nil pass0 (pa_cons (pe_ix (k_ix (K := K) rfl) (pv 6) pe_int (fun _ _ => rfl)) (pa_cons (pv 2) (pa_cons (pv 3) pa_nil)))) (by intro _; rfl)))))) (pss_one (ps_ret pe_bl)) pss_nil)
      (pss_cons (ps_expr (k_append (K := K) rfl (pe_ix (k_ix (K := K) rfl) (pv 6) pe_int (fun _ _ => rfl)) (pa_cons pe_int pa_nil)))
      (pss_one (ps_ret (pe_cmpR (k_eq (K := K) rfl (by exact hr.units)) (pe_callB (call_repr (by exact hg) (by exact hr.units)) (by rfl) T.z_repr (by decide +kernel) (pa_cons (pe_cg (ok2_least_filling (P := P) (w := w) (base := base) T) (by exact hr.mono (by first | decide | omega)) (by exact hg) (by rfl) T.g_least_filling T.F_least_filling.kp (b_least_filling T.F_least_filling) .nil passF (pa_cons (pv 0) (pa_cons (pv 1) (pa_cons (pv 2) (pa_cons (pv 3) pa_nil))))) pa_nil)) (pe_callB (call_repr (by exact hg) (by exact hr.units)) (by rfl) T.z_repr (by decide +kernel) (pa_cons (pv 7) pa_nil)) (nomark _)))))))))))), fn_pure (by decide) len__law_good (fun F G0 ds φ hp => ?_) h⟩
  obtain ⟨ls, long, gap, ink, ps, rfl, hll, hls, hlong, m1, m2, m3, m4, hpl, hg, q⟩ := hp
  have okk : Oks (PyData.list [.list (ls.map pairD), measD gap ink, .list (ps.map pairD)]) := (OksN.list (n := 2) (m := 100000) fun d hd => by
    simp only [List.mem_cons, List.not_mem_nil, or_false] at hd
    rcases hd with rfl | rfl | rfl
    · exact oks_pairs (fun p hp => by have := hls p hp; omega) (by omega)
    · exact oks_meas (by omega) (by omega)
    · exact oks_pairs (fun p hp => by have := good_low hg p hp; omega) (by omega)).oks (by decide) (by show 2 + 3 * (100000 + 2) ≤ 16777216; decide)
  have ec := cost_fill (ink := ink) m1 hls ps 0 0 []
  have okn : Oks .none := (OksN.none (n := 0)).oks (by decide) (by decide)
  walk_at "dv"
  refine ⟨ls, long, gap, ink, ps, rfl, hll, hls, m1, m2, hpl, hg, ?_⟩
  walk_at "dv"
  refine (opc_repr okk ?_).op
  refine wa_nil ⟨_, _, rfl, ?_⟩
  refine q_seq (q_setO (wr_call ?_))
  walk_at "dv"
  refine ⟨ls, long, gap, ink, ps, rfl, hll, hls, hlong, m1, m2, m3, m4, hg, fun e L => ?_, fun k F e L => ?_⟩
  · rw [ec, e]
    refine q_seq (q_set (we_own (wr_callK ?_)))
    walk_at "dv"
    refine ⟨ls, long, gap, ink, ps, rfl, hll, hls, hlong, m1, m2, m3, m4, hg, fun _ => ?_, fun k F e2 => (by rw [e] at e2; cases e2)⟩
    show Ws _ _ _ [.val (.list (ls.map pairD)), .val (.int (long : Int)), .val (measD gap ink), .val (.list (ps.map pairD)), .val (.none), .val (.str (PyData.list [.list (ls.map pairD), measD gap ink, .list (ps.map pairD)]).shown), .res (own L (.none)), .val (.none)] _
    refine q_seq (q_if (wt_lend (i := 6) rfl ?_))
    walk_at "dv"
    refine (opc_repr okn ?_).op
    walk_at "dv"
    refine (opc_repr okn ?_).op
    walk_at "dv"
    refine (opc_repr okk ?_).op
    refine we_var rfl ((op2_neS ⟨_, rfl, ?_⟩).op)
    rw [show (!((PyData.list [.list (ls.map pairD), measD gap ink, .list (ps.map pairD)]).shown == (PyData.list [.list (ls.map pairD), measD gap ink, .list (ps.map pairD)]).shown)) = false by simp]
    refine wt_f (q_nx ?_)
    refine q_seq (q_if ?_)
    walk_at "dv"
    refine we_lend (i := 6) rfl (we_var rfl ⟨rfl, ?_⟩)
    walk_at "dv"
    exact q
  · rw [ec, e]
    obtain ⟨t1, t2, t3, t4⟩ := told_is m1 hls hg e
    have hk : k ≤ 320000 := by
      rw [← t3]
      have := dist_le (a := ls) (x := F) (fun p hp => by have := hls p hp; omega) (fun n hn => by have := t2 n hn; omega)
      omega
    have okt : Oks (PyData.tuple [.int (k : Int), .list (numD F)]) := oks_told (by omega) (fun n hn => by have := t2 n hn; omega) (by omega)
    have oki : Oks (.int (k : Int)) := (OksN.nat (k := 0) (n := k) (by omega)).oks (by decide) (by decide)
    refine q_seq (q_set (we_own (wr_callK ?_)))
    walk_at "dv"
    refine ⟨ls, long, gap, ink, ps, rfl, hll, hls, hlong, m1, m2, m3, m4, hg, fun e2 => (by rw [e] at e2; cases e2), fun k2 F2 e2 => ?_⟩
    rw [e] at e2
    injection e2 with e2
    injection e2 with e3 e4
    subst e3 e4
    show Ws _ _ _ [.val (.list (ls.map pairD)), .val (.int (long : Int)), .val (measD gap ink), .val (.list (ps.map pairD)), .val (.int (k : Int)), .val (.str (PyData.list [.list (ls.map pairD), measD gap ink, .list (ps.map pairD)]).shown), .res (own L (PyData.tuple [.int (k : Int), .list (numD F)])), .val (PyData.tuple [.int (k : Int), .list (numD F)])] _
    refine q_seq (q_if (wt_lend (i := 6) rfl ?_))
    walk_at "dv"
    refine (opc_repr okt ?_).op
    walk_at "dv"
    refine (opc_repr okt ?_).op
    walk_at "dv"
    rw [show (!((PyData.tuple [.int (k : Int), .list (numD F)]).shown == (PyData.tuple [.int (k : Int), .list (numD F)]).shown)) = false by simp]
    walk_at "dv"
    refine (opc_repr okk ?_).op
    refine we_var rfl ((op2_neS ⟨_, rfl, ?_⟩).op)
    rw [show (!((PyData.list [.list (ls.map pairD), measD gap ink, .list (ps.map pairD)]).shown == (PyData.list [.list (ls.map pairD), measD gap ink, .list (ps.map pairD)]).shown)) = false by simp]
    refine wt_f (q_nx ?_)
    refine q_seq (q_if (Wt.imp (Φ := fun b ρ1 => b = false ∧ ρ1 = [.val (.list (ls.map pairD)), .val (.int (long : Int)), .val (measD gap ink), .val (.list (ps.map pairD)), .val (.int (k : Int)), .val (.str (PyData.list [.list (ls.map pairD), measD gap ink, .list (ps.map pairD)]).shown), .res (own L (PyData.tuple [.int (k : Int), .list (numD F)])), .val (PyData.tuple [.int (k : Int), .list (numD F)])]) ?_ ?_))
    · refine wt_lend (i := 6) rfl ?_
      walk_at "dv"
      exact ⟨rfl, rfl⟩
    rintro _ _ ⟨rfl, rfl⟩
    refine wt_f (q_nx ?_)
    refine q_seq (q_if (Wt.imp (Φ := fun b ρ1 => b = false ∧ ρ1 = [.val (.list (ls.map pairD)), .val (.int (long : Int)), .val (measD gap ink), .val (.list (ps.map pairD)), .val (.int (k : Int)), .val (.str (PyData.list [.list (ls.map pairD), measD gap ink, .list (ps.map pairD)]).shown), .res (own L (PyData.tuple [.int (k : Int), .list (numD F)])), .val (PyData.tuple [.int (k : Int), .list (numD F)])]) ?_ ?_))
    · refine wt_lend (i := 6) rfl ?_
      walk_at "dv"
      refine op2_ixT atI_zero ?_
      walk_at "dv"
      refine (opc_repr oki ?_).op
      walk_at "dv"
      refine (opc_repr oki ?_).op
      walk_at "dv"
      rw [show (!((PyData.int (k : Int)).shown == (PyData.int (k : Int)).shown)) = false by simp]
      walk_at "dv"
      refine op2_ixT (d := .list (numD F)) rfl ?_
      walk_at "dv"
      rw [List.length_map, ← t1]
      refine ⟨F, long, rfl, by omega, t2, ?_⟩
      walk_at "dv"
      exact ⟨rfl, rfl⟩
    rintro _ _ ⟨rfl, rfl⟩
    refine wt_f (q_nx ?_)
    refine q_seq (q_if (Wt.imp (Φ := fun b ρ1 => b = false ∧ ρ1 = [.val (.list (ls.map pairD)), .val (.int (long : Int)), .val (measD gap ink), .val (.list (ps.map pairD)), .val (.int (k : Int)), .val (.str (PyData.list [.list (ls.map pairD), measD gap ink, .list (ps.map pairD)]).shown), .res (own L (PyData.tuple [.int (k : Int), .list (numD F)])), .val (PyData.tuple [.int (k : Int), .list (numD F)])]) ?_ ?_))
    · refine wt_lend (i := 6) rfl ?_
      walk_at "dv"
      refine op2_ixT (d := .list (numD F)) rfl ?_
      walk_at "dv"
      refine ⟨ls, F, rfl, hll, ?_⟩
      rw [t3]
      walk_at "dv"
      rw [show (!((k : Int) == (k : Int))) = false by simp]
      walk_at "dv"
      refine op2_ixT (d := .list (numD F)) rfl ?_
      walk_at "dv"
      refine ⟨F, gap, ink, ps, rfl, by omega, m1, m2, hpl, by rw [t1]; exact hg, ?_⟩
      rw [t4]
      walk_at "dv"
      exact ⟨rfl, rfl⟩
    rintro _ _ ⟨rfl, rfl⟩
    refine wt_f (q_nx ?_)
    refine q_seq (q_appP rfl (by unfold numD; rw [List.length_map]; omega) ?_)
    walk_at "dv"
    refine ⟨ls, long, gap, ink, ps, rfl, hll, hls, hlong, m1, m2, m3, m4, hg, fun e2 => (by rw [e] at e2; cases e2), fun k2 F2 e2 => ?_⟩
    rw [e] at e2
    injection e2 with e2
    injection e2 with e3 e4
    subst e3 e4
    walk_at "dv"
    refine (opc_repr okt ?_).op
    walk_at "dv"
    refine (opc_repr okt ?_).op
    walk_at "dv"
    rw [show ((PyData.tuple [.int (k : Int), .list (numD F)]).shown == (PyData.tuple [.int (k : Int), .list (numD F)]).shown) = true by simp]
    exact q
end

section
variable {P : Program} {w : World} {K : PySem.W.Frag} {mg : Str → Option Value} {base : Heap}
theorem pairs_inj : ∀ {xs ys : List (Nat × Nat)}, xs.map pairD = ys.map pairD → xs = ys
  | [], [], _ => rfl
  | [], _ :: _, h => by cases h
  | _ :: _, [], h => by cases h
  | (a, b) :: xs, (c, d) :: ys, h => by
    rw [List.map_cons, List.map_cons] at h
    injection h with h1 h2
    have h1 : PyData.tuple [.int (a : Int), .int (b : Int)] = .tuple [.int (c : Int), .int (d : Int)] := h1
    injection h1 with h1
    injection h1 with h3 h4
    injection h4 with h4 _
    injection h3 with h3
    injection h4 with h4
    rw [show a = c by omega, show b = d by omega, pairs_inj h2]
theorem lf_good {ls : List (Nat × Nat)} {long gap ink : Nat} {ps : List (Nat × Nat)} (hll : ls.length ≤ 400) (hls : ∀ p ∈ ls, p.1 + p.2 ≤ long) (hlong : long ≤ 400) (m1 : 1 ≤ gap) (m2 : gap ≤ 12) (m3 : 1 ≤ ink) (m4 : ink ≤ 50) (hg : GoodP ls.length gap 0 ps) {φ : PyData → Prop} {ψ : String → PyData → Prop} (q : goodLf ls long gap ink ps φ) :
    pre_least_filling [.list (ls.map pairD), .int (long : Int), measD gap ink, .list (ps.map pairD)] φ ψ := by
  have ip : isWh (long : Int) 0 (some 400) = true := isWh_in (by omega) (by omega)
  refine ⟨_, _, _, _, rfl, fun h => no_wh ip h, fun l el _ => ?_⟩
  injection el with el
  obtain rfl : long = l := by omega
  refine ⟨fun h => (by rw [lines_ok hll hls] at h; cases h), fun _ => ⟨fun h => (by rw [meas_ok m1 m2 m3 m4] at h; cases h), fun ls2 gap2 ink2 e1 e2 _ => ?_⟩⟩
  obtain rfl : ls = ls2 := pairs_inj (by injection e1)
  injection e2 with e2
  injection e2 with e3 e4
  injection e4 with e4 _
  injection e3 with e3
  injection e4 with e4
  obtain rfl : gap = gap2 := by omega
  obtain rfl : ink = ink2 := by omega
  refine ⟨fun h => (by rw [parts_ok hg] at h; cases h), fun ps2 e5 _ => ?_⟩
  obtain rfl : ps = ps2 := pairs_inj (by injection e5)
  exact q
def pre__law_small_good (m : Nat) (ds : List PyData) (φ : Nat → PyData → Prop) : Prop := ds = [] ∧ m + 10000 ≤ 2 ^ 40 ∧ ∀ m', m' ≤ m + 10000 → φ m' (.bool true)
theorem len__law_small_good : ∀ m ds φ, pre__law_small_good m ds φ → ds.length = 0 := by rintro m _ φ ⟨rfl, _⟩; rfl
theorem ok__law_small_good (T : Txt P K mg) : FnG P w K mg base CX0 8 T.a__law_small_good T.d__law_small_good ["generator"] (SpZ PZ pre__law_small_good) := by
  refine FnG.ok0 T.F__law_small_good sc__law_small_good (spz_len len__law_small_good) (fun cdv A outer s H vs Q E hr hg h => ?_)
  refine ⟨_, (pss_cons (ps_set (i := 1) sc__law_small_good.nd rfl (by first | exact Or.inl rfl | exact Or.inr rfl) (pe_cg (ok__law_drawn_lines (P := P) (w := w) (base := base) T) (by exact hr.mono (by first | decide | omega)) (by exact hg) (by rfl) T.g__law_drawn_lines T.F__law_drawn_lines.kp (b__law_drawn_lines T.F__law_drawn_lines) .nil pass0 (pa_cons (pv 0) (pa_cons (pe_cg (ok__law_random (P := P) (w := w) (base := base) T) (by exact hr.mono (by first | decide | omega)) (by exact hg) (by rfl) T.g__law_random T.F__law_random.kp (b__law_random T.F__law_random) .nil pass0 (pa_cons (pv 0) (pa_cons pe_int pa_nil))) (pa_cons pe_int pa_nil)))))
      (pss_cons (ps_set (i := 2) sc__law_small_good.nd rfl (by first | exact Or.inl rfl | exact Or.inr rfl) (pe_tup (pa_cons (pe_cg (ok__law_between (P := P) (w := w) (base := base) T) (by exact hr.mono (by first | decide | omega)) (by exact hg) (by rfl) T.g__law_between T.F__law_between.kp (b__law_between T.F__law_between) .nil pass0 (pa_cons (pv 0) (pa_cons pe_int (pa_cons pe_int pa_nil)))) (pa_cons (pe_cg (ok__law_between (P := P) (w := w) (base := base) T) (by exact hr.mono (by first | decide | omega)) (by exact hg) (by rfl) T.g__law_between T.F__law_between.kp (b__law_between T.F__law_between) .nil pass0 (pa_cons (pv 0) (pa_cons pe_int (pa_cons pe_int pa_nil)))) pa_nil))))
      (pss_cons (ps_set (i := 3) sc__law_small_good.nd rfl (by first | exact Or.inl rfl | exact Or.inr rfl) (pe_cg (ok__law_drawn_parts (P := P) (w := w) (base := base) T) (by exact hr.mono (by first | decide | omega)) (by exact hg) (by rfl) T.g__law_drawn_parts T.F__law_drawn_parts.kp (b__law_drawn_parts T.F__law_drawn_parts) .nil pass0 (pa_cons (pv 0) (pa_cons (pe_callB (k_len (K := K) rfl) (by rfl) T.z_len (by decide +kernel) (pa_cons (pv 1) pa_nil)) (pa_cons (pe_ix (k_ix (K := K) rfl) (pv 2) pe_int (fun _ _ => rfl)) pa_nil)))))
      (pss_cons (ps_setLc (i := 4) (own := [("filling", 6)]) (by rfl) sc__law_small_good.nd rfl rfl (sw_true rfl rfl rfl (by decide +kernel)) (k_plist (K := K) rfl (pe_cg (ok__law_all (P := P) (w := w) (base := base) T) (by exact hr.mono (by first | decide | omega)) (by exact hg) (by rfl) T.g__law_all T.F__law_all.kp (b__law_all T.F__law_all) .nil pass0 (pa_cons (pe_callB (k_len (K := K) rfl) (by rfl) T.z_len (by decide +kernel) (pa_cons (pv 1) pa_nil)) (pa_cons pe_int pa_nil)))) (blkOk_by (own := [("filling", 6)]) (N := nm__law_small_good) (by rfl)) (fun _ _ _ _ _ => (pg_name (i := 6) sc__law_small_good.nd rfl (by first | exact Or.inl rfl | exact Or.inr rfl))) (fun _ _ _ _ _ => (pts_one (k_tru (K := K) rfl (pe_cg (ok__law_keeps (P := P) (w := w) (base := base) T) (by exact hr.mono (by first | decide | omega)) (by exact hg) (by rfl) T.g__law_keeps T.F__law_keeps.kp (b__law_keeps T.F__law_keeps) .nil pass0 (pa_cons (pv 6) (pa_cons (pv 2) (pa_cons (pv 3) pa_nil)))) (by intro _; rfl)))) (fun _ _ _ _ _ => (pe_cg (ok__law_distance (P := P) (w := w) (base := base) T) (by exact hr.mono (by first | decide | omega)) (by exact hg) (by rfl) T.g__law_distance T.F__law_distance.kp (b__law_distance T.F__law_distance) .nil pass0 (pa_cons (pv 1) (pa_cons (pv 6) pa_nil)))))
      (pss_cons (ps_set (i := 5) sc__law_small_good.nd rfl (by first | exact Or.inl rfl | exact Or.inr rfl) (pe_cg (ok_least_filling (P := P) (w := w) (base := base) T) (by exact hr.mono (by first | decide | omega)) (by exact hg) (by rfl) T.g_least_filling T.F_least_filling.kp (b_least_filling T.F_least_filling) .nil passF (pa_cons (pv 1) (pa_cons pe_int (pa_cons (pv 2) (pa_cons (pv 3) pa_nil))))))
      (pss_one (ps_ret (k_andT (K := K) rfl (pe_cmpR (k_eq (K := K) rfl (by exact hr.units)) (pe_cmpR op_isN' (pv 5) pe_non (nomark _)) (pe_cmpR (k_eq (K := K) rfl (by exact hr.units)) (pv 4) (pe_lst pa_nil) (nomark _)) (nomark _)) (k_andT (K := K) rfl (k_orT (K := K) rfl (pe_cmpR op_isN' (pv 5) pe_non (nomark _)) (pe_one (pe_cmpR (k_eq (K := K) rfl (by exact hr.units)) (pe_ix (k_ix (K := K) rfl) (pv 5) pe_int (fun _ _ => rfl)) (pe_callB (k_min (K := K) rfl rfl) (by rfl) T.z_min (by decide +kernel) (pa_cons (pv 4) pa_nil)) (nomark _)))) (pe_one (pe_cg (ok__law_good (P := P) (w := w) (base := base) T) (by exact hr.mono (by first | decide | omega)) (by exact hg) (by rfl) T.g__law_good T.F__law_good.kp (b__law_good T.F__law_good) .nil pass0 (pa_cons (pv 1) (pa_cons pe_int (pa_cons (pv 2) (pa_cons (pv 3) pa_nil))))))))))))))), fn_z (by decide) len__law_small_good (fun F G0 p m ds φ hp => ?_) h⟩
  obtain ⟨rfl, hm, q⟩ := hp
  walk_at "dv"
  refine ⟨6, rfl, by decide, by decide, by omega, fun r hr => ?_⟩
  walk_at "dv"
  refine ⟨r, 2, rfl, by omega, by decide, by omega, fun m1 ls hm1 hll hls => ?_⟩
  walk_at "dv"
  refine ⟨1, 3, rfl, by decide, by decide, by omega, fun gap hg1 hg2 => ?_⟩
  walk_at "dv"
  refine ⟨1, 5, rfl, by decide, by decide, by omega, fun ink hi1 hi2 => ?_⟩
  walk_at "dv"
  refine op2_ixT atI_zero ?_
  walk_at "dv"
  rw [List.length_map]
  refine ⟨ls.length, gap, rfl, by omega, hg1, by omega, by omega, fun m2 ps hm2 hpl hg => ?_⟩
  show Ws _ _ _ [.res (lstP p (PZ m2)), .val (.list (ls.map pairD)), .val (measD gap ink), .val (.list (ps.map pairD)), .any, .any, .any] _
  refine q_seq (q_set (we_new (wn_lcT (α := List Nat) (js := [6]) (by decide) (wi_list ?_))))
  walk_at "dv"
  rw [List.length_map]
  refine ⟨ls.length, rfl, by omega, ?_⟩
  have hlen : (allN ls.length).length ≤ 243 := by
    rw [all_len]
    rcases (by omega : ls.length = 0 ∨ ls.length = 1 ∨ ls.length = 2 ∨ ls.length = 3 ∨ ls.length = 4 ∨ ls.length = 5) with h | h | h | h | h | h <;> rw [h] <;> decide
  refine ⟨_, rfl, ?_⟩
  refine ⟨allN ls.length, fun f => .list (numD f), rfl, by omega, rfl, fun f => keepsB gap ink f 0 ps, fun f => .int ((dist ls f : Nat) : Int), fun f hf => ?_, ?_⟩
  · obtain ⟨f1, f2⟩ := (all_mem _ f).mp hf
    refine wg_name ⟨rfl, ?_⟩
    walk_at "dv"
    refine ⟨f, gap, ink, ps, rfl, by omega, hg1, by omega, by omega, by rw [f1]; exact hg, ?_⟩
    refine tru_b ⟨rfl, rfl, fun _ => ?_⟩
    walk_at "dv"
    exact ⟨ls, f, rfl, by omega, rfl, rfl⟩
  have hmem : ∀ f, f ∈ (allN ls.length).filter (fun f => keepsB gap ink f 0 ps) ↔ (f.length = ls.length ∧ ∀ x ∈ f, x ≤ 2) ∧ keepsB gap ink f 0 ps = true := fun f => by
    rw [List.mem_filter, all_mem]
  have hfl : ((allN ls.length).filter (fun f => keepsB gap ink f 0 ps)).length ≤ 243 := Nat.le_trans (List.length_filter_le _ _) hlen
  generalize (allN ls.length).filter (fun f => keepsB gap ink f 0 ps) = fs at hmem hfl
  rw [show (fs.map fun f => PyData.int ((dist ls f : Nat) : Int)) = (fs.map fun f => ((dist ls f : Nat) : Int)).map .int by rw [List.map_map]; rfl]
  have okc : Okd (.list ((fs.map fun f => ((dist ls f : Nat) : Int)).map .int)) := (OkdN.list (n := 0) fun d hd => by
    obtain ⟨i, _, rfl⟩ := List.mem_map.mp hd
    exact .int).okd (by decide)
  show Ws _ _ _ [.res (lstP p (PZ m2)), .val (.list (ls.map pairD)), .val (measD gap ink), .val (.list (ps.map pairD)), .val (.list ((fs.map fun f => ((dist ls f : Nat) : Int)).map .int)), .any, .any] _
  have least := fun f (h : f ∈ fs) => fill_least (long := 2) hg1 hls ((hmem f).mp h).1.1.symm ((hmem f).mp h).1.2 ps 0 0 0 [] (Nat.le_refl _) (Nat.zero_le _) hg ((hmem f).mp h).2
  walk_at "dv"
  refine lf_good (by omega) hls (by decide) hg1 (by omega) hi1 (by omega) hg ⟨fun e => ?_, fun k F e => ?_⟩
  · have hfs : fs = [] := List.eq_nil_iff_forall_not_mem.mpr fun f hf => by
      obtain ⟨k, F', e2, _⟩ := least f hf
      rw [e] at e2
      cases e2
    subst hfs
    walk_at "dv"
    refine (op2_eqNil okc ?_).op
    walk_at "dv"
    exact ⟨ls, 2, gap, ink, ps, rfl, by omega, hls, by decide, hg1, by omega, hi1, by omega, by omega, hg, _, rfl, q _ (by omega)⟩
  · obtain ⟨t1, t2, t3, t4⟩ := told_is hg1 hls hg e
    have hF : F ∈ fs := (hmem F).mpr ⟨⟨t1, t2⟩, t4⟩
    have hle : ∀ f ∈ fs, k ≤ dist ls f := fun f hf => by
      obtain ⟨k2, F2, e2, h2⟩ := least f hf
      rw [e] at e2
      injection e2 with e2
      injection e2 with e3 e4
      rw [List.drop_zero, List.drop_zero, Nat.zero_add] at h2
      omega
    walk_at "dv"
    refine (op2_eqNil okc ?_).op
    have hne : ((fs.map fun f => ((dist ls f : Nat) : Int)).map PyData.int).isEmpty = false := by
      cases fs with
      | nil => cases hF
      | cons a r => rfl
    rw [hne]
    walk_at "dv"
    refine op2_ixT atI_zero ?_
    walk_at "dv"
    refine (opc_min (by rw [List.length_map]; exact List.length_pos_of_mem hF) fun mi hmi hmin => ?_).op
    have emi : mi = (k : Int) := by
      obtain ⟨f, hf, rfl⟩ := List.mem_map.mp hmi
      have h1 := hle f hf
      have h2 := hmin _ (List.mem_map.mpr ⟨F, hF, rfl⟩)
      rw [t3] at h2
      omega
    rw [emi]
    walk_at "dv"
    rw [show ((k : Int) == (k : Int)) = true by simp]
    walk_at "dv"
    exact ⟨ls, 2, gap, ink, ps, rfl, by omega, hls, by decide, hg1, by omega, hi1, by omega, by omega, hg, _, rfl, q _ (by omega)⟩
end

section
variable {P : Program} {w : World} {K : PySem.W.Frag} {mg : Str → Option Value} {base : Heap}
theorem hu_T {T : Txt P K mg} {a : Addr} {q : Str} (h : (a, q) ∈ tabsT T) : ∀ p ∈ tabsT T, p.1 = a → p.2 = q := by
  intro p hp e
  unfold tabsT at h hp
  simp only [List.mem_cons, List.not_mem_nil, or_false, Prod.mk.injEq] at h hp
  rcases h with ⟨rfl, rfl⟩
  rcases hp with rfl
  rfl
theorem m_ref (T : Txt P K mg) : (T.P__law_refused_right, (("_law_refused_right" : Str) ++ ".<locals>.") ++ "<lambda>") ∈ tabsT T := .head _
theorem oks_small {d : PyData} (h1 : d.hasDict = false) (h2 : d.showable = true) (h3 : d.depth ≤ 60) (h4 : d.shown.length ≤ 1000) : Oks d := ⟨h1, h2, h3, by rw [sizeLine_eq]; omega⟩
theorem lf_count {v x a b : PyData} (hx : isWhD 0 (some 400) x = false) {φ : PyData → Prop} {ψ : String → PyData → Prop} (q : ψ "InvalidNumber" x) : pre_least_filling [v, x, a, b] φ ψ := by
  refine ⟨_, _, _, _, rfl, fun _ => q, fun l el hl => ?_⟩
  rw [el] at hx
  exact no_wh (isWh_in (by omega) (by omega)) hx
theorem lf_lines {x a b : PyData} {long : Nat} (hlong : long ≤ 400) (hx : isLines (long : Int) x = false) {φ : PyData → Prop} {ψ : String → PyData → Prop} (q : ψ "InvalidList" x) : pre_least_filling [x, .int (long : Int), a, b] φ ψ := by
  have ip : isWh (long : Int) 0 (some 400) = true := isWh_in (by omega) (by omega)
  refine ⟨_, _, _, _, rfl, fun h => no_wh ip h, fun l el _ => ?_⟩
  injection el with el
  obtain rfl : long = l := by omega
  exact ⟨fun _ => q, fun h => (by rw [hx] at h; cases h)⟩
theorem lf_meas {ls : List (Nat × Nat)} {x b : PyData} {long : Nat} (hll : ls.length ≤ 400) (hls : ∀ p ∈ ls, p.1 + p.2 ≤ long) (hlong : long ≤ 400) (hx : isMeas x = false) {φ : PyData → Prop} {ψ : String → PyData → Prop} (q : ψ "InvalidLayout" x) : pre_least_filling [.list (ls.map pairD), .int (long : Int), x, b] φ ψ := by
  have ip : isWh (long : Int) 0 (some 400) = true := isWh_in (by omega) (by omega)
  refine ⟨_, _, _, _, rfl, fun h => no_wh ip h, fun l el _ => ?_⟩
  injection el with el
  obtain rfl : long = l := by omega
  exact ⟨fun h => (by rw [lines_ok hll hls] at h; cases h), fun _ => ⟨fun _ => q, fun _ _ _ _ _ h => (by rw [hx] at h; cases h)⟩⟩
theorem lf_parts {ls : List (Nat × Nat)} {x : PyData} {long gap ink : Nat} (hll : ls.length ≤ 400) (hls : ∀ p ∈ ls, p.1 + p.2 ≤ long) (hlong : long ≤ 400) (m1 : 1 ≤ gap) (m2 : gap ≤ 12) (m3 : 1 ≤ ink) (m4 : ink ≤ 50) (hx : isParts (ls.length : Int) (gap : Int) x = false) {φ : PyData → Prop} {ψ : String → PyData → Prop} (q : ψ "InvalidList" x) :
    pre_least_filling [.list (ls.map pairD), .int (long : Int), measD gap ink, x] φ ψ := by
  have ip : isWh (long : Int) 0 (some 400) = true := isWh_in (by omega) (by omega)
  refine ⟨_, _, _, _, rfl, fun h => no_wh ip h, fun l el _ => ?_⟩
  injection el with el
  obtain rfl : long = l := by omega
  refine ⟨fun h => (by rw [lines_ok hll hls] at h; cases h), fun _ => ⟨fun h => (by rw [meas_ok m1 m2 m3 m4] at h; cases h), fun ls2 gap2 ink2 e1 e2 _ => ?_⟩⟩
  obtain rfl : ls = ls2 := pairs_inj (by injection e1)
  injection e2 with e2
  injection e2 with e3 e4
  injection e3 with e3
  obtain rfl : gap = gap2 := by omega
  refine ⟨fun _ => q, fun ps2 e5 g => ?_⟩
  rw [e5, parts_ok g] at hx
  cases hx
theorem lines_odd {n : Int} {xs : List PyData} {y : PyData} (h : isLine n y = false) : isLines n (.list (xs ++ [y])) = false := by
  show (decide ((xs ++ [y]).length ≤ 400) && (xs ++ [y]).all (isLine n)) = false
  rw [List.all_append, List.all_cons, h, Bool.false_and, Bool.and_false, Bool.and_false]
theorem lines_far {n : Int} {xs : List PyData} (h : 400 < xs.length) : isLines n (.list xs) = false := by
  show (decide (xs.length ≤ 400) && xs.all (isLine n)) = false
  rw [decide_eq_false (by omega), Bool.false_and]
theorem mem_rep {α : Type} {ds : List α} {n : Nat} {d : α} (h : d ∈ (List.replicate n ds).flatten) : d ∈ ds := by
  obtain ⟨l, hl, hd⟩ := List.mem_flatten.mp h
  rw [List.eq_of_mem_replicate hl] at hd
  exact hd
def farD : List PyData := (List.replicate (401 : Int).toNat [PyData.tuple [.int 0, .int 0]]).flatten
theorem far_len : farD.length = 401 := by decide +kernel
theorem far_oks : Oks (.list farD) := (OksN.list (n := 2) (m := 100) fun d hd => by
  obtain rfl := List.mem_singleton.mp (mem_rep hd)
  exact (oks_line (p := (0, 0)) ⟨by decide, by decide⟩).mono (by decide) (by decide)).oks (by decide) (by rw [far_len]; decide)
theorem rep_pair (n : Nat) : (List.replicate n [PyData.tuple [.int 0, .int 0]]).flatten = (List.replicate n ((0 : Nat), (0 : Nat))).map pairD := by
  induction n with
  | zero => rfl
  | succ n ih =>
    rw [List.replicate_succ, List.flatten_cons, ih]
    rfl
theorem parts_no {many gap free a b : Int} {ds : List PyData} (h : a < free ∨ b - a < gap ∨ many < b ∨ a < 0) : partsOk many gap free (.tuple [.int a, .int b] :: ds) = false := by
  show ((decide (0 ≤ a) && decide (0 ≤ b)) && (!(decide (a < free) || (decide (b - a < gap) || decide (many < b))) && partsOk many gap (b + gap) ds)) = false
  rcases h with h | h | h | h
  · rw [decide_eq_true h, Bool.true_or, Bool.not_true, Bool.false_and, Bool.and_false]
  · rw [decide_eq_true h, Bool.true_or, Bool.or_true, Bool.not_true, Bool.false_and, Bool.and_false]
  · rw [decide_eq_true h, Bool.or_true, Bool.or_true, Bool.not_true, Bool.false_and, Bool.and_false]
  · rw [decide_eq_false (show ¬ 0 ≤ a by omega), Bool.false_and, Bool.false_and]
theorem parts_yes {many gap free a b : Int} {ds : List PyData} (h : partsOk many gap (b + gap) ds = false) : partsOk many gap free (.tuple [.int a, .int b] :: ds) = false := by
  show ((decide (0 ≤ a) && decide (0 ≤ b)) && (!(decide (a < free) || (decide (b - a < gap) || decide (many < b))) && partsOk many gap (b + gap) ds)) = false
  rw [h, Bool.and_false, Bool.and_false]
theorem parts_more {many gap : Int} (hg : 0 < gap) : ∀ (ps : List (Nat × Nat)) (free : Int), partsOk many gap free (ps.map pairD ++ [.tuple [.int 0, .int 0]]) = false
  | [], free => parts_no (.inr (.inl (by omega)))
  | p :: ps, free => parts_yes (parts_more hg ps _)
def pre__law_refused_right (m : Nat) (ds : List PyData) (φ : Nat → PyData → Prop) : Prop := ∃ (ls : List (Nat × Nat)) (long gap ink : Nat) (ps : List (Nat × Nat)), ds = [.list (ls.map pairD), .int (long : Int), measD gap ink, .list (ps.map pairD)] ∧ ls.length ≤ 400 ∧ (∀ p ∈ ls, p.1 + p.2 ≤ long) ∧ long ≤ 400 ∧ 1 ≤ gap ∧ gap ≤ 12 ∧ 1 ≤ ink ∧ ink ≤ 50 ∧ ps.length ≤ 400 ∧ GoodP ls.length gap 0 ps ∧ m + 100 ≤ 2 ^ 40 ∧ ∀ m', m' ≤ m + 100 → φ m' (.bool true)
theorem len__law_refused_right : ∀ m ds φ, pre__law_refused_right m ds φ → ds.length = 4 := by rintro m _ φ ⟨ls, long, gap, ink, ps, rfl, _⟩; rfl
theorem ok__law_refused_right (T : Txt P K mg) (B : Tabs base T) : FnG P w K mg base CX0 10 T.a__law_refused_right T.d__law_refused_right ["generator", "lines", "long", "measure", "reading"] (SpZT (tabsT T) PZ pre__law_refused_right) := by
  refine FnG.okC T.F__law_refused_right sc__law_refused_right (spzt_len len__law_refused_right) (fun A outer s H vs Q E hr hg h => ?_)
  refine ⟨_, (pss_cons (ps_set (i := 5) sc__law_refused_right.nd rfl (by first | exact Or.inl rfl | exact Or.inr rfl) (pe_cg (ok__law_pick (P := P) (w := w) (base := base) T) (by exact hr.mono (by first | decide | omega)) (by exact hg) (by rfl) T.g__law_pick T.F__law_pick.kp (b__law_pick T.F__law_pick) .nil pass0 (pa_cons (pv 0) (pa_cons (pe_lst (pa_cons (pe_op op_sub pe_int pe_int) (pa_cons pe_int (pa_cons pe_bl (pa_cons pe_non pa_nil))))) pa_nil))))
      (pss_cons (ps_if (pt_not (k_tru (K := K) rfl (pe_lamC (kb := 6) (N := ["bad"]) (fr := ["bad"]) (js := [5]) (ok__law_refused (P := P) (w := w) (base := base) T) (by exact hr.mono (by first | decide | omega)) (by exact hg) (by rfl) T.g__law_refused T.F__law_refused.kp (b__law_refused T.F__law_refused) B.t__law_refused_right rfl rfl (NdefX.nscope_by (by decide +kernel)) (NdefX.ndef_free (sc := defScope s__law_refused_right) (fr := ["bad"]) (by decide +kernel)) (NdefX.ndef_fr (sc := defScope s__law_refused_right) (by decide +kernel)) rfl (fun _ _ => rfl) (fun _ _ _ _ _ => rfl) (fun A outer s H E f c' cl hr hg => (pe_cg (ok_least_filling (P := P) (w := w) (base := base) T) (by exact hr.mono (by first | decide | omega)) (by exact hg) (by rfl) T.g_least_filling T.F_least_filling.kp (b_least_filling T.F_least_filling) .nil (passes_call (takes_of rfl rfl rfl rfl) fun _ _ _ _ z => z) (pa_cons pe_non (pa_cons (pv 0) (pa_cons pe_non (pa_cons pe_non pa_nil)))))) (pa_cons pe_int (pa_cons (pv 5) pa_nil))) (by intro _; rfl))) (pss_one (ps_ret pe_bl)) pss_nil)
      (pss_cons (ps_set (i := 6) sc__law_refused_right.nd rfl (by first | exact Or.inl rfl | exact Or.inr rfl) (pe_cg (ok__law_pick (P := P) (w := w) (base := base) T) (by exact hr.mono (by first | decide | omega)) (by exact hg) (by rfl) T.g__law_pick T.F__law_pick.kp (b__law_pick T.F__law_pick) .nil pass0 (pa_cons (pv 0) (pa_cons (pe_lst (pa_cons (pe_callTy (k_tupOf (K := K) rfl) (by rfl) T.z_tuple (by decide +kernel) (pa_cons (pv 1) pa_nil)) (pa_cons (pe_op (k_add (K := K) rfl) (pv 1) (pe_lst (pa_cons (pe_tup (pa_cons (pv 2) (pa_cons pe_int pa_nil))) pa_nil))) (pa_cons pe_non (pa_cons (pe_lst (pa_cons (pe_tup (pa_cons pe_int pa_nil)) pa_nil)) pa_nil))))) pa_nil))))
      (pss_cons (ps_if (pt_not (k_tru (K := K) rfl (pe_lamC (kb := 6) (N := ["odd", "long"]) (fr := ["odd", "long"]) (js := [6, 2]) (ok__law_refused (P := P) (w := w) (base := base) T) (by exact hr.mono (by first | decide | omega)) (by exact hg) (by rfl) T.g__law_refused T.F__law_refused.kp (b__law_refused T.F__law_refused) B.t__law_refused_right rfl rfl (NdefX.nscope_by (by decide +kernel)) (NdefX.ndef_free (sc := defScope s__law_refused_right) (fr := ["odd", "long"]) (by decide +kernel)) (NdefX.ndef_fr (sc := defScope s__law_refused_right) (by decide +kernel)) rfl (fun _ _ => rfl) (fun _ _ _ _ _ => rfl) (fun A outer s H E f c' cl hr hg => (pe_cg (ok_least_filling (P := P) (w := w) (base := base) T) (by exact hr.mono (by first | decide | omega)) (by exact hg) (by rfl) T.g_least_filling T.F_least_filling.kp (b_least_filling T.F_least_filling) .nil (passes_call (takes_of rfl rfl rfl rfl) fun _ _ _ _ z => z) (pa_cons (pv 0) (pa_cons (pv 1) (pa_cons pe_non (pa_cons pe_non pa_nil)))))) (pa_cons pe_int (pa_cons (pv 6) pa_nil))) (by intro _; rfl))) (pss_one (ps_ret pe_bl)) pss_nil)
      (pss_cons (ps_set (i := 7) sc__law_refused_right.nd rfl (by first | exact Or.inl rfl | exact Or.inr rfl) (pe_cg (ok__law_pick (P := P) (w := w) (base := base) T) (by exact hr.mono (by first | decide | omega)) (by exact hg) (by rfl) T.g__law_pick T.F__law_pick.kp (b__law_pick T.F__law_pick) .nil pass0 (pa_cons (pv 0) (pa_cons (pe_lst (pa_cons (pe_tup (pa_cons pe_int (pa_cons pe_int pa_nil))) (pa_cons (pe_tup (pa_cons pe_int (pa_cons pe_int pa_nil))) (pa_cons (pe_lst (pa_cons pe_int (pa_cons pe_int pa_nil))) (pa_cons (pe_tup (pa_cons pe_int (pa_cons pe_int pa_nil))) (pa_cons (pe_tup (pa_cons pe_int (pa_cons pe_int pa_nil))) (pa_cons pe_non (pa_cons (pe_tup (pa_cons pe_int pa_nil)) (pa_cons (pe_tup (pa_cons pe_bl (pa_cons pe_int pa_nil))) pa_nil))))))))) pa_nil))))
      (pss_cons (ps_if (pt_not (k_tru (K := K) rfl (pe_lamC (kb := 6) (N := ["lines", "long", "wrong"]) (fr := ["lines", "long", "wrong"]) (js := [1, 2, 7]) (ok__law_refused (P := P) (w := w) (base := base) T) (by exact hr.mono (by first | decide | omega)) (by exact hg) (by rfl) T.g__law_refused T.F__law_refused.kp (b__law_refused T.F__law_refused) B.t__law_refused_right rfl rfl (NdefX.nscope_by (by decide +kernel)) (NdefX.ndef_free (sc := defScope s__law_refused_right) (fr := ["lines", "long", "wrong"]) (by decide +kernel)) (NdefX.ndef_fr (sc := defScope s__law_refused_right) (by decide +kernel)) rfl (fun _ _ => rfl) (fun _ _ _ _ _ => rfl) (fun A outer s H E f c' cl hr hg => (pe_cg (ok_least_filling (P := P) (w := w) (base := base) T) (by exact hr.mono (by first | decide | omega)) (by exact hg) (by rfl) T.g_least_filling T.F_least_filling.kp (b_least_filling T.F_least_filling) .nil (passes_call (takes_of rfl rfl rfl rfl) fun _ _ _ _ z => z) (pa_cons (pv 0) (pa_cons (pv 1) (pa_cons (pv 2) (pa_cons pe_non pa_nil)))))) (pa_cons pe_int (pa_cons (pv 7) pa_nil))) (by intro _; rfl))) (pss_one (ps_ret pe_bl)) pss_nil)
      (pss_cons (ps_asg (pe_tup (pa_cons (pe_op op_mulU (pe_lst (pa_cons (pe_tup (pa_cons pe_int (pa_cons pe_int pa_nil))) pa_nil)) pe_int) (pa_cons (pe_ix (k_ix (K := K) rfl) (pv 3) pe_int (fun _ _ => rfl)) pa_nil))) (k_tup (K := K) (n := 2) rfl rfl (pgs_cons (pg_name (i := 8) sc__law_refused_right.nd rfl (by first | exact Or.inl rfl | exact Or.inr rfl)) (pgs_cons (pg_name (i := 9) sc__law_refused_right.nd rfl (by first | exact Or.inl rfl | exact Or.inr rfl)) pgs_nil))))
      (pss_cons (ps_if (pt_not (k_tru (K := K) rfl (pe_lamC (kb := 6) (N := ["far", "long"]) (fr := ["far", "long"]) (js := [8, 2]) (ok__law_refused (P := P) (w := w) (base := base) T) (by exact hr.mono (by first | decide | omega)) (by exact hg) (by rfl) T.g__law_refused T.F__law_refused.kp (b__law_refused T.F__law_refused) B.t__law_refused_right rfl rfl (NdefX.nscope_by (by decide +kernel)) (NdefX.ndef_free (sc := defScope s__law_refused_right) (fr := ["far", "long"]) (by decide +kernel)) (NdefX.ndef_fr (sc := defScope s__law_refused_right) (by decide +kernel)) rfl (fun _ _ => rfl) (fun _ _ _ _ _ => rfl) (fun A outer s H E f c' cl hr hg => (pe_cg (ok_least_filling (P := P) (w := w) (base := base) T) (by exact hr.mono (by first | decide | omega)) (by exact hg) (by rfl) T.g_least_filling T.F_least_filling.kp (b_least_filling T.F_least_filling) .nil (passes_call (takes_of rfl rfl rfl rfl) fun _ _ _ _ z => z) (pa_cons (pv 0) (pa_cons (pv 1) (pa_cons pe_non (pa_cons pe_non pa_nil)))))) (pa_cons pe_int (pa_cons (pv 8) pa_nil))) (by intro _; rfl))) (pss_one (ps_ret pe_bl)) pss_nil)
      (pss_cons (ps_asg (pe_tup (pa_cons (pe_op op_mulU (pe_lst (pa_cons (pe_tup (pa_cons pe_int (pa_cons pe_int pa_nil))) pa_nil)) (pe_op op_mulU pe_int (pv 9))) (pa_cons (pe_cg (ok__law_pick (P := P) (w := w) (base := base) T) (by exact hr.mono (by first | decide | omega)) (by exact hg) (by rfl) T.g__law_pick T.F__law_pick.kp (b__law_pick T.F__law_pick) .nil pass0 (pa_cons (pv 0) (pa_cons (pe_lst (pa_cons (pe_lst (pa_cons (pe_tup (pa_cons pe_int (pa_cons (pe_op op_sub (pv 9) pe_int) pa_nil))) pa_nil)) (pa_cons (pe_lst (pa_cons (pe_tup (pa_cons pe_int (pa_cons (pv 9) pa_nil))) (pa_cons (pe_tup (pa_cons (pe_op op_sub (pe_op op_mulU pe_int (pv 9)) pe_int) (pa_cons (pe_op op_sub (pe_op op_mulU pe_int (pv 9)) pe_int) pa_nil))) pa_nil))) (pa_cons (pe_lst (pa_cons (pe_tup (pa_cons (pv 9) (pa_cons (pe_op op_sub (pe_op op_mulU pe_int (pv 9)) pe_int) pa_nil))) pa_nil)) pa_nil)))) pa_nil))) pa_nil))) (k_tup (K := K) (n := 2) rfl rfl (pgs_cons (pg_name (i := 10) sc__law_refused_right.nd rfl (by first | exact Or.inl rfl | exact Or.inr rfl)) (pgs_cons (pg_name (i := 11) sc__law_refused_right.nd rfl (by first | exact Or.inl rfl | exact Or.inr rfl)) pgs_nil))))
      (pss_cons (ps_if (pt_not (k_tru (K := K) rfl (pe_lamC (kb := 6) (N := ["own", "long", "measure", "near"]) (fr := ["own", "long", "measure", "near"]) (js := [10, 2, 3, 11]) (ok__law_refused (P := P) (w := w) (base := base) T) (by exact hr.mono (by first | decide | omega)) (by exact hg) (by rfl) T.g__law_refused T.F__law_refused.kp (b__law_refused T.F__law_refused) B.t__law_refused_right rfl rfl (NdefX.nscope_by (by decide +kernel)) (NdefX.ndef_free (sc := defScope s__law_refused_right) (fr := ["own", "long", "measure", "near"]) (by decide +kernel)) (NdefX.ndef_fr (sc := defScope s__law_refused_right) (by decide +kernel)) rfl (fun _ _ => rfl) (fun _ _ _ _ _ => rfl) (fun A outer s H E f c' cl hr hg => (pe_cg (ok_least_filling (P := P) (w := w) (base := base) T) (by exact hr.mono (by first | decide | omega)) (by exact hg) (by rfl) T.g_least_filling T.F_least_filling.kp (b_least_filling T.F_least_filling) .nil (passes_call (takes_of rfl rfl rfl rfl) fun _ _ _ _ z => z) (pa_cons (pv 0) (pa_cons (pv 1) (pa_cons (pv 2) (pa_cons (pv 3) pa_nil)))))) (pa_cons pe_int (pa_cons (pv 11) pa_nil))) (by intro _; rfl))) (pss_one (ps_ret pe_bl)) pss_nil)
      (pss_cons (ps_set (i := 12) sc__law_refused_right.nd rfl (by first | exact Or.inl rfl | exact Or.inr rfl) (pe_cg (ok__law_pick (P := P) (w := w) (base := base) T) (by exact hr.mono (by first | decide | omega)) (by exact hg) (by rfl) T.g__law_pick T.F__law_pick.kp (b__law_pick T.F__law_pick) .nil pass0 (pa_cons (pv 0) (pa_cons (pe_lst (pa_cons (pe_callTy (k_tupOf (K := K) rfl) (by rfl) T.z_tuple (by decide +kernel) (pa_cons (pv 4) pa_nil)) (pa_cons pe_non (pa_cons (pe_lst (pa_cons (pe_tup (pa_cons pe_int (pa_cons (pe_op (k_add (K := K) rfl) (pe_callB (k_len (K := K) rfl) (by rfl) T.z_len (by decide +kernel) (pa_cons (pv 1) pa_nil)) pe_int) pa_nil))) pa_nil)) (pa_cons (pe_op (k_add (K := K) rfl) (pv 4) (pe_lst (pa_cons (pe_tup (pa_cons pe_int (pa_cons pe_int pa_nil))) pa_nil))) (pa_cons (pe_lst (pa_cons (pe_tup (pa_cons (pe_op op_sub pe_int pe_int) (pa_cons pe_int pa_nil))) pa_nil)) (pa_cons (pe_lst (pa_cons (pe_lst (pa_cons pe_int (pa_cons pe_int pa_nil))) pa_nil)) pa_nil))))))) pa_nil))))
      (pss_one (ps_ret (pe_lamC (kb := 6) (N := ["lines", "long", "measure", "late"]) (fr := ["lines", "long", "measure", "late"]) (js := [1, 2, 3, 12]) (ok__law_refused (P := P) (w := w) (base := base) T) (by exact hr.mono (by first | decide | omega)) (by exact hg) (by rfl) T.g__law_refused T.F__law_refused.kp (b__law_refused T.F__law_refused) B.t__law_refused_right rfl rfl (NdefX.nscope_by (by decide +kernel)) (NdefX.ndef_free (sc := defScope s__law_refused_right) (fr := ["lines", "long", "measure", "late"]) (by decide +kernel)) (NdefX.ndef_fr (sc := defScope s__law_refused_right) (by decide +kernel)) rfl (fun _ _ => rfl) (fun _ _ _ _ _ => rfl) (fun A outer s H E f c' cl hr hg => (pe_cg (ok_least_filling (P := P) (w := w) (base := base) T) (by exact hr.mono (by first | decide | omega)) (by exact hg) (by rfl) T.g_least_filling T.F_least_filling.kp (b_least_filling T.F_least_filling) .nil (passes_call (takes_of rfl rfl rfl rfl) fun _ _ _ _ z => z) (pa_cons (pv 0) (pa_cons (pv 1) (pa_cons (pv 2) (pa_cons (pv 3) pa_nil)))))) (pa_cons pe_int (pa_cons (pv 12) pa_nil)))))))))))))))), fn_zT (by decide) len__law_refused_right (fun F G0 p m ds φ hp => ?_) h⟩
  obtain ⟨ls, long, gap, ink, ps, rfl, hll, hls, hlong, m1, m2, m3, m4, hpl, hg, hm, q⟩ := hp
  have hlow : ∀ p ∈ ls, p.1 ≤ 1000 ∧ p.2 ≤ 1000 := fun p hp => by have := hls p hp; omega
  have hlowp : ∀ p ∈ ps, p.1 ≤ 1000 ∧ p.2 ≤ 1000 := fun p hp => by have := good_low hg p hp; omega
  have okx : ∀ (zs : List (Nat × Nat)), zs.length ≤ 400 → (∀ p ∈ zs, p.1 ≤ 1000 ∧ p.2 ≤ 1000) → ∀ y, OksN 1 27 y → Oks (.list (zs.map pairD ++ [y])) := fun zs hz hlz y hy => (OksN.list (n := 1) (m := 27) fun d hd => by
    rcases List.mem_append.mp hd with h | h
    · obtain ⟨p, hp, rfl⟩ := List.mem_map.mp h
      exact oks_line (hlz p hp)
    · obtain rfl := List.mem_singleton.mp h
      exact hy).oks (by decide) (by rw [List.length_append, List.length_map, List.length_singleton]; omega)
  have okt : ∀ (zs : List (Nat × Nat)), zs.length ≤ 400 → (∀ p ∈ zs, p.1 ≤ 1000 ∧ p.2 ≤ 1000) → Oks (.tuple (zs.map pairD)) := fun zs hz hlz => (OksN.tuple (n := 1) (m := 27) fun d hd => by
    obtain ⟨p, hp, rfl⟩ := List.mem_map.mp hd
    exact oks_line (hlz p hp)).oks (by decide) (by rw [List.length_map]; omega)
  have okl : ∀ (zs : List (Nat × Nat)), zs.length ≤ 400 → (∀ p ∈ zs, p.1 ≤ 1000 ∧ p.2 ≤ 1000) → Oks (.list (zs.map pairD)) := fun zs hz hlz => (oks_pairs hlz (by omega)).oks (by decide) (by decide)
  show Ws _ _ _ [.res (withT (tabsT T) (lstP p (PZ m))), .val (.list (ls.map pairD)), .val (.int (long : Int)), .val (measD gap ink), .val (.list (ps.map pairD)), .any, .any, .any, .any, .any, .any, .any, .any] _
  refine q_seq (q_set (we_callZW rfl ?_))
  walk_at "dv"
  refine pickL (by simp) (by simp) (by omega) fun x1 hx => ?_
  have h1 : isWhD 0 (some 400) x1 = false ∧ Oks x1 := by
    simp only [List.mem_cons, List.not_mem_nil, or_false] at hx
    rcases hx with rfl | rfl | rfl | rfl
    all_goals exact ⟨by decide +kernel, oks_small (by decide +kernel) (by decide +kernel) (by decide +kernel) (by decide +kernel)⟩
  clear hx
  show Ws _ _ _ [.res (withT (tabsT T) (lstP p (PZ (m + 1)))), .val (.list (ls.map pairD)), .val (.int (long : Int)), .val (measD gap ink), .val (.list (ps.map pairD)), .val x1, .any, .any, .any, .any, .any, .any, .any] _
  refine q_seq (q_if (wt_not (wt_tru ?_)))
  refine we_lamC (i := 0) (T := tabsT T) (r := lstP p (PZ (m + 1))) (ds := [x1]) (N := ["bad"]) (ok := False) (ψ := fun n d => n = "InvalidNumber" ∧ d = x1) rfl (m_ref T) (hu_T (m_ref T)) rfl (fun i j d h1 h2 => ?_) (Nat.le_refl 1) (wex_call (wa_cons (we_non (wa_cons (we_var rfl (wa_cons (we_non (wa_cons (we_non (wa_nil ?_)))))))))) ?_
  · rcases i with _ | i
    · obtain rfl := Option.some.inj h1
      obtain rfl := Option.some.inj h2
      exact .inl rfl
    · simp at h1
  · exact lf_count h1.1 ⟨rfl, rfl⟩
  refine wa_cons (we_int (wa_cons (we_var rfl (wa_nil ⟨0, _, rfl, by decide, id, fun n d h => h, .inl h1.2, ?_⟩))))
  refine tru_b (nb_t (q_nx ?_))
  refine q_seq (q_set (we_callZW rfl ?_))
  walk_at "dv"
  refine opc_tup ?_
  walk_at "dv"
  refine op2_addL (by simp; omega) ?_
  walk_at "dv"
  refine pickL (by simp) (by simp) (by omega) fun x2 hx => ?_
  have h2 : isLines (long : Int) x2 = false ∧ Oks x2 := by
    simp only [List.mem_cons, List.not_mem_nil, or_false] at hx
    rcases hx with rfl | rfl | rfl | rfl
    · exact ⟨rfl, okt ls hll hlow⟩
    · refine ⟨lines_odd ?_, okx ls hll hlow _ (oks_line (p := (long, 1)) ⟨by show long ≤ 1000; omega, by show (1 : Nat) ≤ 1000; decide⟩)⟩
      have e := line_is (n := (long : Int)) (long, 1)
      rw [decide_eq_false (by show ¬ ((long + 1 : Nat) : Int) ≤ (long : Int); omega)] at e
      exact e
    · exact ⟨rfl, oks_small (by decide +kernel) (by decide +kernel) (by decide +kernel) (by decide +kernel)⟩
    · exact ⟨rfl, oks_small (by decide +kernel) (by decide +kernel) (by decide +kernel) (by decide +kernel)⟩
  clear hx
  show Ws _ _ _ [.res (withT (tabsT T) (lstP p (PZ (m + 2)))), .val (.list (ls.map pairD)), .val (.int (long : Int)), .val (measD gap ink), .val (.list (ps.map pairD)), .val x1, .val x2, .any, .any, .any, .any, .any, .any] _
  refine q_seq (q_if (wt_not (wt_tru ?_)))
  refine we_lamC (i := 0) (T := tabsT T) (r := lstP p (PZ (m + 2))) (ds := [x2, .int (long : Int)]) (N := ["odd", "long"]) (ok := False) (ψ := fun n d => n = "InvalidList" ∧ d = x2) rfl (m_ref T) (hu_T (m_ref T)) rfl (fun i j d h1 h2 => ?_) (Nat.le_refl 2) (wex_call (wa_cons (we_var rfl (wa_cons (we_var rfl (wa_cons (we_non (wa_cons (we_non (wa_nil ?_)))))))))) ?_
  · rcases i with _ | _ | i
    · obtain rfl := Option.some.inj h1
      obtain rfl := Option.some.inj h2
      exact .inl rfl
    · obtain rfl := Option.some.inj h1
      obtain rfl := Option.some.inj h2
      exact .inl rfl
    · simp at h1
  · exact lf_lines hlong h2.1 ⟨rfl, rfl⟩
  refine wa_cons (we_int (wa_cons (we_var rfl (wa_nil ⟨1, _, rfl, by decide, id, fun n d h => h, .inl h2.2, ?_⟩))))
  refine tru_b (nb_t (q_nx ?_))
  refine q_seq (q_set (we_callZW rfl ?_))
  walk_at "dv"
  refine pickL (by simp) (by simp) (by omega) fun x3 hx => ?_
  have h3 : isMeas x3 = false ∧ Oks x3 := by
    simp only [List.mem_cons, List.not_mem_nil, or_false] at hx
    rcases hx with rfl | rfl | rfl | rfl | rfl | rfl | rfl | rfl
    all_goals exact ⟨by decide +kernel, oks_small (by decide +kernel) (by decide +kernel) (by decide +kernel) (by decide +kernel)⟩
  clear hx
  show Ws _ _ _ [.res (withT (tabsT T) (lstP p (PZ (m + 3)))), .val (.list (ls.map pairD)), .val (.int (long : Int)), .val (measD gap ink), .val (.list (ps.map pairD)), .val x1, .val x2, .val x3, .any, .any, .any, .any, .any] _
  refine q_seq (q_if (wt_not (wt_tru ?_)))
  refine we_lamC (i := 0) (T := tabsT T) (r := lstP p (PZ (m + 3))) (ds := [.list (ls.map pairD), .int (long : Int), x3]) (N := ["lines", "long", "wrong"]) (ok := False) (ψ := fun n d => n = "InvalidLayout" ∧ d = x3) rfl (m_ref T) (hu_T (m_ref T)) rfl (fun i j d h1 h2 => ?_) (Nat.le_refl 3) (wex_call (wa_cons (we_var rfl (wa_cons (we_var rfl (wa_cons (we_var rfl (wa_cons (we_non (wa_nil ?_)))))))))) ?_
  · rcases i with _ | _ | _ | i
    · obtain rfl := Option.some.inj h1
      obtain rfl := Option.some.inj h2
      exact .inl rfl
    · obtain rfl := Option.some.inj h1
      obtain rfl := Option.some.inj h2
      exact .inl rfl
    · obtain rfl := Option.some.inj h1
      obtain rfl := Option.some.inj h2
      exact .inl rfl
    · simp at h1
  · exact lf_meas hll hls hlong h3.1 ⟨rfl, rfl⟩
  refine wa_cons (we_int (wa_cons (we_var rfl (wa_nil ⟨2, _, rfl, by decide, id, fun n d h => h, .inl h3.2, ?_⟩))))
  refine tru_b (nb_t (q_nx ?_))
  refine q_seq (q_asg (js := [8, 9]) ?_)
  walk_at "dv"
  refine op2_mulLs (by decide) (by decide) (by show 1 * 401 ≤ _; decide) ?_
  walk_at "dv"
  refine op2_ixT atI_zero ?_
  walk_at "dv"
  refine wg_tup rfl (wgs_cons (wg_name (wgs_cons (wg_name (wgs_nil ?_)))))
  show Ws _ _ _ [.res (withT (tabsT T) (lstP p (PZ (m + 3)))), .val (.list (ls.map pairD)), .val (.int (long : Int)), .val (measD gap ink), .val (.list (ps.map pairD)), .val x1, .val x2, .val x3, .val (.list farD), .val (.int (gap : Int)), .any, .any, .any] _
  refine q_seq (q_if (wt_not (wt_tru ?_)))
  refine we_lamC (i := 0) (T := tabsT T) (r := lstP p (PZ (m + 3))) (ds := [.list farD, .int (long : Int)]) (N := ["far", "long"]) (ok := False) (ψ := fun n d => n = "InvalidList" ∧ d = .list farD) rfl (m_ref T) (hu_T (m_ref T)) rfl (fun i j d h1 h2 => ?_) (Nat.le_refl 2) (wex_call (wa_cons (we_var rfl (wa_cons (we_var rfl (wa_cons (we_non (wa_cons (we_non (wa_nil ?_)))))))))) ?_
  · rcases i with _ | _ | i
    · obtain rfl := Option.some.inj h1
      obtain rfl := Option.some.inj h2
      exact .inl rfl
    · obtain rfl := Option.some.inj h1
      obtain rfl := Option.some.inj h2
      exact .inl rfl
    · simp at h1
  · exact lf_lines hlong (lines_far (by rw [far_len]; decide)) ⟨rfl, rfl⟩
  refine wa_cons (we_int (wa_cons (we_var rfl (wa_nil ⟨1, _, rfl, by decide, id, fun n d h => h, .inl far_oks, ?_⟩))))
  refine tru_b (nb_t (q_nx ?_))
  refine q_seq (q_asg (js := [10, 11]) ?_)
  walk_at "dv"
  refine op2_mulLs (by omega) (by omega) (by show 1 * _ ≤ _; omega) ?_
  rw [rep_pair, show ((3 : Int) * (gap : Int)).toNat = 3 * gap by omega]
  refine wa_cons (we_callZW rfl ?_)
  walk_at "dv"
  refine pickL (by simp) (by simp) (by omega) fun x4 hx => ?_
  have h4 : isParts (((List.replicate (3 * gap) ((0 : Nat), (0 : Nat))).length : Nat) : Int) (gap : Int) x4 = false ∧ Oks x4 := by
    have okp : ∀ a b : Nat, a ≤ 1000 → b ≤ 1000 → OksN 1 27 (.tuple [.int (a : Int), .int (b : Int)]) := fun a b ha hb => oks_line (p := (a, b)) ⟨ha, hb⟩
    simp only [List.mem_cons, List.not_mem_nil, or_false] at hx
    rcases hx with rfl | rfl | rfl
    · refine ⟨parts_no (.inr (.inl (by omega))), (OksN.list (n := 1) (m := 27) fun d hd => ?_).oks (by decide) (by simp)⟩
      obtain rfl := List.mem_singleton.mp hd
      rw [show ((gap : Int) - 1) = ((gap - 1 : Nat) : Int) by omega]
      exact okp 0 (gap - 1) (by omega) (by omega)
    · refine ⟨parts_yes (parts_no (.inl (by omega))), (OksN.list (n := 1) (m := 27) fun d hd => ?_).oks (by decide) (by simp)⟩
      simp only [List.mem_cons, List.not_mem_nil, or_false] at hd
      rcases hd with rfl | rfl
      · exact okp 0 gap (by omega) (by omega)
      · rw [show (2 * (gap : Int) - 1) = ((2 * gap - 1 : Nat) : Int) by omega, show (3 * (gap : Int) - 1) = ((3 * gap - 1 : Nat) : Int) by omega]
        exact okp _ _ (by omega) (by omega)
    · refine ⟨parts_no (.inr (.inl (by omega))), (OksN.list (n := 1) (m := 27) fun d hd => ?_).oks (by decide) (by simp)⟩
      obtain rfl := List.mem_singleton.mp hd
      rw [show (2 * (gap : Int) - 1) = ((2 * gap - 1 : Nat) : Int) by omega]
      exact okp _ _ (by omega) (by omega)
  clear hx
  refine wa_nil (len_ok (by simp) ?_)
  refine wg_tup rfl (wgs_cons (wg_name (wgs_cons (wg_name (wgs_nil ?_)))))
  show Ws _ _ _ [.res (withT (tabsT T) (lstP p (PZ (m + 4)))), .val (.list (ls.map pairD)), .val (.int (long : Int)), .val (measD gap ink), .val (.list (ps.map pairD)), .val x1, .val x2, .val x3, .val (.list farD), .val (.int (gap : Int)), .val (.list ((List.replicate (3 * gap) ((0 : Nat), (0 : Nat))).map pairD)), .val x4, .any] _
  refine q_seq (q_if (wt_not (wt_tru ?_)))
  refine we_lamC (i := 0) (T := tabsT T) (r := lstP p (PZ (m + 4))) (ds := [.list ((List.replicate (3 * gap) ((0 : Nat), (0 : Nat))).map pairD), .int (long : Int), measD gap ink, x4]) (N := ["own", "long", "measure", "near"]) (ok := False) (ψ := fun n d => n = "InvalidList" ∧ d = x4) rfl (m_ref T) (hu_T (m_ref T)) rfl (fun i j d h1 h2 => ?_) (Nat.le_refl 4) (wex_call (wa_cons (we_var rfl (wa_cons (we_var rfl (wa_cons (we_var rfl (wa_cons (we_var rfl (wa_nil ?_)))))))))) ?_
  · rcases i with _ | _ | _ | _ | i
    · obtain rfl := Option.some.inj h1
      obtain rfl := Option.some.inj h2
      exact .inl rfl
    · obtain rfl := Option.some.inj h1
      obtain rfl := Option.some.inj h2
      exact .inl rfl
    · obtain rfl := Option.some.inj h1
      obtain rfl := Option.some.inj h2
      exact .inl rfl
    · obtain rfl := Option.some.inj h1
      obtain rfl := Option.some.inj h2
      exact .inl rfl
    · simp at h1
  · exact lf_parts (by rw [List.length_replicate]; omega) (fun p hp => by rw [List.eq_of_mem_replicate hp]; exact Nat.zero_le _) hlong m1 m2 m3 m4 h4.1 ⟨rfl, rfl⟩
  refine wa_cons (we_int (wa_cons (we_var rfl (wa_nil ⟨1, _, rfl, by decide, id, fun n d h => h, .inl h4.2, ?_⟩))))
  refine tru_b (nb_t (q_nx ?_))
  refine q_seq (q_set (we_callZW rfl ?_))
  walk_at "dv"
  refine opc_tup ?_
  walk_at "dv"
  rw [List.length_map]
  refine op2_addL (by simp; omega) ?_
  walk_at "dv"
  refine pickL (by simp) (by simp) (by omega) fun x5 hx => ?_
  have h5 : isParts (ls.length : Int) (gap : Int) x5 = false ∧ Oks x5 := by
    simp only [List.mem_cons, List.not_mem_nil, or_false] at hx
    rcases hx with rfl | rfl | rfl | rfl | rfl | rfl
    · exact ⟨rfl, okt ps hpl hlowp⟩
    · exact ⟨rfl, oks_small (by decide +kernel) (by decide +kernel) (by decide +kernel) (by decide +kernel)⟩
    · refine ⟨parts_no (.inr (.inr (.inl (by omega)))), ?_⟩
      exact okl [(0, ls.length + 1)] (by simp) (fun p hp => by rw [List.mem_singleton.mp hp]; exact ⟨Nat.zero_le _, by show ls.length + 1 ≤ 1000; omega⟩)
    · exact ⟨parts_more (by omega) ps 0, okx ps hpl hlowp _ (oks_line (p := (0, 0)) ⟨by decide, by decide⟩)⟩
    · exact ⟨parts_no (.inr (.inr (.inr (by decide)))), oks_small (by decide +kernel) (by decide +kernel) (by decide +kernel) (by decide +kernel)⟩
    · exact ⟨rfl, oks_small (by decide +kernel) (by decide +kernel) (by decide +kernel) (by decide +kernel)⟩
  clear hx
  show Ws _ _ _ [.res (withT (tabsT T) (lstP p (PZ (m + 5)))), .val (.list (ls.map pairD)), .val (.int (long : Int)), .val (measD gap ink), .val (.list (ps.map pairD)), .val x1, .val x2, .val x3, .val (.list farD), .val (.int (gap : Int)), .val (.list ((List.replicate (3 * gap) ((0 : Nat), (0 : Nat))).map pairD)), .val x4, .val x5] _
  refine q_ret ?_
  refine we_lamC (i := 0) (T := tabsT T) (r := lstP p (PZ (m + 5))) (ds := [.list (ls.map pairD), .int (long : Int), measD gap ink, x5]) (N := ["lines", "long", "measure", "late"]) (ok := False) (ψ := fun n d => n = "InvalidList" ∧ d = x5) rfl (m_ref T) (hu_T (m_ref T)) rfl (fun i j d h1 h2 => ?_) (Nat.le_refl 4) (wex_call (wa_cons (we_var rfl (wa_cons (we_var rfl (wa_cons (we_var rfl (wa_cons (we_var rfl (wa_nil ?_)))))))))) ?_
  · rcases i with _ | _ | _ | _ | i
    · obtain rfl := Option.some.inj h1
      obtain rfl := Option.some.inj h2
      exact .inl rfl
    · obtain rfl := Option.some.inj h1
      obtain rfl := Option.some.inj h2
      exact .inl rfl
    · obtain rfl := Option.some.inj h1
      obtain rfl := Option.some.inj h2
      exact .inl rfl
    · obtain rfl := Option.some.inj h1
      obtain rfl := Option.some.inj h2
      exact .inl rfl
    · simp at h1
  · exact lf_parts hll hls hlong m1 m2 m3 m4 h5.1 ⟨rfl, rfl⟩
  refine wa_cons (we_int (wa_cons (we_var rfl (wa_nil ⟨1, _, rfl, by decide, id, fun n d h => h, .inl h5.2, ?_⟩))))
  exact ⟨m + 5, rfl, q _ (by omega)⟩
end

section
variable {P : Program} {w : World} {K : PySem.W.Frag} {mg : Str → Option Value} {base : Heap}

theorem sq_same {G H : Hp} {a : Addr} {xs : List V} (h : SqL K G a xs) (g : Same G H) : SqL K H a xs := h.elim (fun h => .inl (h.elim (fun h => .inl (g _ _ h)) fun ⟨o, h⟩ => .inr ⟨o, g _ _ h⟩)) .inr
/-- the script -/
def scrR (K : PySem.W.Frag) (a : Addr) (ns : List Int) : Res where
  fp := []
  ok := fun G _ v => v = .ref a ∧ SqL K G a (ns.map V.int)
  mono := fun ⟨e, h⟩ g _ => ⟨e, sq_same h g⟩
def sp_law (K : PySem.W.Frag) (Ts : List (Addr × Str)) : Sp := fun vs H Q _ => ∃ (a : Addr) (ns : List Int), vs = [.ref a] ∧ SqL K H a (ns.map V.int) ∧ (∀ p ∈ Ts, H p.1 = some (.tbl #[])) ∧ ∀ H' : Hp, Q (.bl true) H'
theorem len_law {Ts : List (Addr × Str)} : ∀ vs H Q E, sp_law K Ts vs H Q E → vs.length = 1 := by rintro _ H Q E ⟨a, ns, rfl, _⟩; rfl
theorem sq_del {H : Hp} {a : Addr} {xs : List V} {M : List Addr} (h : SqL K H a xs) (n : ∀ b ∈ M, H b = some (.tbl #[])) : SqL K (delM H M) a xs := by
  have key : ∀ o, H a = some o → (o ≠ .tbl #[]) → delM H M a = some o := fun o e hne => by
    rw [delM_out fun hm => by
      rw [n a hm] at e
      exact hne (Option.some.inj e).symm]
    exact e
  rcases h with (h | ⟨o, h⟩) | h
  · exact .inl (.inl (key _ h fun z => by cases z))
  · exact .inl (.inr ⟨o, key _ h fun z => by cases z⟩)
  · exact .inr h
theorem sta_law {H : Hp} {a : Addr} {ns : List Int} {Ts : List (Addr × Str)} (hS : SqL K H a (ns.map V.int)) (hT : ∀ p ∈ Ts, H p.1 = some (.tbl #[])) :
    Sta (delM H (tabs Ts)) (delM H (tabs Ts)) (delM H (tabs Ts)) H [some (.ref a), none, none, none, none, none, none, none] [.res (withT Ts (scrR K a ns)), .any, .any, .any, .any, .any, .any, .any] := by
  have hM : ∀ b ∈ tabs Ts, H b = some (.tbl #[]) := fun b hb => by
    obtain ⟨p, hp, rfl⟩ := List.mem_map.mp hb
    exact hT p hp
  have sm : Same (delM H (tabs Ts)) H := fun b o e => by
    by_cases hb : b ∈ tabs Ts
    · rw [delM_in hb] at e
      cases e
    · rw [delM_out hb] at e
      exact e
  refine ⟨sm, sm, Same.refl _, fun _ _ e _ => e, rfl, fun i x e => ?_, fun i j x y hij e1 e2 b hb hb2 => ?_⟩
  · rcases i with _ | i
    · obtain rfl := Option.some.inj e
      refine ⟨.ref a, rfl, ⟨⟨rfl, sq_del hS hM⟩, fun p hp => ⟨#[], hT p hp, trivial, fun pos cv hc => by cases hc⟩, fun b hb => by cases hb⟩, fun b hb => ?_⟩
      have hb : b ∈ tabs Ts := hb
      refine ⟨delM_in hb, delM_in hb, by rw [hM b hb]; simp⟩
    · have hx : x = .any := by
        rw [List.getElem?_cons_succ] at e
        have h3 := List.mem_of_getElem? e
        simpa using h3
      subst hx
      trivial
  · rcases j with _ | j
    · omega
    · have hy : y = .any := by
        rw [List.getElem?_cons_succ] at e2
        have h3 := List.mem_of_getElem? e2
        simpa using h3
      subst hy
      cases hb2
/-- a purse for a cell of the script -/
theorem q_gen {F G0 : Hp} {ρ : Rho} {nx bk ct : Rho → Prop} {rt : PyData → Rho → Prop} {Ts : List (Addr × Str)} {a : Addr} {ns : List Int} {i : Nat} {E : XK} (hi : i < 4) (h0 : ρ[0]? = some (.res (withT Ts (scrR K a ns)))) (h1 : ρ[1]? = some (.val (.int (i : Int)))) (q : ∀ p, nx (ρ.set 2 (.res (lstP p (PZ 3000))))) :
    Ws F G0 (tAsg (tCall (sp__law_generator K) [] E (tCons (tVar 0) (tCons (tVar 1) tNil))) (gName 2)) ρ ⟨nx, rt, bk, ct⟩ := fun G H σ s D q1 q2 q3 q4 => by
  obtain ⟨v, e, ⟨⟨ev, hS⟩, _, _⟩, _⟩ := s.getR h0
  subst ev
  obtain ⟨v1, e1, r1⟩ := s.get h1
  cases r1
  refine ⟨_, e, _, e1, a, ns, i, rfl, hi, sq_same hS s.gh, fun p g0 g1 H' sH np k0 k1 k2 hp => ?_⟩
  have s1 : Sta F G0 G H' σ ρ := s.grow ⟨Same.refl G, sH, s.gh.trans sH, fun _ _ e _ => e⟩
  refine q1 _ _ G H' (s1.setR (i := 2) (v := .ref p) (r := lstP p (PZ 3000)) ⟨rfl, _, [.int g0, .int g1, .int (1000 * (i : Int))], hp, .cons (.int _) (.cons (.int _) (.cons (.int _) .nil)), g0, g1, 1000 * (i : Int), rfl, k0, k1, k2, by omega, by omega⟩ (fun b hb => ?_) fun m z hk ez b hb hb2 => ?_) (Same.refl G) (q p)
  · obtain rfl := List.mem_singleton.mp hb
    exact ⟨none_of s.fh np, none_of s.gh np, by rw [hp]; simp⟩
  · obtain rfl := List.mem_singleton.mp hb2
    exact s.nofp np m z ez hb
theorem ok_law (T : Txt P K mg) (B : Tabs base T) : FnG P w K mg base CX0 11 T.a_law T.d_law ["script"] (sp_law K (tabsT T)) := by
  refine FnG.ok0 T.F_law sc_law len_law (fun cdv A outer s H vs Q E hr hg h => ?_)
  refine ⟨_, (pss_cons (ps_for PassesOwn.never rfl (pi_r1 rfl T.z_range (pa_cons pe_int pa_nil)) (pg_name (i := 1) sc_law.nd rfl (by first | exact Or.inl rfl | exact Or.inr rfl)) (pss_cons (ps_set (i := 2) sc_law.nd rfl (by first | exact Or.inl rfl | exact Or.inr rfl) (pe_cg (ok__law_generator (P := P) (w := w) (base := base) T) (by exact hr.mono (by first | decide | omega)) (by exact hg) (by rfl) T.g__law_generator T.F__law_generator.kp (b__law_generator T.F__law_generator) .nil pass0 (pa_cons (pv 0) (pa_cons (pv 1) pa_nil))))
      (pss_cons (ps_set (i := 3) sc_law.nd rfl (by first | exact Or.inl rfl | exact Or.inr rfl) (pe_cg (ok__law_pick (P := P) (w := w) (base := base) T) (by exact hr.mono (by first | decide | omega)) (by exact hg) (by rfl) T.g__law_pick T.F__law_pick.kp (b__law_pick T.F__law_pick) .nil pass0 (pa_cons (pv 2) (pa_cons (pe_lst (pa_cons (pe_cg (ok__law_random (P := P) (w := w) (base := base) T) (by exact hr.mono (by first | decide | omega)) (by exact hg) (by rfl) T.g__law_random T.F__law_random.kp (b__law_random T.F__law_random) .nil pass0 (pa_cons (pv 2) (pa_cons pe_int pa_nil))) (pa_cons (pe_cg (ok__law_random (P := P) (w := w) (base := base) T) (by exact hr.mono (by first | decide | omega)) (by exact hg) (by rfl) T.g__law_random T.F__law_random.kp (b__law_random T.F__law_random) .nil pass0 (pa_cons (pv 2) (pa_cons pe_int pa_nil))) (pa_cons pe_int (pa_cons (pe_cg (ok__law_random (P := P) (w := w) (base := base) T) (by exact hr.mono (by first | decide | omega)) (by exact hg) (by rfl) T.g__law_random T.F__law_random.kp (b__law_random T.F__law_random) .nil pass0 (pa_cons (pv 2) (pa_cons pe_int pa_nil))) pa_nil))))) pa_nil))))
      (pss_cons (ps_set (i := 4) sc_law.nd rfl (by first | exact Or.inl rfl | exact Or.inr rfl) (pe_cg (ok__law_pick (P := P) (w := w) (base := base) T) (by exact hr.mono (by first | decide | omega)) (by exact hg) (by rfl) T.g__law_pick T.F__law_pick.kp (b__law_pick T.F__law_pick) .nil pass0 (pa_cons (pv 2) (pa_cons (pe_lst (pa_cons (pe_cg (ok__law_random (P := P) (w := w) (base := base) T) (by exact hr.mono (by first | decide | omega)) (by exact hg) (by rfl) T.g__law_random T.F__law_random.kp (b__law_random T.F__law_random) .nil pass0 (pa_cons (pv 2) (pa_cons pe_int pa_nil))) (pa_cons (pe_cg (ok__law_random (P := P) (w := w) (base := base) T) (by exact hr.mono (by first | decide | omega)) (by exact hg) (by rfl) T.g__law_random T.F__law_random.kp (b__law_random T.F__law_random) .nil pass0 (pa_cons (pv 2) (pa_cons pe_int pa_nil))) (pa_cons pe_int (pa_cons pe_int (pa_cons pe_int (pa_cons pe_int pa_nil))))))) pa_nil))))
      (pss_cons (ps_set (i := 5) sc_law.nd rfl (by first | exact Or.inl rfl | exact Or.inr rfl) (pe_cg (ok__law_drawn_lines (P := P) (w := w) (base := base) T) (by exact hr.mono (by first | decide | omega)) (by exact hg) (by rfl) T.g__law_drawn_lines T.F__law_drawn_lines.kp (b__law_drawn_lines T.F__law_drawn_lines) .nil pass0 (pa_cons (pv 2) (pa_cons (pv 4) (pa_cons (pv 3) pa_nil)))))
      (pss_cons (ps_set (i := 6) sc_law.nd rfl (by first | exact Or.inl rfl | exact Or.inr rfl) (pe_tup (pa_cons (pe_cg (ok__law_between (P := P) (w := w) (base := base) T) (by exact hr.mono (by first | decide | omega)) (by exact hg) (by rfl) T.g__law_between T.F__law_between.kp (b__law_between T.F__law_between) .nil pass0 (pa_cons (pv 2) (pa_cons pe_int (pa_cons (pe_cg (ok__law_pick (P := P) (w := w) (base := base) T) (by exact hr.mono (by first | decide | omega)) (by exact hg) (by rfl) T.g__law_pick T.F__law_pick.kp (b__law_pick T.F__law_pick) .nil pass0 (pa_cons (pv 2) (pa_cons (pe_lst (pa_cons pe_int (pa_cons pe_int (pa_cons pe_int pa_nil)))) pa_nil))) pa_nil)))) (pa_cons (pe_cg (ok__law_between (P := P) (w := w) (base := base) T) (by exact hr.mono (by first | decide | omega)) (by exact hg) (by rfl) T.g__law_between T.F__law_between.kp (b__law_between T.F__law_between) .nil pass0 (pa_cons (pv 2) (pa_cons pe_int (pa_cons (pe_cg (ok__law_pick (P := P) (w := w) (base := base) T) (by exact hr.mono (by first | decide | omega)) (by exact hg) (by rfl) T.g__law_pick T.F__law_pick.kp (b__law_pick T.F__law_pick) .nil pass0 (pa_cons (pv 2) (pa_cons (pe_lst (pa_cons pe_int (pa_cons pe_int (pa_cons pe_int pa_nil)))) pa_nil))) pa_nil)))) pa_nil))))
      (pss_cons (ps_set (i := 7) sc_law.nd rfl (by first | exact Or.inl rfl | exact Or.inr rfl) (pe_cg (ok__law_drawn_parts (P := P) (w := w) (base := base) T) (by exact hr.mono (by first | decide | omega)) (by exact hg) (by rfl) T.g__law_drawn_parts T.F__law_drawn_parts.kp (b__law_drawn_parts T.F__law_drawn_parts) .nil pass0 (pa_cons (pv 2) (pa_cons (pv 4) (pa_cons (pe_ix (k_ix (K := K) rfl) (pv 6) pe_int (fun _ _ => rfl)) pa_nil)))))
      (pss_cons (ps_if (PW.pt (pw_or (pt_not (k_tru (K := K) rfl (pe_cg (ok__law_good (P := P) (w := w) (base := base) T) (by exact hr.mono (by first | decide | omega)) (by exact hg) (by rfl) T.g__law_good T.F__law_good.kp (b__law_good T.F__law_good) .nil pass0 (pa_cons (pv 5) (pa_cons (pv 3) (pa_cons (pv 6) (pa_cons (pv 7) pa_nil))))) (by intro _; rfl))) (pw_or1 (pt_not (k_tru (K := K) rfl (pe_cg (ok__law_good (P := P) (w := w) (base := base) T) (by exact hr.mono (by first | decide | omega)) (by exact hg) (by rfl) T.g__law_good T.F__law_good.kp (b__law_good T.F__law_good) .nil pass0 (pa_cons (pv 5) (pa_cons (pv 3) (pa_cons (pv 6) (pa_cons (pe_lst pa_nil) pa_nil))))) (by intro _; rfl)))))) (pss_one (ps_ret pe_bl)) pss_nil)
      (pss_cons (ps_if (pt_not (k_tru (K := K) rfl (pe_cg (ok__law_refused_right (P := P) (w := w) (base := base) T B) (by exact hr.mono (by first | decide | omega)) (by exact hg) (by rfl) T.g__law_refused_right T.F__law_refused_right.kp (b__law_refused_right T.F__law_refused_right.fn) .nil pass0 (pa_cons (pv 2) (pa_cons (pv 5) (pa_cons (pv 3) (pa_cons (pv 6) (pa_cons (pv 7) pa_nil)))))) (by intro _; rfl))) (pss_one (ps_ret pe_bl)) pss_nil)
      (pss_one (ps_if (PW.pt (pw_or (pt_not (k_tru (K := K) rfl (pe_cg (ok__law_small_good (P := P) (w := w) (base := base) T) (by exact hr.mono (by first | decide | omega)) (by exact hg) (by rfl) T.g__law_small_good T.F__law_small_good.kp (b__law_small_good T.F__law_small_good) .nil pass0 (pa_cons (pv 2) pa_nil)) (by intro _; rfl))) (pw_or1 (pt_not (k_tru (K := K) rfl (pe_cg (ok__law_small_good (P := P) (w := w) (base := base) T) (by exact hr.mono (by first | decide | omega)) (by exact hg) (by rfl) T.g__law_small_good T.F__law_small_good.kp (b__law_small_good T.F__law_small_good) .nil pass0 (pa_cons (pv 2) pa_nil)) (by intro _; rfl)))))) (pss_one (ps_ret pe_bl)) pss_nil)))))))))))
      (pss_one (ps_ret pe_bl))), ?_⟩
  obtain ⟨a, ns, rfl, hS, hT, q⟩ := h
  refine (?_ : Ws (delM H (tabs (tabsT T))) (delM H (tabs (tabsT T))) _ _ ⟨fun _ => False, fun d _ => d = .bool true, fun _ => False, fun _ => False⟩) _ H _ (sta_law hS hT) _ (fun _ _ _ _ _ _ z => z.elim) (fun v d _ _ _ H2 _ _ rd hd => ?_) (fun _ _ _ _ _ _ z => z.elim) (fun _ _ _ _ _ _ z => z.elim)
  · refine q_seq (q_for (js := [1]) (wi_r1 ?_))
    walk_at "dv"
    refine ⟨fun i ρ => ∃ s1 s2 s3 s4 s5 s6 s7, ρ = [.res (withT (tabsT T) (scrR K a ns)), s1, s2, s3, s4, s5, s6, s7], ⟨_, _, _, _, _, _, _, rfl⟩, ?_, ?_⟩
    · rintro i d _ hd ⟨s1, s2, s3, s4, s5, s6, s7, rfl⟩
      obtain ⟨hi, rfl⟩ := inz_get hd
      have hi' : i < 4 := hi
      rw [Int.zero_add]
      refine wg_name ?_
      refine q_seq (q_gen (i := i) hi' rfl rfl fun p => ?_)
      show Ws _ _ _ [.res (withT (tabsT T) (scrR K a ns)), .val (.int (i : Int)), .res (lstP p (PZ 3000)), s3, s4, s5, s6, s7] _
      walk_at "dv"
      refine ⟨10, rfl, by decide, by decide, by decide, fun r1 hr1 => ?_⟩
      walk_at "dv"
      refine ⟨10, rfl, by decide, by decide, by decide, fun r2 hr2 => ?_⟩
      walk_at "dv"
      refine ⟨401, rfl, by decide, by decide, by decide, fun r3 hr3 => ?_⟩
      walk_at "dv"
      refine pickL (by simp) (by simp) (by omega) fun x hx => ?_
      have hx2 : ∃ n : Nat, x = .int (n : Int) ∧ n ≤ 400 := by
        simp only [List.mem_cons, List.not_mem_nil, or_false] at hx
        rcases hx with rfl | rfl | rfl | rfl
        · exact ⟨r1, rfl, by omega⟩
        · exact ⟨r2, rfl, by omega⟩
        · exact ⟨5, rfl, by decide⟩
        · exact ⟨r3, rfl, by omega⟩
      clear hx
      obtain ⟨long, rfl, hlong⟩ := hx2
      walk_at "dv"
      refine ⟨41, rfl, by decide, by decide, by decide, fun r4 hr4 => ?_⟩
      walk_at "dv"
      refine ⟨41, rfl, by decide, by decide, by decide, fun r5 hr5 => ?_⟩
      walk_at "dv"
      refine pickL (by simp) (by simp) (by omega) fun x hx => ?_
      have hx2 : ∃ n : Nat, x = .int (n : Int) ∧ n ≤ 400 := by
        simp only [List.mem_cons, List.not_mem_nil, or_false] at hx
        rcases hx with rfl | rfl | rfl | rfl | rfl | rfl
        · exact ⟨r4, rfl, by omega⟩
        · exact ⟨r5, rfl, by omega⟩
        · exact ⟨24, rfl, by decide⟩
        · exact ⟨12, rfl, by decide⟩
        · exact ⟨30, rfl, by decide⟩
        · exact ⟨400, rfl, by decide⟩
      clear hx
      obtain ⟨many, rfl, hmany⟩ := hx2
      walk_at "dv"
      refine ⟨many, long, rfl, hmany, hlong, by decide, fun m1 ls hm1 hll hls => ?_⟩
      walk_at "dv"
      refine pickL (by simp) (by simp) (by omega) fun x hx => ?_
      have hx2 : ∃ n : Nat, x = .int (n : Int) ∧ 1 ≤ n ∧ n ≤ 12 := by
        simp only [List.mem_cons, List.not_mem_nil, or_false] at hx
        rcases hx with rfl | rfl | rfl
        · exact ⟨2, rfl, by decide, by decide⟩
        · exact ⟨4, rfl, by decide, by decide⟩
        · exact ⟨12, rfl, by decide, by decide⟩
      clear hx
      obtain ⟨u1, rfl, hu1, hu2⟩ := hx2
      walk_at "dv"
      refine ⟨1, u1, rfl, hu1, by omega, by omega, fun gap hg1 hg2 => ?_⟩
      walk_at "dv"
      refine pickL (by simp) (by simp) (by omega) fun x hx => ?_
      have hx2 : ∃ n : Nat, x = .int (n : Int) ∧ 1 ≤ n ∧ n ≤ 50 := by
        simp only [List.mem_cons, List.not_mem_nil, or_false] at hx
        rcases hx with rfl | rfl | rfl
        · exact ⟨3, rfl, by decide, by decide⟩
        · exact ⟨9, rfl, by decide, by decide⟩
        · exact ⟨50, rfl, by decide, by decide⟩
      clear hx
      obtain ⟨u2, rfl, hu3, hu4⟩ := hx2
      walk_at "dv"
      refine ⟨1, u2, rfl, hu3, by omega, by omega, fun ink hi1 hi2 => ?_⟩
      walk_at "dv"
      refine op2_ixT atI_zero ?_
      walk_at "dv"
      refine ⟨many, gap, rfl, hmany, hg1, by omega, by omega, fun m2 ps hm2 hpl hg => ?_⟩
      rw [← hll] at hg
      walk_at "dv"
      refine ⟨ls, long, gap, ink, ps, rfl, by omega, hls, hlong, hg1, by omega, hi1, by omega, by omega, hg, ?_⟩
      walk_at "dv"
      refine ⟨ls, long, gap, ink, [], rfl, by omega, hls, hlong, hg1, by omega, hi1, by omega, by decide, trivial, ?_⟩
      refine tru_b (nb_t (q_nx ?_))
      refine q_seq (q_if (wt_not (wt_tru (we_callZT (i := 2) (j := 0) (T := tabsT T) (r := scrR K a ns) (by decide) rfl ?_))))
      walk_at "dv"
      refine ⟨rfl, ls, long, gap, ink, ps, rfl, by omega, hls, hlong, hg1, by omega, hi1, by omega, by omega, hg, by omega, fun m3 hm3 => ?_⟩
      walk_at "dv"
      refine ⟨rfl, by omega, fun m4 hm4 => ?_⟩
      walk_at "dv"
      refine ⟨rfl, by omega, fun m5 hm5 => ?_⟩
      walk_at "dv"
      exact ⟨_, _, _, _, _, _, _, rfl⟩
    · rintro _ ⟨s1, s2, s3, s4, s5, s6, s7, rfl⟩
      walk_at "dv"
  · have hd' : d = .bool true := hd
    subst hd'
    cases rd
    exact q H2
end

def cbody : Stmt → List Stmt
  | .ClassDef (body := b) .. => b
  | _ => []
abbrev ini_InvalidNumber : Stmt := (cbody (topS 2)).getD 0 (.Pass ⟨0, 0, 0, 0⟩)
abbrev ini_InvalidList : Stmt := (cbody (topS 3)).getD 0 (.Pass ⟨0, 0, 0, 0⟩)
abbrev ini_InvalidLayout : Stmt := (cbody (topS 4)).getD 0 (.Pass ⟨0, 0, 0, 0⟩)
theorem all_mk {P : Program} {w : World} {K : PySem.W.Frag} {h : Heap} {mg : Str → Option Value} {fa : Addr} {qq : Program} (X : K.In h) (G : h.Ns mainGlobals mg) (eP : P = PySem.Challenge.pw_inksays_k60_least_fillings) (hfa : mg "law" = some (.ref fa)) (OT : ∀ (y : Str) (f : Addr), ((PyProof.Rows.recsOf qq).any fun e => e.name == y) = true → mg y = some (.ref f) → LamX.OwnTab K f h)
    {A_InkError : Addr}
    {A_InvalidNumber : Addr}
    {A_InvalidList : Addr}
    {A_InvalidLayout : Addr}
    {I_InvalidNumber cda_InvalidNumber cc_InvalidNumber : Addr} {nm_InvalidNumber qq_InvalidNumber : Str} {NN_InvalidNumber : Addr} {bs_InvalidNumber bm_InvalidNumber : List Value} {sn_InvalidNumber : List Str} {su_InvalidNumber : List Value} {ab_InvalidNumber : Bool} {co_InvalidNumber : Option Bool} {dd_InvalidNumber : Option Addr} {k0_InvalidNumber k1_InvalidNumber k2_InvalidNumber k3_InvalidNumber k5_InvalidNumber : Option Value}
    {dT_InvalidNumber : Addr} {dtc_InvalidNumber : Value} {dtd_InvalidNumber : Option Addr} {dtn_InvalidNumber : Nat} {dts_InvalidNumber : Array (Option Value)} {oc_InvalidNumber dc_InvalidNumber pm_InvalidNumber ct_InvalidNumber cl_InvalidNumber : Value} {od_InvalidNumber an_InvalidNumber cld_InvalidNumber : Option Addr} {sl_InvalidNumber csl_InvalidNumber : Array (Option Value)} {ccl_InvalidNumber : Value} {cdd_InvalidNumber : Option Addr} {cvs_InvalidNumber : Array Value} {ccs_InvalidNumber : Array (Option Value)} {fi_InvalidNumber : Str} {tf_InvalidNumber : Tok}
    {I_InvalidList cda_InvalidList cc_InvalidList : Addr} {nm_InvalidList qq_InvalidList : Str} {NN_InvalidList : Addr} {bs_InvalidList bm_InvalidList : List Value} {sn_InvalidList : List Str} {su_InvalidList : List Value} {ab_InvalidList : Bool} {co_InvalidList : Option Bool} {dd_InvalidList : Option Addr} {k0_InvalidList k1_InvalidList k2_InvalidList k3_InvalidList k5_InvalidList : Option Value}
    {dT_InvalidList : Addr} {dtc_InvalidList : Value} {dtd_InvalidList : Option Addr} {dtn_InvalidList : Nat} {dts_InvalidList : Array (Option Value)} {oc_InvalidList dc_InvalidList pm_InvalidList ct_InvalidList cl_InvalidList : Value} {od_InvalidList an_InvalidList cld_InvalidList : Option Addr} {sl_InvalidList csl_InvalidList : Array (Option Value)} {ccl_InvalidList : Value} {cdd_InvalidList : Option Addr} {cvs_InvalidList : Array Value} {ccs_InvalidList : Array (Option Value)} {fi_InvalidList : Str} {tf_InvalidList : Tok}
    {I_InvalidLayout cda_InvalidLayout cc_InvalidLayout : Addr} {nm_InvalidLayout qq_InvalidLayout : Str} {NN_InvalidLayout : Addr} {bs_InvalidLayout bm_InvalidLayout : List Value} {sn_InvalidLayout : List Str} {su_InvalidLayout : List Value} {ab_InvalidLayout : Bool} {co_InvalidLayout : Option Bool} {dd_InvalidLayout : Option Addr} {k0_InvalidLayout k1_InvalidLayout k2_InvalidLayout k3_InvalidLayout k5_InvalidLayout : Option Value}
    {dT_InvalidLayout : Addr} {dtc_InvalidLayout : Value} {dtd_InvalidLayout : Option Addr} {dtn_InvalidLayout : Nat} {dts_InvalidLayout : Array (Option Value)} {oc_InvalidLayout dc_InvalidLayout pm_InvalidLayout ct_InvalidLayout cl_InvalidLayout : Value} {od_InvalidLayout an_InvalidLayout cld_InvalidLayout : Option Addr} {sl_InvalidLayout csl_InvalidLayout : Array (Option Value)} {ccl_InvalidLayout : Value} {cdd_InvalidLayout : Option Addr} {cvs_InvalidLayout : Array Value} {ccs_InvalidLayout : Array (Option Value)} {fi_InvalidLayout : Str} {tf_InvalidLayout : Tok}
    {tk_MOST_LINES : Tok}
    {tk_MOST_GAP : Tok}
    {tk_MOST_INK : Tok}
    {f_is_whole : Addr} {oc_is_whole kV_is_whole dc_is_whole pm_is_whole cd_is_whole ct_is_whole : Value} {od_is_whole an_is_whole : Option Addr} {sl_is_whole : Array (Option Value)}
    {dT_is_whole : Addr} {dtc_is_whole : Value} {dtd_is_whole : Option Addr} {dtn_is_whole : Nat} {dts_is_whole : Array (Option Value)}
    {f_look_at_count : Addr} {oc_look_at_count kV_look_at_count dc_look_at_count pm_look_at_count cd_look_at_count ct_look_at_count : Value} {od_look_at_count an_look_at_count : Option Addr} {sl_look_at_count : Array (Option Value)}
    {dT_look_at_count : Addr} {dtc_look_at_count : Value} {dtd_look_at_count : Option Addr} {dtn_look_at_count : Nat} {dts_look_at_count : Array (Option Value)}
    {f_is_line : Addr} {oc_is_line kV_is_line dc_is_line pm_is_line cd_is_line ct_is_line : Value} {od_is_line an_is_line : Option Addr} {sl_is_line : Array (Option Value)}
    {f_are_lines : Addr} {oc_are_lines kV_are_lines dc_are_lines pm_are_lines cd_are_lines ct_are_lines : Value} {od_are_lines an_are_lines : Option Addr} {sl_are_lines : Array (Option Value)}
    {f_is_measure : Addr} {oc_is_measure kV_is_measure dc_is_measure pm_is_measure cd_is_measure ct_is_measure : Value} {od_is_measure an_is_measure : Option Addr} {sl_is_measure : Array (Option Value)}
    {f_is_parts : Addr} {oc_is_parts kV_is_parts dc_is_parts pm_is_parts cd_is_parts ct_is_parts : Value} {od_is_parts an_is_parts : Option Addr} {sl_is_parts : Array (Option Value)}
    {f_look_at_lines : Addr} {oc_look_at_lines kV_look_at_lines dc_look_at_lines pm_look_at_lines cd_look_at_lines ct_look_at_lines : Value} {od_look_at_lines an_look_at_lines : Option Addr} {sl_look_at_lines : Array (Option Value)}
    {f_look_at_measured : Addr} {oc_look_at_measured kV_look_at_measured dc_look_at_measured pm_look_at_measured cd_look_at_measured ct_look_at_measured : Value} {od_look_at_measured an_look_at_measured : Option Addr} {sl_look_at_measured : Array (Option Value)}
    {f_with_line : Addr} {oc_with_line kV_with_line dc_with_line pm_with_line cd_with_line ct_with_line : Value} {od_with_line an_with_line : Option Addr} {sl_with_line : Array (Option Value)}
    {f_filled_part : Addr} {oc_filled_part kV_filled_part dc_filled_part pm_filled_part cd_filled_part ct_filled_part : Value} {od_filled_part an_filled_part : Option Addr} {sl_filled_part : Array (Option Value)}
    {f_least_filling : Addr} {oc_least_filling kV_least_filling dc_least_filling pm_least_filling cd_least_filling ct_least_filling : Value} {od_least_filling an_least_filling : Option Addr} {sl_least_filling : Array (Option Value)}
    {f__law_cell : Addr} {oc__law_cell kV__law_cell dc__law_cell pm__law_cell cd__law_cell ct__law_cell : Value} {od__law_cell an__law_cell : Option Addr} {sl__law_cell : Array (Option Value)}
    {f__law_hash : Addr} {oc__law_hash kV__law_hash dc__law_hash pm__law_hash cd__law_hash ct__law_hash : Value} {od__law_hash an__law_hash : Option Addr} {sl__law_hash : Array (Option Value)}
    {f__law_generator : Addr} {oc__law_generator kV__law_generator dc__law_generator pm__law_generator cd__law_generator ct__law_generator : Value} {od__law_generator an__law_generator : Option Addr} {sl__law_generator : Array (Option Value)}
    {f__law_random : Addr} {oc__law_random kV__law_random dc__law_random pm__law_random cd__law_random ct__law_random : Value} {od__law_random an__law_random : Option Addr} {sl__law_random : Array (Option Value)}
    {f__law_between : Addr} {oc__law_between kV__law_between dc__law_between pm__law_between cd__law_between ct__law_between : Value} {od__law_between an__law_between : Option Addr} {sl__law_between : Array (Option Value)}
    {f__law_pick : Addr} {oc__law_pick kV__law_pick dc__law_pick pm__law_pick cd__law_pick ct__law_pick : Value} {od__law_pick an__law_pick : Option Addr} {sl__law_pick : Array (Option Value)}
    {f__law_error : Addr} {oc__law_error kV__law_error dc__law_error pm__law_error cd__law_error ct__law_error : Value} {od__law_error an__law_error : Option Addr} {sl__law_error : Array (Option Value)}
    {f__law_refused : Addr} {oc__law_refused kV__law_refused dc__law_refused pm__law_refused cd__law_refused ct__law_refused : Value} {od__law_refused an__law_refused : Option Addr} {sl__law_refused : Array (Option Value)}
    {f__law_part_cost : Addr} {oc__law_part_cost kV__law_part_cost dc__law_part_cost pm__law_part_cost cd__law_part_cost ct__law_part_cost : Value} {od__law_part_cost an__law_part_cost : Option Addr} {sl__law_part_cost : Array (Option Value)}
    {f__law_cost : Addr} {oc__law_cost kV__law_cost dc__law_cost pm__law_cost cd__law_cost ct__law_cost : Value} {od__law_cost an__law_cost : Option Addr} {sl__law_cost : Array (Option Value)}
    {f__law_drawn_lines : Addr} {oc__law_drawn_lines kV__law_drawn_lines dc__law_drawn_lines pm__law_drawn_lines cd__law_drawn_lines ct__law_drawn_lines : Value} {od__law_drawn_lines an__law_drawn_lines : Option Addr} {sl__law_drawn_lines : Array (Option Value)}
    {f__law_drawn_parts : Addr} {oc__law_drawn_parts kV__law_drawn_parts dc__law_drawn_parts pm__law_drawn_parts cd__law_drawn_parts ct__law_drawn_parts : Value} {od__law_drawn_parts an__law_drawn_parts : Option Addr} {sl__law_drawn_parts : Array (Option Value)}
    {f__law_distance : Addr} {oc__law_distance kV__law_distance dc__law_distance pm__law_distance cd__law_distance ct__law_distance : Value} {od__law_distance an__law_distance : Option Addr} {sl__law_distance : Array (Option Value)}
    {f__law_keeps : Addr} {oc__law_keeps kV__law_keeps dc__law_keeps pm__law_keeps cd__law_keeps ct__law_keeps : Value} {od__law_keeps an__law_keeps : Option Addr} {sl__law_keeps : Array (Option Value)}
    {f__law_is_filling : Addr} {oc__law_is_filling kV__law_is_filling dc__law_is_filling pm__law_is_filling cd__law_is_filling ct__law_is_filling : Value} {od__law_is_filling an__law_is_filling : Option Addr} {sl__law_is_filling : Array (Option Value)}
    {f__law_all : Addr} {oc__law_all kV__law_all dc__law_all pm__law_all cd__law_all ct__law_all : Value} {od__law_all an__law_all : Option Addr} {sl__law_all : Array (Option Value)}
    {f__law_good : Addr} {oc__law_good kV__law_good dc__law_good pm__law_good cd__law_good ct__law_good : Value} {od__law_good an__law_good : Option Addr} {sl__law_good : Array (Option Value)}
    {f__law_small_good : Addr} {oc__law_small_good kV__law_small_good dc__law_small_good pm__law_small_good cd__law_small_good ct__law_small_good : Value} {od__law_small_good an__law_small_good : Option Addr} {sl__law_small_good : Array (Option Value)}
    {f__law_refused_right : Addr} {oc__law_refused_right kV__law_refused_right dc__law_refused_right pm__law_refused_right ct__law_refused_right : Value} {od__law_refused_right an__law_refused_right : Option Addr} {sl__law_refused_right : Array (Option Value)}
    {cc__law_refused_right P__law_refused_right : Addr} {me__law_refused_right : Value} {md__law_refused_right : Option Addr} {mv__law_refused_right : Array Value} {ms__law_refused_right : Array (Option Value)}
    {f_law : Addr} {oc_law kV_law dc_law pm_law cd_law ct_law : Value} {od_law an_law : Option Addr} {sl_law : Array (Option Value)}
    (ac_InkError : PySem.W.nsIn K mainGlobals "InkError" = some (some (.ref A_InkError)))
    (ac_InvalidNumber : PySem.W.nsIn K mainGlobals "InvalidNumber" = some (some (.ref A_InvalidNumber)))
    (ac_InvalidList : PySem.W.nsIn K mainGlobals "InvalidList" = some (some (.ref A_InvalidList)))
    (ac_InvalidLayout : PySem.W.nsIn K mainGlobals "InvalidLayout" = some (some (.ref A_InvalidLayout)))
    (xl_InvalidNumber : K.lookup A_InvalidNumber = some (excClassObj nm_InvalidNumber qq_InvalidNumber A_InvalidNumber NN_InvalidNumber bs_InvalidNumber bm_InvalidNumber true sn_InvalidNumber su_InvalidNumber ab_InvalidNumber co_InvalidNumber dd_InvalidNumber k0_InvalidNumber k1_InvalidNumber k2_InvalidNumber k3_InvalidNumber k5_InvalidNumber "ValueError.__new__"))
    (xb_InvalidNumber : PySem.HandSPX.refsVE bm_InvalidNumber = true)
    (ii_InvalidNumber : PySem.W.findIn K (.ref A_InvalidNumber) "__init__" = some (some (.ref I_InvalidNumber)))
    (ti_InvalidNumber : PySem.W.typeIn K (.ref I_InvalidNumber) = some (.type "function"))
    (li_InvalidNumber : K.lookup I_InvalidNumber = some ⟨oc_InvalidNumber, od_InvalidNumber, .func (PySem.W.ksFn "__init__" "InvalidNumber.__init__" (defArgs ini_InvalidNumber) (defBody ini_InvalidNumber) (defScope ini_InvalidNumber) (.ref dT_InvalidNumber) .none dc_InvalidNumber pm_InvalidNumber an_InvalidNumber (.ref cda_InvalidNumber) ct_InvalidNumber cc_InvalidNumber), sl_InvalidNumber⟩)
    (ld_InvalidNumber : K.lookup dT_InvalidNumber = some ⟨dtc_InvalidNumber, dtd_InvalidNumber, .seq #[Value.none] dtn_InvalidNumber, dts_InvalidNumber⟩)
    (ci_InvalidNumber : PySem.W.codeIn K (.ref cda_InvalidNumber) "InvalidNumber.__init__" = true)
    (lc_InvalidNumber : K.lookup cda_InvalidNumber = some ⟨ccl_InvalidNumber, cdd_InvalidNumber, .fields cvs_InvalidNumber, ccs_InvalidNumber⟩)
    (vs_InvalidNumber : cvs_InvalidNumber[2]? = some (.str fi_InvalidNumber tf_InvalidNumber))
    (fl_InvalidNumber : ((P.main.file : Str) == fi_InvalidNumber) = true)
    (cc_InvalidNumber_ : K.lookup cc_InvalidNumber = some ⟨cl_InvalidNumber, cld_InvalidNumber, .cell (some (.ref A_InvalidNumber)), csl_InvalidNumber⟩)
    (sm_InvalidNumber : PySem.W.ks_superIn K A_InvalidNumber A_InvalidNumber "__init__" = some (some (.builtin "ValueError.__init__")))
    (sB_InvalidNumber : PySem.W.subIn K (.ref A_InvalidNumber) (.type "ValueError") = some true)
    (ow_InvalidNumber : PySem.W.mroIn K A_InvalidNumber (.ref A_InvalidNumber) = some true)
    (nv_InvalidNumber : PySem.W.findIn K (.ref A_InvalidNumber) "value" = some none)
    (sa_InvalidNumber : PySem.W.findIn K (.ref A_InvalidNumber) "__setattr__" = some (some (.builtin "object.__setattr__")))
    (ga_InvalidNumber : PySem.W.findIn K (.ref A_InvalidNumber) "__getattribute__" = some (some (.builtin "BaseException.__getattribute__")))
    (gt_InvalidNumber : PySem.W.findIn K (.ref A_InvalidNumber) "__getattr__" = some none)
    (eC_InvalidNumber : PySem.W.subIn K (.ref A_InvalidNumber) (.type "BaseException") = some true)
    (tC_InvalidNumber : PySem.W.typeIn K (.ref A_InvalidNumber) = some (.type "type"))
    (kC_InvalidNumber : PySem.W.keepIn K (.ref A_InvalidNumber) = true)
    (iC_InvalidNumber : PySem.W.isClsIn K A_InvalidNumber = true)
    (hD_InvalidNumber : PySem.W.hasDictIn K A_InvalidNumber = true)
    (ca_InvalidNumber : PySem.W.findIn K (.ref A_InvalidNumber) "__class__" = some (some (.builtin "object.__class__")))
    (mo_InvalidNumber : PySem.W.mroIn K A_InvalidNumber (.type "object") = some true)
    (sh_InvalidNumber_InkError : PySem.W.subIn K (.ref A_InvalidNumber) (.ref A_InkError) = some true)
    (kt_InvalidNumber_InvalidLayout : PySem.W.kitOne K (.ref A_InvalidNumber) (.ref A_InvalidLayout) = some false)
    (kt_InvalidNumber_InvalidList : PySem.W.kitOne K (.ref A_InvalidNumber) (.ref A_InvalidList) = some false)
    (kt_InvalidNumber_InvalidNumber : PySem.W.kitOne K (.ref A_InvalidNumber) (.ref A_InvalidNumber) = some true)
    (xl_InvalidList : K.lookup A_InvalidList = some (excClassObj nm_InvalidList qq_InvalidList A_InvalidList NN_InvalidList bs_InvalidList bm_InvalidList true sn_InvalidList su_InvalidList ab_InvalidList co_InvalidList dd_InvalidList k0_InvalidList k1_InvalidList k2_InvalidList k3_InvalidList k5_InvalidList "ValueError.__new__"))
    (xb_InvalidList : PySem.HandSPX.refsVE bm_InvalidList = true)
    (ii_InvalidList : PySem.W.findIn K (.ref A_InvalidList) "__init__" = some (some (.ref I_InvalidList)))
    (ti_InvalidList : PySem.W.typeIn K (.ref I_InvalidList) = some (.type "function"))
    (li_InvalidList : K.lookup I_InvalidList = some ⟨oc_InvalidList, od_InvalidList, .func (PySem.W.ksFn "__init__" "InvalidList.__init__" (defArgs ini_InvalidList) (defBody ini_InvalidList) (defScope ini_InvalidList) (.ref dT_InvalidList) .none dc_InvalidList pm_InvalidList an_InvalidList (.ref cda_InvalidList) ct_InvalidList cc_InvalidList), sl_InvalidList⟩)
    (ld_InvalidList : K.lookup dT_InvalidList = some ⟨dtc_InvalidList, dtd_InvalidList, .seq #[Value.none] dtn_InvalidList, dts_InvalidList⟩)
    (ci_InvalidList : PySem.W.codeIn K (.ref cda_InvalidList) "InvalidList.__init__" = true)
    (lc_InvalidList : K.lookup cda_InvalidList = some ⟨ccl_InvalidList, cdd_InvalidList, .fields cvs_InvalidList, ccs_InvalidList⟩)
    (vs_InvalidList : cvs_InvalidList[2]? = some (.str fi_InvalidList tf_InvalidList))
    (fl_InvalidList : ((P.main.file : Str) == fi_InvalidList) = true)
    (cc_InvalidList_ : K.lookup cc_InvalidList = some ⟨cl_InvalidList, cld_InvalidList, .cell (some (.ref A_InvalidList)), csl_InvalidList⟩)
    (sm_InvalidList : PySem.W.ks_superIn K A_InvalidList A_InvalidList "__init__" = some (some (.builtin "ValueError.__init__")))
    (sB_InvalidList : PySem.W.subIn K (.ref A_InvalidList) (.type "ValueError") = some true)
    (ow_InvalidList : PySem.W.mroIn K A_InvalidList (.ref A_InvalidList) = some true)
    (nv_InvalidList : PySem.W.findIn K (.ref A_InvalidList) "value" = some none)
    (sa_InvalidList : PySem.W.findIn K (.ref A_InvalidList) "__setattr__" = some (some (.builtin "object.__setattr__")))
    (ga_InvalidList : PySem.W.findIn K (.ref A_InvalidList) "__getattribute__" = some (some (.builtin "BaseException.__getattribute__")))
    (gt_InvalidList : PySem.W.findIn K (.ref A_InvalidList) "__getattr__" = some none)
    (eC_InvalidList : PySem.W.subIn K (.ref A_InvalidList) (.type "BaseException") = some true)
    (tC_InvalidList : PySem.W.typeIn K (.ref A_InvalidList) = some (.type "type"))
    (kC_InvalidList : PySem.W.keepIn K (.ref A_InvalidList) = true)
    (iC_InvalidList : PySem.W.isClsIn K A_InvalidList = true)
    (hD_InvalidList : PySem.W.hasDictIn K A_InvalidList = true)
    (ca_InvalidList : PySem.W.findIn K (.ref A_InvalidList) "__class__" = some (some (.builtin "object.__class__")))
    (mo_InvalidList : PySem.W.mroIn K A_InvalidList (.type "object") = some true)
    (sh_InvalidList_InkError : PySem.W.subIn K (.ref A_InvalidList) (.ref A_InkError) = some true)
    (kt_InvalidList_InvalidLayout : PySem.W.kitOne K (.ref A_InvalidList) (.ref A_InvalidLayout) = some false)
    (kt_InvalidList_InvalidList : PySem.W.kitOne K (.ref A_InvalidList) (.ref A_InvalidList) = some true)
    (kt_InvalidList_InvalidNumber : PySem.W.kitOne K (.ref A_InvalidList) (.ref A_InvalidNumber) = some false)
    (xl_InvalidLayout : K.lookup A_InvalidLayout = some (excClassObj nm_InvalidLayout qq_InvalidLayout A_InvalidLayout NN_InvalidLayout bs_InvalidLayout bm_InvalidLayout true sn_InvalidLayout su_InvalidLayout ab_InvalidLayout co_InvalidLayout dd_InvalidLayout k0_InvalidLayout k1_InvalidLayout k2_InvalidLayout k3_InvalidLayout k5_InvalidLayout "ValueError.__new__"))
    (xb_InvalidLayout : PySem.HandSPX.refsVE bm_InvalidLayout = true)
    (ii_InvalidLayout : PySem.W.findIn K (.ref A_InvalidLayout) "__init__" = some (some (.ref I_InvalidLayout)))
    (ti_InvalidLayout : PySem.W.typeIn K (.ref I_InvalidLayout) = some (.type "function"))
    (li_InvalidLayout : K.lookup I_InvalidLayout = some ⟨oc_InvalidLayout, od_InvalidLayout, .func (PySem.W.ksFn "__init__" "InvalidLayout.__init__" (defArgs ini_InvalidLayout) (defBody ini_InvalidLayout) (defScope ini_InvalidLayout) (.ref dT_InvalidLayout) .none dc_InvalidLayout pm_InvalidLayout an_InvalidLayout (.ref cda_InvalidLayout) ct_InvalidLayout cc_InvalidLayout), sl_InvalidLayout⟩)
    (ld_InvalidLayout : K.lookup dT_InvalidLayout = some ⟨dtc_InvalidLayout, dtd_InvalidLayout, .seq #[Value.none] dtn_InvalidLayout, dts_InvalidLayout⟩)
    (ci_InvalidLayout : PySem.W.codeIn K (.ref cda_InvalidLayout) "InvalidLayout.__init__" = true)
    (lc_InvalidLayout : K.lookup cda_InvalidLayout = some ⟨ccl_InvalidLayout, cdd_InvalidLayout, .fields cvs_InvalidLayout, ccs_InvalidLayout⟩)
    (vs_InvalidLayout : cvs_InvalidLayout[2]? = some (.str fi_InvalidLayout tf_InvalidLayout))
    (fl_InvalidLayout : ((P.main.file : Str) == fi_InvalidLayout) = true)
    (cc_InvalidLayout_ : K.lookup cc_InvalidLayout = some ⟨cl_InvalidLayout, cld_InvalidLayout, .cell (some (.ref A_InvalidLayout)), csl_InvalidLayout⟩)
    (sm_InvalidLayout : PySem.W.ks_superIn K A_InvalidLayout A_InvalidLayout "__init__" = some (some (.builtin "ValueError.__init__")))
    (sB_InvalidLayout : PySem.W.subIn K (.ref A_InvalidLayout) (.type "ValueError") = some true)
    (ow_InvalidLayout : PySem.W.mroIn K A_InvalidLayout (.ref A_InvalidLayout) = some true)
    (nv_InvalidLayout : PySem.W.findIn K (.ref A_InvalidLayout) "value" = some none)
    (sa_InvalidLayout : PySem.W.findIn K (.ref A_InvalidLayout) "__setattr__" = some (some (.builtin "object.__setattr__")))
    (ga_InvalidLayout : PySem.W.findIn K (.ref A_InvalidLayout) "__getattribute__" = some (some (.builtin "BaseException.__getattribute__")))
    (gt_InvalidLayout : PySem.W.findIn K (.ref A_InvalidLayout) "__getattr__" = some none)
    (eC_InvalidLayout : PySem.W.subIn K (.ref A_InvalidLayout) (.type "BaseException") = some true)
    (tC_InvalidLayout : PySem.W.typeIn K (.ref A_InvalidLayout) = some (.type "type"))
    (kC_InvalidLayout : PySem.W.keepIn K (.ref A_InvalidLayout) = true)
    (iC_InvalidLayout : PySem.W.isClsIn K A_InvalidLayout = true)
    (hD_InvalidLayout : PySem.W.hasDictIn K A_InvalidLayout = true)
    (ca_InvalidLayout : PySem.W.findIn K (.ref A_InvalidLayout) "__class__" = some (some (.builtin "object.__class__")))
    (mo_InvalidLayout : PySem.W.mroIn K A_InvalidLayout (.type "object") = some true)
    (sh_InvalidLayout_InkError : PySem.W.subIn K (.ref A_InvalidLayout) (.ref A_InkError) = some true)
    (kt_InvalidLayout_InvalidLayout : PySem.W.kitOne K (.ref A_InvalidLayout) (.ref A_InvalidLayout) = some true)
    (kt_InvalidLayout_InvalidList : PySem.W.kitOne K (.ref A_InvalidLayout) (.ref A_InvalidList) = some false)
    (kt_InvalidLayout_InvalidNumber : PySem.W.kitOne K (.ref A_InvalidLayout) (.ref A_InvalidNumber) = some false)
    (he_InkError : PySem.W.subIn K (.ref A_InkError) (.type "BaseException") = some true)
    (hd_InkError : PySem.W.hasDictIn K A_InkError = true)
    (ht_InkError : PySem.W.typeIn K (.ref A_InkError) = some (.type "type"))
    (op_ : PySem.W.nsIn K cStatics "thirdparty.any" = some none)
    (zs_ : PySem.W.nsIn K mainGlobals "super" = some none)
    (cg_ : PySem.W.specialIn K (.builtin "object.__class__") "__get__" = some (some (.builtin "getset_descriptor.__get__")))
    (ct_ : PySem.W.takesIn K (.builtin "object.__class__") = some true)
    (cs_MOST_LINES : PySem.W.nsIn K mainGlobals "MOST_LINES" = some (some (.int 400 tk_MOST_LINES)))
    (cs_MOST_GAP : PySem.W.nsIn K mainGlobals "MOST_GAP" = some (some (.int 12 tk_MOST_GAP)))
    (cs_MOST_INK : PySem.W.nsIn K mainGlobals "MOST_INK" = some (some (.int 50 tk_MOST_INK)))
    (kv_InvalidNumber : PySem.W.kitOne K (.ref A_InvalidNumber) (.type "ValueError") = some true)
    (kv_InvalidList : PySem.W.kitOne K (.ref A_InvalidList) (.type "ValueError") = some true)
    (kv_InvalidLayout : PySem.W.kitOne K (.ref A_InvalidLayout) (.type "ValueError") = some true)
    (a_is_whole : PySem.W.nsIn K mainGlobals "is_whole" = some (some (.ref f_is_whole)))
    (l_is_whole : K.lookup f_is_whole = some ⟨oc_is_whole, od_is_whole, .func (PySem.W.fnOf "is_whole" "is_whole" (defArgs s_is_whole) (defBody s_is_whole) (defScope s_is_whole) (.ref dT_is_whole) kV_is_whole dc_is_whole pm_is_whole an_is_whole cd_is_whole ct_is_whole), sl_is_whole⟩)
    (ld_is_whole : K.lookup dT_is_whole = some ⟨dtc_is_whole, dtd_is_whole, .seq #[Value.none, Value.none] dtn_is_whole, dts_is_whole⟩)
    (c_is_whole : PySem.W.codeIn K cd_is_whole "is_whole" = true)
    (k_is_whole : PySem.W.keepIn K (.ref f_is_whole) = true)
    (a_look_at_count : PySem.W.nsIn K mainGlobals "look_at_count" = some (some (.ref f_look_at_count)))
    (l_look_at_count : K.lookup f_look_at_count = some ⟨oc_look_at_count, od_look_at_count, .func (PySem.W.fnOf "look_at_count" "look_at_count" (defArgs s_look_at_count) (defBody s_look_at_count) (defScope s_look_at_count) (.ref dT_look_at_count) kV_look_at_count dc_look_at_count pm_look_at_count an_look_at_count cd_look_at_count ct_look_at_count), sl_look_at_count⟩)
    (ld_look_at_count : K.lookup dT_look_at_count = some ⟨dtc_look_at_count, dtd_look_at_count, .seq #[Value.none] dtn_look_at_count, dts_look_at_count⟩)
    (c_look_at_count : PySem.W.codeIn K cd_look_at_count "look_at_count" = true)
    (k_look_at_count : PySem.W.keepIn K (.ref f_look_at_count) = true)
    (a_is_line : PySem.W.nsIn K mainGlobals "is_line" = some (some (.ref f_is_line)))
    (l_is_line : K.lookup f_is_line = some ⟨oc_is_line, od_is_line, .func (PySem.W.fnOf "is_line" "is_line" (defArgs s_is_line) (defBody s_is_line) (defScope s_is_line) .none kV_is_line dc_is_line pm_is_line an_is_line cd_is_line ct_is_line), sl_is_line⟩)
    (c_is_line : PySem.W.codeIn K cd_is_line "is_line" = true)
    (k_is_line : PySem.W.keepIn K (.ref f_is_line) = true)
    (a_are_lines : PySem.W.nsIn K mainGlobals "are_lines" = some (some (.ref f_are_lines)))
    (l_are_lines : K.lookup f_are_lines = some ⟨oc_are_lines, od_are_lines, .func (PySem.W.fnOf "are_lines" "are_lines" (defArgs s_are_lines) (defBody s_are_lines) (defScope s_are_lines) .none kV_are_lines dc_are_lines pm_are_lines an_are_lines cd_are_lines ct_are_lines), sl_are_lines⟩)
    (c_are_lines : PySem.W.codeIn K cd_are_lines "are_lines" = true)
    (k_are_lines : PySem.W.keepIn K (.ref f_are_lines) = true)
    (a_is_measure : PySem.W.nsIn K mainGlobals "is_measure" = some (some (.ref f_is_measure)))
    (l_is_measure : K.lookup f_is_measure = some ⟨oc_is_measure, od_is_measure, .func (PySem.W.fnOf "is_measure" "is_measure" (defArgs s_is_measure) (defBody s_is_measure) (defScope s_is_measure) .none kV_is_measure dc_is_measure pm_is_measure an_is_measure cd_is_measure ct_is_measure), sl_is_measure⟩)
    (c_is_measure : PySem.W.codeIn K cd_is_measure "is_measure" = true)
    (k_is_measure : PySem.W.keepIn K (.ref f_is_measure) = true)
    (a_is_parts : PySem.W.nsIn K mainGlobals "is_parts" = some (some (.ref f_is_parts)))
    (l_is_parts : K.lookup f_is_parts = some ⟨oc_is_parts, od_is_parts, .func (PySem.W.fnOf "is_parts" "is_parts" (defArgs s_is_parts) (defBody s_is_parts) (defScope s_is_parts) .none kV_is_parts dc_is_parts pm_is_parts an_is_parts cd_is_parts ct_is_parts), sl_is_parts⟩)
    (c_is_parts : PySem.W.codeIn K cd_is_parts "is_parts" = true)
    (k_is_parts : PySem.W.keepIn K (.ref f_is_parts) = true)
    (a_look_at_lines : PySem.W.nsIn K mainGlobals "look_at_lines" = some (some (.ref f_look_at_lines)))
    (l_look_at_lines : K.lookup f_look_at_lines = some ⟨oc_look_at_lines, od_look_at_lines, .func (PySem.W.fnOf "look_at_lines" "look_at_lines" (defArgs s_look_at_lines) (defBody s_look_at_lines) (defScope s_look_at_lines) .none kV_look_at_lines dc_look_at_lines pm_look_at_lines an_look_at_lines cd_look_at_lines ct_look_at_lines), sl_look_at_lines⟩)
    (c_look_at_lines : PySem.W.codeIn K cd_look_at_lines "look_at_lines" = true)
    (k_look_at_lines : PySem.W.keepIn K (.ref f_look_at_lines) = true)
    (a_look_at_measured : PySem.W.nsIn K mainGlobals "look_at_measured" = some (some (.ref f_look_at_measured)))
    (l_look_at_measured : K.lookup f_look_at_measured = some ⟨oc_look_at_measured, od_look_at_measured, .func (PySem.W.fnOf "look_at_measured" "look_at_measured" (defArgs s_look_at_measured) (defBody s_look_at_measured) (defScope s_look_at_measured) .none kV_look_at_measured dc_look_at_measured pm_look_at_measured an_look_at_measured cd_look_at_measured ct_look_at_measured), sl_look_at_measured⟩)
    (c_look_at_measured : PySem.W.codeIn K cd_look_at_measured "look_at_measured" = true)
    (k_look_at_measured : PySem.W.keepIn K (.ref f_look_at_measured) = true)
    (a_with_line : PySem.W.nsIn K mainGlobals "with_line" = some (some (.ref f_with_line)))
    (l_with_line : K.lookup f_with_line = some ⟨oc_with_line, od_with_line, .func (PySem.W.fnOf "with_line" "with_line" (defArgs s_with_line) (defBody s_with_line) (defScope s_with_line) .none kV_with_line dc_with_line pm_with_line an_with_line cd_with_line ct_with_line), sl_with_line⟩)
    (c_with_line : PySem.W.codeIn K cd_with_line "with_line" = true)
    (k_with_line : PySem.W.keepIn K (.ref f_with_line) = true)
    (a_filled_part : PySem.W.nsIn K mainGlobals "filled_part" = some (some (.ref f_filled_part)))
    (l_filled_part : K.lookup f_filled_part = some ⟨oc_filled_part, od_filled_part, .func (PySem.W.fnOf "filled_part" "filled_part" (defArgs s_filled_part) (defBody s_filled_part) (defScope s_filled_part) .none kV_filled_part dc_filled_part pm_filled_part an_filled_part cd_filled_part ct_filled_part), sl_filled_part⟩)
    (c_filled_part : PySem.W.codeIn K cd_filled_part "filled_part" = true)
    (k_filled_part : PySem.W.keepIn K (.ref f_filled_part) = true)
    (a_least_filling : PySem.W.nsIn K mainGlobals "least_filling" = some (some (.ref f_least_filling)))
    (l_least_filling : K.lookup f_least_filling = some ⟨oc_least_filling, od_least_filling, .func (PySem.W.fnOf "least_filling" "least_filling" (defArgs s_least_filling) (defBody s_least_filling) (defScope s_least_filling) .none kV_least_filling dc_least_filling pm_least_filling an_least_filling cd_least_filling ct_least_filling), sl_least_filling⟩)
    (c_least_filling : PySem.W.codeIn K cd_least_filling "least_filling" = true)
    (k_least_filling : PySem.W.keepIn K (.ref f_least_filling) = true)
    (a__law_cell : PySem.W.nsIn K mainGlobals "_law_cell" = some (some (.ref f__law_cell)))
    (l__law_cell : K.lookup f__law_cell = some ⟨oc__law_cell, od__law_cell, .func (PySem.W.fnOf "_law_cell" "_law_cell" (defArgs s__law_cell) (defBody s__law_cell) (defScope s__law_cell) .none kV__law_cell dc__law_cell pm__law_cell an__law_cell cd__law_cell ct__law_cell), sl__law_cell⟩)
    (c__law_cell : PySem.W.codeIn K cd__law_cell "_law_cell" = true)
    (k__law_cell : PySem.W.keepIn K (.ref f__law_cell) = true)
    (a__law_hash : PySem.W.nsIn K mainGlobals "_law_hash" = some (some (.ref f__law_hash)))
    (l__law_hash : K.lookup f__law_hash = some ⟨oc__law_hash, od__law_hash, .func (PySem.W.fnOf "_law_hash" "_law_hash" (defArgs s__law_hash) (defBody s__law_hash) (defScope s__law_hash) .none kV__law_hash dc__law_hash pm__law_hash an__law_hash cd__law_hash ct__law_hash), sl__law_hash⟩)
    (c__law_hash : PySem.W.codeIn K cd__law_hash "_law_hash" = true)
    (k__law_hash : PySem.W.keepIn K (.ref f__law_hash) = true)
    (a__law_generator : PySem.W.nsIn K mainGlobals "_law_generator" = some (some (.ref f__law_generator)))
    (l__law_generator : K.lookup f__law_generator = some ⟨oc__law_generator, od__law_generator, .func (PySem.W.fnOf "_law_generator" "_law_generator" (defArgs s__law_generator) (defBody s__law_generator) (defScope s__law_generator) .none kV__law_generator dc__law_generator pm__law_generator an__law_generator cd__law_generator ct__law_generator), sl__law_generator⟩)
    (c__law_generator : PySem.W.codeIn K cd__law_generator "_law_generator" = true)
    (k__law_generator : PySem.W.keepIn K (.ref f__law_generator) = true)
    (a__law_random : PySem.W.nsIn K mainGlobals "_law_random" = some (some (.ref f__law_random)))
    (l__law_random : K.lookup f__law_random = some ⟨oc__law_random, od__law_random, .func (PySem.W.fnOf "_law_random" "_law_random" (defArgs s__law_random) (defBody s__law_random) (defScope s__law_random) .none kV__law_random dc__law_random pm__law_random an__law_random cd__law_random ct__law_random), sl__law_random⟩)
    (c__law_random : PySem.W.codeIn K cd__law_random "_law_random" = true)
    (k__law_random : PySem.W.keepIn K (.ref f__law_random) = true)
    (a__law_between : PySem.W.nsIn K mainGlobals "_law_between" = some (some (.ref f__law_between)))
    (l__law_between : K.lookup f__law_between = some ⟨oc__law_between, od__law_between, .func (PySem.W.fnOf "_law_between" "_law_between" (defArgs s__law_between) (defBody s__law_between) (defScope s__law_between) .none kV__law_between dc__law_between pm__law_between an__law_between cd__law_between ct__law_between), sl__law_between⟩)
    (c__law_between : PySem.W.codeIn K cd__law_between "_law_between" = true)
    (k__law_between : PySem.W.keepIn K (.ref f__law_between) = true)
    (a__law_pick : PySem.W.nsIn K mainGlobals "_law_pick" = some (some (.ref f__law_pick)))
    (l__law_pick : K.lookup f__law_pick = some ⟨oc__law_pick, od__law_pick, .func (PySem.W.fnOf "_law_pick" "_law_pick" (defArgs s__law_pick) (defBody s__law_pick) (defScope s__law_pick) .none kV__law_pick dc__law_pick pm__law_pick an__law_pick cd__law_pick ct__law_pick), sl__law_pick⟩)
    (c__law_pick : PySem.W.codeIn K cd__law_pick "_law_pick" = true)
    (k__law_pick : PySem.W.keepIn K (.ref f__law_pick) = true)
    (a__law_error : PySem.W.nsIn K mainGlobals "_law_error" = some (some (.ref f__law_error)))
    (l__law_error : K.lookup f__law_error = some ⟨oc__law_error, od__law_error, .func (PySem.W.fnOf "_law_error" "_law_error" (defArgs s__law_error) (defBody s__law_error) (defScope s__law_error) .none kV__law_error dc__law_error pm__law_error an__law_error cd__law_error ct__law_error), sl__law_error⟩)
    (c__law_error : PySem.W.codeIn K cd__law_error "_law_error" = true)
    (k__law_error : PySem.W.keepIn K (.ref f__law_error) = true)
    (a__law_refused : PySem.W.nsIn K mainGlobals "_law_refused" = some (some (.ref f__law_refused)))
    (l__law_refused : K.lookup f__law_refused = some ⟨oc__law_refused, od__law_refused, .func (PySem.W.fnOf "_law_refused" "_law_refused" (defArgs s__law_refused) (defBody s__law_refused) (defScope s__law_refused) .none kV__law_refused dc__law_refused pm__law_refused an__law_refused cd__law_refused ct__law_refused), sl__law_refused⟩)
    (c__law_refused : PySem.W.codeIn K cd__law_refused "_law_refused" = true)
    (k__law_refused : PySem.W.keepIn K (.ref f__law_refused) = true)
    (a__law_part_cost : PySem.W.nsIn K mainGlobals "_law_part_cost" = some (some (.ref f__law_part_cost)))
    (l__law_part_cost : K.lookup f__law_part_cost = some ⟨oc__law_part_cost, od__law_part_cost, .func (PySem.W.fnOf "_law_part_cost" "_law_part_cost" (defArgs s__law_part_cost) (defBody s__law_part_cost) (defScope s__law_part_cost) .none kV__law_part_cost dc__law_part_cost pm__law_part_cost an__law_part_cost cd__law_part_cost ct__law_part_cost), sl__law_part_cost⟩)
    (c__law_part_cost : PySem.W.codeIn K cd__law_part_cost "_law_part_cost" = true)
    (k__law_part_cost : PySem.W.keepIn K (.ref f__law_part_cost) = true)
    (a__law_cost : PySem.W.nsIn K mainGlobals "_law_cost" = some (some (.ref f__law_cost)))
    (l__law_cost : K.lookup f__law_cost = some ⟨oc__law_cost, od__law_cost, .func (PySem.W.fnOf "_law_cost" "_law_cost" (defArgs s__law_cost) (defBody s__law_cost) (defScope s__law_cost) .none kV__law_cost dc__law_cost pm__law_cost an__law_cost cd__law_cost ct__law_cost), sl__law_cost⟩)
    (c__law_cost : PySem.W.codeIn K cd__law_cost "_law_cost" = true)
    (k__law_cost : PySem.W.keepIn K (.ref f__law_cost) = true)
    (a__law_drawn_lines : PySem.W.nsIn K mainGlobals "_law_drawn_lines" = some (some (.ref f__law_drawn_lines)))
    (l__law_drawn_lines : K.lookup f__law_drawn_lines = some ⟨oc__law_drawn_lines, od__law_drawn_lines, .func (PySem.W.fnOf "_law_drawn_lines" "_law_drawn_lines" (defArgs s__law_drawn_lines) (defBody s__law_drawn_lines) (defScope s__law_drawn_lines) .none kV__law_drawn_lines dc__law_drawn_lines pm__law_drawn_lines an__law_drawn_lines cd__law_drawn_lines ct__law_drawn_lines), sl__law_drawn_lines⟩)
    (c__law_drawn_lines : PySem.W.codeIn K cd__law_drawn_lines "_law_drawn_lines" = true)
    (k__law_drawn_lines : PySem.W.keepIn K (.ref f__law_drawn_lines) = true)
    (a__law_drawn_parts : PySem.W.nsIn K mainGlobals "_law_drawn_parts" = some (some (.ref f__law_drawn_parts)))
    (l__law_drawn_parts : K.lookup f__law_drawn_parts = some ⟨oc__law_drawn_parts, od__law_drawn_parts, .func (PySem.W.fnOf "_law_drawn_parts" "_law_drawn_parts" (defArgs s__law_drawn_parts) (defBody s__law_drawn_parts) (defScope s__law_drawn_parts) .none kV__law_drawn_parts dc__law_drawn_parts pm__law_drawn_parts an__law_drawn_parts cd__law_drawn_parts ct__law_drawn_parts), sl__law_drawn_parts⟩)
    (c__law_drawn_parts : PySem.W.codeIn K cd__law_drawn_parts "_law_drawn_parts" = true)
    (k__law_drawn_parts : PySem.W.keepIn K (.ref f__law_drawn_parts) = true)
    (a__law_distance : PySem.W.nsIn K mainGlobals "_law_distance" = some (some (.ref f__law_distance)))
    (l__law_distance : K.lookup f__law_distance = some ⟨oc__law_distance, od__law_distance, .func (PySem.W.fnOf "_law_distance" "_law_distance" (defArgs s__law_distance) (defBody s__law_distance) (defScope s__law_distance) .none kV__law_distance dc__law_distance pm__law_distance an__law_distance cd__law_distance ct__law_distance), sl__law_distance⟩)
    (c__law_distance : PySem.W.codeIn K cd__law_distance "_law_distance" = true)
    (k__law_distance : PySem.W.keepIn K (.ref f__law_distance) = true)
    (a__law_keeps : PySem.W.nsIn K mainGlobals "_law_keeps" = some (some (.ref f__law_keeps)))
    (l__law_keeps : K.lookup f__law_keeps = some ⟨oc__law_keeps, od__law_keeps, .func (PySem.W.fnOf "_law_keeps" "_law_keeps" (defArgs s__law_keeps) (defBody s__law_keeps) (defScope s__law_keeps) .none kV__law_keeps dc__law_keeps pm__law_keeps an__law_keeps cd__law_keeps ct__law_keeps), sl__law_keeps⟩)
    (c__law_keeps : PySem.W.codeIn K cd__law_keeps "_law_keeps" = true)
    (k__law_keeps : PySem.W.keepIn K (.ref f__law_keeps) = true)
    (a__law_is_filling : PySem.W.nsIn K mainGlobals "_law_is_filling" = some (some (.ref f__law_is_filling)))
    (l__law_is_filling : K.lookup f__law_is_filling = some ⟨oc__law_is_filling, od__law_is_filling, .func (PySem.W.fnOf "_law_is_filling" "_law_is_filling" (defArgs s__law_is_filling) (defBody s__law_is_filling) (defScope s__law_is_filling) .none kV__law_is_filling dc__law_is_filling pm__law_is_filling an__law_is_filling cd__law_is_filling ct__law_is_filling), sl__law_is_filling⟩)
    (c__law_is_filling : PySem.W.codeIn K cd__law_is_filling "_law_is_filling" = true)
    (k__law_is_filling : PySem.W.keepIn K (.ref f__law_is_filling) = true)
    (a__law_all : PySem.W.nsIn K mainGlobals "_law_all" = some (some (.ref f__law_all)))
    (l__law_all : K.lookup f__law_all = some ⟨oc__law_all, od__law_all, .func (PySem.W.fnOf "_law_all" "_law_all" (defArgs s__law_all) (defBody s__law_all) (defScope s__law_all) .none kV__law_all dc__law_all pm__law_all an__law_all cd__law_all ct__law_all), sl__law_all⟩)
    (c__law_all : PySem.W.codeIn K cd__law_all "_law_all" = true)
    (k__law_all : PySem.W.keepIn K (.ref f__law_all) = true)
    (a__law_good : PySem.W.nsIn K mainGlobals "_law_good" = some (some (.ref f__law_good)))
    (l__law_good : K.lookup f__law_good = some ⟨oc__law_good, od__law_good, .func (PySem.W.fnOf "_law_good" "_law_good" (defArgs s__law_good) (defBody s__law_good) (defScope s__law_good) .none kV__law_good dc__law_good pm__law_good an__law_good cd__law_good ct__law_good), sl__law_good⟩)
    (c__law_good : PySem.W.codeIn K cd__law_good "_law_good" = true)
    (k__law_good : PySem.W.keepIn K (.ref f__law_good) = true)
    (a__law_small_good : PySem.W.nsIn K mainGlobals "_law_small_good" = some (some (.ref f__law_small_good)))
    (l__law_small_good : K.lookup f__law_small_good = some ⟨oc__law_small_good, od__law_small_good, .func (PySem.W.fnOf "_law_small_good" "_law_small_good" (defArgs s__law_small_good) (defBody s__law_small_good) (defScope s__law_small_good) .none kV__law_small_good dc__law_small_good pm__law_small_good an__law_small_good cd__law_small_good ct__law_small_good), sl__law_small_good⟩)
    (c__law_small_good : PySem.W.codeIn K cd__law_small_good "_law_small_good" = true)
    (k__law_small_good : PySem.W.keepIn K (.ref f__law_small_good) = true)
    (a__law_refused_right : PySem.W.nsIn K mainGlobals "_law_refused_right" = some (some (.ref f__law_refused_right)))
    (l__law_refused_right : K.lookup f__law_refused_right = some ⟨oc__law_refused_right, od__law_refused_right, .func (PySem.W.fnOf "_law_refused_right" "_law_refused_right" (defArgs s__law_refused_right) (defBody s__law_refused_right) (defScope s__law_refused_right) .none kV__law_refused_right dc__law_refused_right pm__law_refused_right an__law_refused_right (.ref cc__law_refused_right) ct__law_refused_right), sl__law_refused_right⟩)
    (c__law_refused_right : PySem.W.codeIn K (.ref cc__law_refused_right) "_law_refused_right" = true)
    (lc__law_refused_right : K.lookup cc__law_refused_right = some ⟨me__law_refused_right, md__law_refused_right, .fields mv__law_refused_right, ms__law_refused_right⟩)
    (pv__law_refused_right : mv__law_refused_right[11]? = some (.ref P__law_refused_right))
    (ch__law_refused_right : PySem.W.codeHdIn K cc__law_refused_right P__law_refused_right = true)
    (np__law_refused_right : K.lookup P__law_refused_right = none)
    (rc__law_refused_right : ((PyProof.Rows.recsOf qq).any fun e => e.name == "_law_refused_right") = true)
    (k__law_refused_right : PySem.W.keepIn K (.ref f__law_refused_right) = true)
    (a_law : PySem.W.nsIn K mainGlobals "law" = some (some (.ref f_law)))
    (l_law : K.lookup f_law = some ⟨oc_law, od_law, .func (PySem.W.fnOf "law" "law" (defArgs s_law) (defBody s_law) (defScope s_law) .none kV_law dc_law pm_law an_law cd_law ct_law), sl_law⟩)
    (c_law : PySem.W.codeIn K cd_law "law" = true)
    (k_law : PySem.W.keepIn K (.ref f_law) = true)
    (z_ValueError : PySem.W.nsIn K mainGlobals "ValueError" = some none)
    (z_all : PySem.W.nsIn K mainGlobals "all" = some none)
    (z_bool : PySem.W.nsIn K mainGlobals "bool" = some none)
    (z_int : PySem.W.nsIn K mainGlobals "int" = some none)
    (z_isinstance : PySem.W.nsIn K mainGlobals "isinstance" = some none)
    (z_len : PySem.W.nsIn K mainGlobals "len" = some none)
    (z_list : PySem.W.nsIn K mainGlobals "list" = some none)
    (z_max : PySem.W.nsIn K mainGlobals "max" = some none)
    (z_min : PySem.W.nsIn K mainGlobals "min" = some none)
    (z_range : PySem.W.nsIn K mainGlobals "range" = some none)
    (z_repr : PySem.W.nsIn K mainGlobals "repr" = some none)
    (z_sum : PySem.W.nsIn K mainGlobals "sum" = some none)
    (z_tuple : PySem.W.nsIn K mainGlobals "tuple" = some none)
    (z_zip : PySem.W.nsIn K mainGlobals "zip" = some none) :
    ∃ (fd : FuncData) (cs : List (Addr × Addr)) (sp : Sp), (∀ p ∈ cs, h.get? p.2 = some Dv.tab0) ∧ (∀ p ∈ cs, K.lookup p.2 = none) ∧ (∀ p ∈ cs, PySem.W.CodeHd h p.1 p.2) ∧ (∀ (s : Shared) (u : Value), BindsTo s fd ⟨[u], []⟩ [("script", u)]) ∧
      (∀ (H : Hp) (a : Addr) (ns : List Int), ns.length ≤ 63 → (∀ p ∈ cs, H p.2 = some (.tbl #[])) → L2.SqL K H a (ns.map L2.V.int) → sp [.ref a] H (fun v _ => v = .bl true) fun _ _ _ => False) ∧
      ∀ base : Heap, K.In base → base.Ns mainGlobals mg → (∀ p ∈ cs, LamX.TabB base mg p.1 p.2) → FnG P w K mg base CX0 11 fa fd ["script"] sp := by
  have e := hfa.symm.trans (PySem.W.mg_of X G a_law)
  cases e
  have bd_InvalidNumber : Binds K (PySem.W.ksFn "__init__" "InvalidNumber.__init__" (defArgs ini_InvalidNumber) (defBody ini_InvalidNumber) (defScope ini_InvalidNumber) (.ref dT_InvalidNumber) .none dc_InvalidNumber pm_InvalidNumber an_InvalidNumber (.ref cda_InvalidNumber) ct_InvalidNumber cc_InvalidNumber) ["self", "value"] [] := by
    intro s us X2 hl
    match us, hl with
    | [u1, u2], _ =>
      obtain ⟨k, e1, e2⟩ : ∃ k, bindArgs (PySem.W.ksFn "__init__" "InvalidNumber.__init__" (defArgs ini_InvalidNumber) (defBody ini_InvalidNumber) (defScope ini_InvalidNumber) (.ref dT_InvalidNumber) .none dc_InvalidNumber pm_InvalidNumber an_InvalidNumber (.ref cda_InvalidNumber) ct_InvalidNumber cc_InvalidNumber) ⟨[u1, u2], []⟩ = seqItems? (.ref dT_InvalidNumber) >>= k ∧ k (some #[Value.none]) = pure (((["self", "value"] : List Str)).zip ([u1, u2] ++ [])) := ⟨_, rfl, rfl⟩
      exact BindsTo.of_looks fun M => by rw [e1]; exact looks_items X2 ld_InvalidNumber rfl (.of_pure e2)
  have xi_InvalidNumber : XcC P K mg "InvalidNumber" A_InvalidNumber I_InvalidNumber (PySem.W.ksFn "__init__" "InvalidNumber.__init__" (defArgs ini_InvalidNumber) (defBody ini_InvalidNumber) (defScope ini_InvalidNumber) (.ref dT_InvalidNumber) .none dc_InvalidNumber pm_InvalidNumber an_InvalidNumber (.ref cda_InvalidNumber) ct_InvalidNumber cc_InvalidNumber) := { xi := { ex := ⟨_, _, _, _, _, _, _, _, _, _, _, _, _, _, _, _, _, _, _, _, _, _, _, _, rfl, li_InvalidNumber, ci_InvalidNumber, ⟨_, _, _, _, _, _, lc_InvalidNumber, vs_InvalidNumber, fl_InvalidNumber⟩, ⟨_, _, _, cc_InvalidNumber_⟩, ⟨rfl, rfl, rfl, rfl, rfl, by decide +kernel, rfl, rfl, rfl⟩, fun env => ⟨_, rfl⟩⟩, top := by rw [eP]; rfl, hm := sm_InvalidNumber, sB := sB_InvalidNumber, op := op_, own := ow_InvalidNumber, hno := nv_InvalidNumber, T := { cls := ⟨_, _, _, _, _, _, _, _, _, _, _, _, _, _, _, xl_InvalidNumber, xb_InvalidNumber⟩, sa := sa_InvalidNumber, exC := eC_InvalidNumber, tyC := tC_InvalidNumber, kC := kC_InvalidNumber } }, iC := ii_InvalidNumber, tI := ti_InvalidNumber, bd := bd_InvalidNumber, ms := PySem.W.mg_none_of X G zs_, mC := PySem.W.mg_of X G ac_InvalidNumber }
  have q_InvalidNumber : XqC K A_InvalidNumber := { cl := iC_InvalidNumber, ga := ga_InvalidNumber, gt := gt_InvalidNumber, sb := eC_InvalidNumber, hd := hD_InvalidNumber, ca := ca_InvalidNumber, cg := cg_, ct := ct_, mo := mo_InvalidNumber, nv := nv_InvalidNumber }
  have bd_InvalidList : Binds K (PySem.W.ksFn "__init__" "InvalidList.__init__" (defArgs ini_InvalidList) (defBody ini_InvalidList) (defScope ini_InvalidList) (.ref dT_InvalidList) .none dc_InvalidList pm_InvalidList an_InvalidList (.ref cda_InvalidList) ct_InvalidList cc_InvalidList) ["self", "value"] [] := by
    intro s us X2 hl
    match us, hl with
    | [u1, u2], _ =>
      obtain ⟨k, e1, e2⟩ : ∃ k, bindArgs (PySem.W.ksFn "__init__" "InvalidList.__init__" (defArgs ini_InvalidList) (defBody ini_InvalidList) (defScope ini_InvalidList) (.ref dT_InvalidList) .none dc_InvalidList pm_InvalidList an_InvalidList (.ref cda_InvalidList) ct_InvalidList cc_InvalidList) ⟨[u1, u2], []⟩ = seqItems? (.ref dT_InvalidList) >>= k ∧ k (some #[Value.none]) = pure (((["self", "value"] : List Str)).zip ([u1, u2] ++ [])) := ⟨_, rfl, rfl⟩
      exact BindsTo.of_looks fun M => by rw [e1]; exact looks_items X2 ld_InvalidList rfl (.of_pure e2)
  have xi_InvalidList : XcC P K mg "InvalidList" A_InvalidList I_InvalidList (PySem.W.ksFn "__init__" "InvalidList.__init__" (defArgs ini_InvalidList) (defBody ini_InvalidList) (defScope ini_InvalidList) (.ref dT_InvalidList) .none dc_InvalidList pm_InvalidList an_InvalidList (.ref cda_InvalidList) ct_InvalidList cc_InvalidList) := { xi := { ex := ⟨_, _, _, _, _, _, _, _, _, _, _, _, _, _, _, _, _, _, _, _, _, _, _, _, rfl, li_InvalidList, ci_InvalidList, ⟨_, _, _, _, _, _, lc_InvalidList, vs_InvalidList, fl_InvalidList⟩, ⟨_, _, _, cc_InvalidList_⟩, ⟨rfl, rfl, rfl, rfl, rfl, by decide +kernel, rfl, rfl, rfl⟩, fun env => ⟨_, rfl⟩⟩, top := by rw [eP]; rfl, hm := sm_InvalidList, sB := sB_InvalidList, op := op_, own := ow_InvalidList, hno := nv_InvalidList, T := { cls := ⟨_, _, _, _, _, _, _, _, _, _, _, _, _, _, _, xl_InvalidList, xb_InvalidList⟩, sa := sa_InvalidList, exC := eC_InvalidList, tyC := tC_InvalidList, kC := kC_InvalidList } }, iC := ii_InvalidList, tI := ti_InvalidList, bd := bd_InvalidList, ms := PySem.W.mg_none_of X G zs_, mC := PySem.W.mg_of X G ac_InvalidList }
  have q_InvalidList : XqC K A_InvalidList := { cl := iC_InvalidList, ga := ga_InvalidList, gt := gt_InvalidList, sb := eC_InvalidList, hd := hD_InvalidList, ca := ca_InvalidList, cg := cg_, ct := ct_, mo := mo_InvalidList, nv := nv_InvalidList }
  have bd_InvalidLayout : Binds K (PySem.W.ksFn "__init__" "InvalidLayout.__init__" (defArgs ini_InvalidLayout) (defBody ini_InvalidLayout) (defScope ini_InvalidLayout) (.ref dT_InvalidLayout) .none dc_InvalidLayout pm_InvalidLayout an_InvalidLayout (.ref cda_InvalidLayout) ct_InvalidLayout cc_InvalidLayout) ["self", "value"] [] := by
    intro s us X2 hl
    match us, hl with
    | [u1, u2], _ =>
      obtain ⟨k, e1, e2⟩ : ∃ k, bindArgs (PySem.W.ksFn "__init__" "InvalidLayout.__init__" (defArgs ini_InvalidLayout) (defBody ini_InvalidLayout) (defScope ini_InvalidLayout) (.ref dT_InvalidLayout) .none dc_InvalidLayout pm_InvalidLayout an_InvalidLayout (.ref cda_InvalidLayout) ct_InvalidLayout cc_InvalidLayout) ⟨[u1, u2], []⟩ = seqItems? (.ref dT_InvalidLayout) >>= k ∧ k (some #[Value.none]) = pure (((["self", "value"] : List Str)).zip ([u1, u2] ++ [])) := ⟨_, rfl, rfl⟩
      exact BindsTo.of_looks fun M => by rw [e1]; exact looks_items X2 ld_InvalidLayout rfl (.of_pure e2)
  have xi_InvalidLayout : XcC P K mg "InvalidLayout" A_InvalidLayout I_InvalidLayout (PySem.W.ksFn "__init__" "InvalidLayout.__init__" (defArgs ini_InvalidLayout) (defBody ini_InvalidLayout) (defScope ini_InvalidLayout) (.ref dT_InvalidLayout) .none dc_InvalidLayout pm_InvalidLayout an_InvalidLayout (.ref cda_InvalidLayout) ct_InvalidLayout cc_InvalidLayout) := { xi := { ex := ⟨_, _, _, _, _, _, _, _, _, _, _, _, _, _, _, _, _, _, _, _, _, _, _, _, rfl, li_InvalidLayout, ci_InvalidLayout, ⟨_, _, _, _, _, _, lc_InvalidLayout, vs_InvalidLayout, fl_InvalidLayout⟩, ⟨_, _, _, cc_InvalidLayout_⟩, ⟨rfl, rfl, rfl, rfl, rfl, by decide +kernel, rfl, rfl, rfl⟩, fun env => ⟨_, rfl⟩⟩, top := by rw [eP]; rfl, hm := sm_InvalidLayout, sB := sB_InvalidLayout, op := op_, own := ow_InvalidLayout, hno := nv_InvalidLayout, T := { cls := ⟨_, _, _, _, _, _, _, _, _, _, _, _, _, _, _, xl_InvalidLayout, xb_InvalidLayout⟩, sa := sa_InvalidLayout, exC := eC_InvalidLayout, tyC := tC_InvalidLayout, kC := kC_InvalidLayout } }, iC := ii_InvalidLayout, tI := ti_InvalidLayout, bd := bd_InvalidLayout, ms := PySem.W.mg_none_of X G zs_, mC := PySem.W.mg_of X G ac_InvalidLayout }
  have q_InvalidLayout : XqC K A_InvalidLayout := { cl := iC_InvalidLayout, ga := ga_InvalidLayout, gt := gt_InvalidLayout, sb := eC_InvalidLayout, hd := hD_InvalidLayout, ca := ca_InvalidLayout, cg := cg_, ct := ct_, mo := mo_InvalidLayout, nv := nv_InvalidLayout }
  have F_is_whole : FunT K "is_whole" "is_whole" s_is_whole [.none, .none] _ _ := ⟨⟨_, _, _, _, _, _, _, _, _, _, rfl, l_is_whole, c_is_whole, _, _, ld_is_whole, rfl⟩, k_is_whole⟩
  have F_look_at_count : FunT K "look_at_count" "look_at_count" s_look_at_count [.none] _ _ := ⟨⟨_, _, _, _, _, _, _, _, _, _, rfl, l_look_at_count, c_look_at_count, _, _, ld_look_at_count, rfl⟩, k_look_at_count⟩
  have F_is_line := fun_mk (st := s_is_line) l_is_line c_is_line k_is_line
  have F_are_lines := fun_mk (st := s_are_lines) l_are_lines c_are_lines k_are_lines
  have F_is_measure := fun_mk (st := s_is_measure) l_is_measure c_is_measure k_is_measure
  have F_is_parts := fun_mk (st := s_is_parts) l_is_parts c_is_parts k_is_parts
  have F_look_at_lines := fun_mk (st := s_look_at_lines) l_look_at_lines c_look_at_lines k_look_at_lines
  have F_look_at_measured := fun_mk (st := s_look_at_measured) l_look_at_measured c_look_at_measured k_look_at_measured
  have F_with_line := fun_mk (st := s_with_line) l_with_line c_with_line k_with_line
  have F_filled_part := fun_mk (st := s_filled_part) l_filled_part c_filled_part k_filled_part
  have F_least_filling := fun_mk (st := s_least_filling) l_least_filling c_least_filling k_least_filling
  have F__law_cell := fun_mk (st := s__law_cell) l__law_cell c__law_cell k__law_cell
  have F__law_hash := fun_mk (st := s__law_hash) l__law_hash c__law_hash k__law_hash
  have F__law_generator := fun_mk (st := s__law_generator) l__law_generator c__law_generator k__law_generator
  have F__law_random := fun_mk (st := s__law_random) l__law_random c__law_random k__law_random
  have F__law_between := fun_mk (st := s__law_between) l__law_between c__law_between k__law_between
  have F__law_pick := fun_mk (st := s__law_pick) l__law_pick c__law_pick k__law_pick
  have F__law_error := fun_mk (st := s__law_error) l__law_error c__law_error k__law_error
  have F__law_refused := fun_mk (st := s__law_refused) l__law_refused c__law_refused k__law_refused
  have F__law_part_cost := fun_mk (st := s__law_part_cost) l__law_part_cost c__law_part_cost k__law_part_cost
  have F__law_cost := fun_mk (st := s__law_cost) l__law_cost c__law_cost k__law_cost
  have F__law_drawn_lines := fun_mk (st := s__law_drawn_lines) l__law_drawn_lines c__law_drawn_lines k__law_drawn_lines
  have F__law_drawn_parts := fun_mk (st := s__law_drawn_parts) l__law_drawn_parts c__law_drawn_parts k__law_drawn_parts
  have F__law_distance := fun_mk (st := s__law_distance) l__law_distance c__law_distance k__law_distance
  have F__law_keeps := fun_mk (st := s__law_keeps) l__law_keeps c__law_keeps k__law_keeps
  have F__law_is_filling := fun_mk (st := s__law_is_filling) l__law_is_filling c__law_is_filling k__law_is_filling
  have F__law_all := fun_mk (st := s__law_all) l__law_all c__law_all k__law_all
  have F__law_good := fun_mk (st := s__law_good) l__law_good c__law_good k__law_good
  have F__law_small_good := fun_mk (st := s__law_small_good) l__law_small_good c__law_small_good k__law_small_good
  have F__law_refused_right : FunC K "_law_refused_right" "_law_refused_right" s__law_refused_right f__law_refused_right _ cc__law_refused_right := ⟨⟨_, _, _, _, _, _, _, _, rfl, l__law_refused_right, c__law_refused_right⟩, k__law_refused_right⟩
  have F_law := fun_mk (st := s_law) l_law c_law k_law
  let T : Txt P K mg := { a_is_whole := f_is_whole, d_is_whole := _, F_is_whole := F_is_whole, g_is_whole := PySem.W.mg_of X G a_is_whole, a_look_at_count := f_look_at_count, d_look_at_count := _, F_look_at_count := F_look_at_count, g_look_at_count := PySem.W.mg_of X G a_look_at_count, a_is_line := f_is_line, d_is_line := _, F_is_line := F_is_line, g_is_line := PySem.W.mg_of X G a_is_line, a_are_lines := f_are_lines, d_are_lines := _, F_are_lines := F_are_lines, g_are_lines := PySem.W.mg_of X G a_are_lines, a_is_measure := f_is_measure, d_is_measure := _, F_is_measure := F_is_measure, g_is_measure := PySem.W.mg_of X G a_is_measure, a_is_parts := f_is_parts, d_is_parts := _, F_is_parts := F_is_parts, g_is_parts := PySem.W.mg_of X G a_is_parts, a_look_at_lines := f_look_at_lines, d_look_at_lines := _, F_look_at_lines := F_look_at_lines, g_look_at_lines := PySem.W.mg_of X G a_look_at_lines, a_look_at_measured := f_look_at_measured, d_look_at_measured := _, F_look_at_measured := F_look_at_measured, g_look_at_measured := PySem.W.mg_of X G a_look_at_measured, a_with_line := f_with_line, d_with_line := _, F_with_line := F_with_line, g_with_line := PySem.W.mg_of X G a_with_line, a_filled_part := f_filled_part, d_filled_part := _, F_filled_part := F_filled_part, g_filled_part := PySem.W.mg_of X G a_filled_part, a_least_filling := f_least_filling, d_least_filling := _, F_least_filling := F_least_filling, g_least_filling := PySem.W.mg_of X G a_least_filling, a__law_cell := f__law_cell, d__law_cell := _, F__law_cell := F__law_cell, g__law_cell := PySem.W.mg_of X G a__law_cell, a__law_hash := f__law_hash, d__law_hash := _, F__law_hash := F__law_hash, g__law_hash := PySem.W.mg_of X G a__law_hash, a__law_generator := f__law_generator, d__law_generator := _, F__law_generator := F__law_generator, g__law_generator := PySem.W.mg_of X G a__law_generator, a__law_random := f__law_random, d__law_random := _, F__law_random := F__law_random, g__law_random := PySem.W.mg_of X G a__law_random, a__law_between := f__law_between, d__law_between := _, F__law_between := F__law_between, g__law_between := PySem.W.mg_of X G a__law_between, a__law_pick := f__law_pick, d__law_pick := _, F__law_pick := F__law_pick, g__law_pick := PySem.W.mg_of X G a__law_pick, a__law_error := f__law_error, d__law_error := _, F__law_error := F__law_error, g__law_error := PySem.W.mg_of X G a__law_error, a__law_refused := f__law_refused, d__law_refused := _, F__law_refused := F__law_refused, g__law_refused := PySem.W.mg_of X G a__law_refused, a__law_part_cost := f__law_part_cost, d__law_part_cost := _, F__law_part_cost := F__law_part_cost, g__law_part_cost := PySem.W.mg_of X G a__law_part_cost, a__law_cost := f__law_cost, d__law_cost := _, F__law_cost := F__law_cost, g__law_cost := PySem.W.mg_of X G a__law_cost, a__law_drawn_lines := f__law_drawn_lines, d__law_drawn_lines := _, F__law_drawn_lines := F__law_drawn_lines, g__law_drawn_lines := PySem.W.mg_of X G a__law_drawn_lines, a__law_drawn_parts := f__law_drawn_parts, d__law_drawn_parts := _, F__law_drawn_parts := F__law_drawn_parts, g__law_drawn_parts := PySem.W.mg_of X G a__law_drawn_parts, a__law_distance := f__law_distance, d__law_distance := _, F__law_distance := F__law_distance, g__law_distance := PySem.W.mg_of X G a__law_distance, a__law_keeps := f__law_keeps, d__law_keeps := _, F__law_keeps := F__law_keeps, g__law_keeps := PySem.W.mg_of X G a__law_keeps, a__law_is_filling := f__law_is_filling, d__law_is_filling := _, F__law_is_filling := F__law_is_filling, g__law_is_filling := PySem.W.mg_of X G a__law_is_filling, a__law_all := f__law_all, d__law_all := _, F__law_all := F__law_all, g__law_all := PySem.W.mg_of X G a__law_all, a__law_good := f__law_good, d__law_good := _, F__law_good := F__law_good, g__law_good := PySem.W.mg_of X G a__law_good, a__law_small_good := f__law_small_good, d__law_small_good := _, F__law_small_good := F__law_small_good, g__law_small_good := PySem.W.mg_of X G a__law_small_good, a__law_refused_right := f__law_refused_right, d__law_refused_right := _, F__law_refused_right := F__law_refused_right, g__law_refused_right := PySem.W.mg_of X G a__law_refused_right, a_law := _, d_law := _, F_law := F_law, g_law := PySem.W.mg_of X G a_law, c__law_refused_right := cc__law_refused_right, P__law_refused_right := P__law_refused_right, k_InvalidNumber_ValueError := kv_InvalidNumber, k_InvalidList_ValueError := kv_InvalidList, k_InvalidLayout_ValueError := kv_InvalidLayout, a_InkError := A_InkError, g_InkError := PySem.W.mg_of X G ac_InkError, a_InvalidNumber := A_InvalidNumber, g_InvalidNumber := PySem.W.mg_of X G ac_InvalidNumber, a_InvalidList := A_InvalidList, g_InvalidList := PySem.W.mg_of X G ac_InvalidList, a_InvalidLayout := A_InvalidLayout, g_InvalidLayout := PySem.W.mg_of X G ac_InvalidLayout, i_InvalidNumber := I_InvalidNumber, di_InvalidNumber := _, X_InvalidNumber := xi_InvalidNumber, q_InvalidNumber := q_InvalidNumber, m_InvalidNumber_InkError := PySem.W.exm_ref he_InkError hd_InkError ht_InkError sh_InvalidNumber_InkError, k_InvalidNumber_InvalidLayout := kt_InvalidNumber_InvalidLayout, k_InvalidNumber_InvalidList := kt_InvalidNumber_InvalidList, k_InvalidNumber_InvalidNumber := kt_InvalidNumber_InvalidNumber, i_InvalidList := I_InvalidList, di_InvalidList := _, X_InvalidList := xi_InvalidList, q_InvalidList := q_InvalidList, m_InvalidList_InkError := PySem.W.exm_ref he_InkError hd_InkError ht_InkError sh_InvalidList_InkError, k_InvalidList_InvalidLayout := kt_InvalidList_InvalidLayout, k_InvalidList_InvalidList := kt_InvalidList_InvalidList, k_InvalidList_InvalidNumber := kt_InvalidList_InvalidNumber, i_InvalidLayout := I_InvalidLayout, di_InvalidLayout := _, X_InvalidLayout := xi_InvalidLayout, q_InvalidLayout := q_InvalidLayout, m_InvalidLayout_InkError := PySem.W.exm_ref he_InkError hd_InkError ht_InkError sh_InvalidLayout_InkError, k_InvalidLayout_InvalidLayout := kt_InvalidLayout_InvalidLayout, k_InvalidLayout_InvalidList := kt_InvalidLayout_InvalidList, k_InvalidLayout_InvalidNumber := kt_InvalidLayout_InvalidNumber, t_MOST_LINES := tk_MOST_LINES, c_MOST_LINES := PySem.W.mg_of X G cs_MOST_LINES, t_MOST_GAP := tk_MOST_GAP, c_MOST_GAP := PySem.W.mg_of X G cs_MOST_GAP, t_MOST_INK := tk_MOST_INK, c_MOST_INK := PySem.W.mg_of X G cs_MOST_INK, z_ValueError := PySem.W.mg_none_of X G z_ValueError, z_all := PySem.W.mg_none_of X G z_all, z_bool := PySem.W.mg_none_of X G z_bool, z_int := PySem.W.mg_none_of X G z_int, z_isinstance := PySem.W.mg_none_of X G z_isinstance, z_len := PySem.W.mg_none_of X G z_len, z_list := PySem.W.mg_none_of X G z_list, z_max := PySem.W.mg_none_of X G z_max, z_min := PySem.W.mg_none_of X G z_min, z_range := PySem.W.mg_none_of X G z_range, z_repr := PySem.W.mg_none_of X G z_repr, z_sum := PySem.W.mg_none_of X G z_sum, z_tuple := PySem.W.mg_none_of X G z_tuple, z_zip := PySem.W.mg_none_of X G z_zip }
  have ot__law_refused_right : h.get? P__law_refused_right = some Dv.tab0 := OT "_law_refused_right" f__law_refused_right rc__law_refused_right (PySem.W.mg_of X G a__law_refused_right) cc__law_refused_right P__law_refused_right _ _ _ _ _ _ l__law_refused_right rfl rfl lc__law_refused_right pv__law_refused_right
  refine ⟨_, [(cc__law_refused_right, P__law_refused_right)], sp_law K (tabsT T), fun p hp => ?_, fun p hp => ?_, fun p hp => ?_, fun s u => .of_eq rfl, fun H a ns _ hT hS => ⟨a, ns, rfl, hS, fun p hp => ?_, fun _ => rfl⟩, fun base _ _ hB => ok_law T ⟨hB (cc__law_refused_right, P__law_refused_right) (by simp)⟩⟩
  · simp only [List.mem_cons, List.not_mem_nil, or_false] at hp
    rcases hp with rfl
    · exact ot__law_refused_right
  · simp only [List.mem_cons, List.not_mem_nil, or_false] at hp
    rcases hp with rfl
    · exact np__law_refused_right
  · simp only [List.mem_cons, List.not_mem_nil, or_false] at hp
    rcases hp with rfl
    · exact PySem.W.codeHd_of_K X ch__law_refused_right
  · unfold tabsT at hp
    simp only [List.mem_cons, List.not_mem_nil, or_false] at hp
    rcases hp with rfl
    · exact hT (cc__law_refused_right, P__law_refused_right) (by simp)
end K60
open PySem PySem.W PyProof.Rows
set_option maxHeartbeats 0 in
theorem PySem.Challenge.cw_inksays_k60_least_fillings_holds : PySem.Challenge.rw_inksays_k60_least_fillings.Holds := by
  w_on; o_law; k_head; (case hw => w_witness2)
  k_fill
  refine Dv.walk_ofGT (l := PySem.Challenge.rw_inksays_k60_least_fillings) (n := 63) (k := 11) (x := "script") (cx := fun _ => L2.CX0) rfl (by decide) rfl ⟨rfl, by decide, by decide⟩ (fun w h Y => PySem.W.km_in_of Y) ?F (fun _ _ _ _ _ z => z)
  case F =>
    intro w mg fa h KX G hmg OT
    refine' K60.all_mk KX G rfl hmg OT ?ac_InkError ?ac_InvalidNumber ?ac_InvalidList ?ac_InvalidLayout ?xl_InvalidNumber ?xb_InvalidNumber ?ii_InvalidNumber ?ti_InvalidNumber ?li_InvalidNumber ?ld_InvalidNumber ?ci_InvalidNumber ?lc_InvalidNumber ?vs_InvalidNumber ?fl_InvalidNumber ?cc_InvalidNumber_ ?sm_InvalidNumber ?sB_InvalidNumber ?ow_InvalidNumber ?nv_InvalidNumber ?sa_InvalidNumber ?ga_InvalidNumber ?gt_InvalidNumber ?eC_InvalidNumber ?tC_InvalidNumber ?kC_InvalidNumber ?iC_InvalidNumber ?hD_InvalidNumber ?ca_InvalidNumber ?mo_InvalidNumber ?sh_InvalidNumber_InkError ?kt_InvalidNumber_InvalidLayout ?kt_InvalidNumber_InvalidList ?kt_InvalidNumber_InvalidNumber ?xl_InvalidList ?xb_InvalidList ?ii_InvalidList ?ti_InvalidList ?li_InvalidList ?ld_InvalidList ?ci_InvalidList ?lc_InvalidList ?vs_InvalidList ?fl_InvalidList ?cc_InvalidList_ ?sm_InvalidList ?sB_InvalidList ?ow_InvalidList ?nv_InvalidList ?sa_InvalidList ?ga_InvalidList ?gt_InvalidList ?eC_InvalidList ?tC_InvalidList ?kC_InvalidList ?iC_InvalidList ?hD_InvalidList ?ca_InvalidList ?mo_InvalidList ?sh_InvalidList_InkError ?kt_InvalidList_InvalidLayout ?kt_InvalidList_InvalidList ?kt_InvalidList_InvalidNumber ?xl_InvalidLayout ?xb_InvalidLayout ?ii_InvalidLayout ?ti_InvalidLayout ?li_InvalidLayout ?ld_InvalidLayout ?ci_InvalidLayout ?lc_InvalidLayout ?vs_InvalidLayout ?fl_InvalidLayout ?cc_InvalidLayout_ ?sm_InvalidLayout ?sB_InvalidLayout ?ow_InvalidLayout ?nv_InvalidLayout ?sa_InvalidLayout ?ga_InvalidLayout ?gt_InvalidLayout ?eC_InvalidLayout ?tC_InvalidLayout ?kC_InvalidLayout ?iC_InvalidLayout ?hD_InvalidLayout ?ca_InvalidLayout ?mo_InvalidLayout ?sh_InvalidLayout_InkError ?kt_InvalidLayout_InvalidLayout ?kt_InvalidLayout_InvalidList ?kt_InvalidLayout_InvalidNumber ?he_InkError ?hd_InkError ?ht_InkError ?op_ ?zs_ ?cg_ ?ct_ ?cs_MOST_LINES ?cs_MOST_GAP ?cs_MOST_INK ?kv_InvalidNumber ?kv_InvalidList ?kv_InvalidLayout ?a_is_whole ?l_is_whole ?ld_is_whole ?c_is_whole ?k_is_whole ?a_look_at_count ?l_look_at_count ?ld_look_at_count ?c_look_at_count ?k_look_at_count ?a_is_line ?l_is_line ?c_is_line ?k_is_line ?a_are_lines ?l_are_lines ?c_are_lines ?k_are_lines ?a_is_measure ?l_is_measure ?c_is_measure ?k_is_measure ?a_is_parts ?l_is_parts ?c_is_parts ?k_is_parts ?a_look_at_lines ?l_look_at_lines ?c_look_at_lines ?k_look_at_lines ?a_look_at_measured ?l_look_at_measured ?c_look_at_measured ?k_look_at_measured ?a_with_line ?l_with_line ?c_with_line ?k_with_line ?a_filled_part ?l_filled_part ?c_filled_part ?k_filled_part ?a_least_filling ?l_least_filling ?c_least_filling ?k_least_filling ?a__law_cell ?l__law_cell ?c__law_cell ?k__law_cell ?a__law_hash ?l__law_hash ?c__law_hash ?k__law_hash ?a__law_generator ?l__law_generator ?c__law_generator ?k__law_generator ?a__law_random ?l__law_random ?c__law_random ?k__law_random ?a__law_between ?l__law_between ?c__law_between ?k__law_between ?a__law_pick ?l__law_pick ?c__law_pick ?k__law_pick ?a__law_error ?l__law_error ?c__law_error ?k__law_error ?a__law_refused ?l__law_refused ?c__law_refused ?k__law_refused ?a__law_part_cost ?l__law_part_cost ?c__law_part_cost ?k__law_part_cost ?a__law_cost ?l__law_cost ?c__law_cost ?k__law_cost ?a__law_drawn_lines ?l__law_drawn_lines ?c__law_drawn_lines ?k__law_drawn_lines ?a__law_drawn_parts ?l__law_drawn_parts ?c__law_drawn_parts ?k__law_drawn_parts ?a__law_distance ?l__law_distance ?c__law_distance ?k__law_distance ?a__law_keeps ?l__law_keeps ?c__law_keeps ?k__law_keeps ?a__law_is_filling ?l__law_is_filling ?c__law_is_filling ?k__law_is_filling ?a__law_all ?l__law_all ?c__law_all ?k__law_all ?a__law_good ?l__law_good ?c__law_good ?k__law_good ?a__law_small_good ?l__law_small_good ?c__law_small_good ?k__law_small_good ?a__law_refused_right ?l__law_refused_right ?c__law_refused_right ?lc__law_refused_right ?pv__law_refused_right ?ch__law_refused_right ?np__law_refused_right ?rc__law_refused_right ?k__law_refused_right ?a_law ?l_law ?c_law ?k_law ?z_ValueError ?z_all ?z_bool ?z_int ?z_isinstance ?z_len ?z_list ?z_max ?z_min ?z_range ?z_repr ?z_sum ?z_tuple ?z_zip
    (case ac_InkError => k_is)
    (case ac_InvalidNumber => k_is)
    (case ac_InvalidList => k_is)
    (case ac_InvalidLayout => k_is)
    (case xl_InvalidNumber => k_is)
    (case xb_InvalidNumber => decide +kernel)
    (case ii_InvalidNumber => k_is)
    (case ti_InvalidNumber => k_is)
    (case li_InvalidNumber => k_is)
    (case ld_InvalidNumber => k_is)
    (case ci_InvalidNumber => k_is)
    (case lc_InvalidNumber => k_is)
    (case vs_InvalidNumber => rfl)
    (case fl_InvalidNumber => first | rfl | decide +kernel)
    (case cc_InvalidNumber_ => k_is)
    (case sm_InvalidNumber => ks_is)
    (case sB_InvalidNumber => k_is)
    (case ow_InvalidNumber => k_is)
    (case nv_InvalidNumber => k_is)
    (case sa_InvalidNumber => k_is)
    (case ga_InvalidNumber => k_is)
    (case gt_InvalidNumber => k_is)
    (case eC_InvalidNumber => k_is)
    (case tC_InvalidNumber => k_is)
    (case kC_InvalidNumber => k_is)
    (case iC_InvalidNumber => k_is)
    (case hD_InvalidNumber => k_is)
    (case ca_InvalidNumber => k_is)
    (case mo_InvalidNumber => k_is)
    (case sh_InvalidNumber_InkError => k_is)
    (case kt_InvalidNumber_InvalidLayout => kit_is)
    (case kt_InvalidNumber_InvalidList => kit_is)
    (case kt_InvalidNumber_InvalidNumber => kit_is)
    (case xl_InvalidList => k_is)
    (case xb_InvalidList => decide +kernel)
    (case ii_InvalidList => k_is)
    (case ti_InvalidList => k_is)
    (case li_InvalidList => k_is)
    (case ld_InvalidList => k_is)
    (case ci_InvalidList => k_is)
    (case lc_InvalidList => k_is)
    (case vs_InvalidList => rfl)
    (case fl_InvalidList => first | rfl | decide +kernel)
    (case cc_InvalidList_ => k_is)
    (case sm_InvalidList => ks_is)
    (case sB_InvalidList => k_is)
    (case ow_InvalidList => k_is)
    (case nv_InvalidList => k_is)
    (case sa_InvalidList => k_is)
    (case ga_InvalidList => k_is)
    (case gt_InvalidList => k_is)
    (case eC_InvalidList => k_is)
    (case tC_InvalidList => k_is)
    (case kC_InvalidList => k_is)
    (case iC_InvalidList => k_is)
    (case hD_InvalidList => k_is)
    (case ca_InvalidList => k_is)
    (case mo_InvalidList => k_is)
    (case sh_InvalidList_InkError => k_is)
    (case kt_InvalidList_InvalidLayout => kit_is)
    (case kt_InvalidList_InvalidList => kit_is)
    (case kt_InvalidList_InvalidNumber => kit_is)
    (case xl_InvalidLayout => k_is)
    (case xb_InvalidLayout => decide +kernel)
    (case ii_InvalidLayout => k_is)
    (case ti_InvalidLayout => k_is)
    (case li_InvalidLayout => k_is)
    (case ld_InvalidLayout => k_is)
    (case ci_InvalidLayout => k_is)
    (case lc_InvalidLayout => k_is)
    (case vs_InvalidLayout => rfl)
    (case fl_InvalidLayout => first | rfl | decide +kernel)
    (case cc_InvalidLayout_ => k_is)
    (case sm_InvalidLayout => ks_is)
    (case sB_InvalidLayout => k_is)
    (case ow_InvalidLayout => k_is)
    (case nv_InvalidLayout => k_is)
    (case sa_InvalidLayout => k_is)
    (case ga_InvalidLayout => k_is)
    (case gt_InvalidLayout => k_is)
    (case eC_InvalidLayout => k_is)
    (case tC_InvalidLayout => k_is)
    (case kC_InvalidLayout => k_is)
    (case iC_InvalidLayout => k_is)
    (case hD_InvalidLayout => k_is)
    (case ca_InvalidLayout => k_is)
    (case mo_InvalidLayout => k_is)
    (case sh_InvalidLayout_InkError => k_is)
    (case kt_InvalidLayout_InvalidLayout => kit_is)
    (case kt_InvalidLayout_InvalidList => kit_is)
    (case kt_InvalidLayout_InvalidNumber => kit_is)
    (case he_InkError => k_is)
    (case hd_InkError => k_is)
    (case ht_InkError => k_is)
    (case op_ => k_is)
    (case zs_ => k_is)
    (case cg_ => k_is)
    (case ct_ => k_is)
    (case cs_MOST_LINES => k_is)
    (case cs_MOST_GAP => k_is)
    (case cs_MOST_INK => k_is)
    (case kv_InvalidNumber => kit_is)
    (case kv_InvalidList => kit_is)
    (case kv_InvalidLayout => kit_is)
    (case a_is_whole => k_is)
    (case l_is_whole => k_is)
    (case ld_is_whole => k_is)
    (case c_is_whole => k_is)
    (case k_is_whole => k_is)
    (case a_look_at_count => k_is)
    (case l_look_at_count => k_is)
    (case ld_look_at_count => k_is)
    (case c_look_at_count => k_is)
    (case k_look_at_count => k_is)
    (case a_is_line => k_is)
    (case l_is_line => k_is)
    (case c_is_line => k_is)
    (case k_is_line => k_is)
    (case a_are_lines => k_is)
    (case l_are_lines => k_is)
    (case c_are_lines => k_is)
    (case k_are_lines => k_is)
    (case a_is_measure => k_is)
    (case l_is_measure => k_is)
    (case c_is_measure => k_is)
    (case k_is_measure => k_is)
    (case a_is_parts => k_is)
    (case l_is_parts => k_is)
    (case c_is_parts => k_is)
    (case k_is_parts => k_is)
    (case a_look_at_lines => k_is)
    (case l_look_at_lines => k_is)
    (case c_look_at_lines => k_is)
    (case k_look_at_lines => k_is)
    (case a_look_at_measured => k_is)
    (case l_look_at_measured => k_is)
    (case c_look_at_measured => k_is)
    (case k_look_at_measured => k_is)
    (case a_with_line => k_is)
    (case l_with_line => k_is)
    (case c_with_line => k_is)
    (case k_with_line => k_is)
    (case a_filled_part => k_is)
    (case l_filled_part => k_is)
    (case c_filled_part => k_is)
    (case k_filled_part => k_is)
    (case a_least_filling => k_is)
    (case l_least_filling => k_is)
    (case c_least_filling => k_is)
    (case k_least_filling => k_is)
    (case a__law_cell => k_is)
    (case l__law_cell => k_is)
    (case c__law_cell => k_is)
    (case k__law_cell => k_is)
    (case a__law_hash => k_is)
    (case l__law_hash => k_is)
    (case c__law_hash => k_is)
    (case k__law_hash => k_is)
    (case a__law_generator => k_is)
    (case l__law_generator => k_is)
    (case c__law_generator => k_is)
    (case k__law_generator => k_is)
    (case a__law_random => k_is)
    (case l__law_random => k_is)
    (case c__law_random => k_is)
    (case k__law_random => k_is)
    (case a__law_between => k_is)
    (case l__law_between => k_is)
    (case c__law_between => k_is)
    (case k__law_between => k_is)
    (case a__law_pick => k_is)
    (case l__law_pick => k_is)
    (case c__law_pick => k_is)
    (case k__law_pick => k_is)
    (case a__law_error => k_is)
    (case l__law_error => k_is)
    (case c__law_error => k_is)
    (case k__law_error => k_is)
    (case a__law_refused => k_is)
    (case l__law_refused => k_is)
    (case c__law_refused => k_is)
    (case k__law_refused => k_is)
    (case a__law_part_cost => k_is)
    (case l__law_part_cost => k_is)
    (case c__law_part_cost => k_is)
    (case k__law_part_cost => k_is)
    (case a__law_cost => k_is)
    (case l__law_cost => k_is)
    (case c__law_cost => k_is)
    (case k__law_cost => k_is)
    (case a__law_drawn_lines => k_is)
    (case l__law_drawn_lines => k_is)
    (case c__law_drawn_lines => k_is)
    (case k__law_drawn_lines => k_is)
    (case a__law_drawn_parts => k_is)
    (case l__law_drawn_parts => k_is)
    (case c__law_drawn_parts => k_is)
    (case k__law_drawn_parts => k_is)
    (case a__law_distance => k_is)
    (case l__law_distance => k_is)
    (case c__law_distance => k_is)
    (case k__law_distance => k_is)
    (case a__law_keeps => k_is)
    (case l__law_keeps => k_is)
    (case c__law_keeps => k_is)
    (case k__law_keeps => k_is)
    (case a__law_is_filling => k_is)
    (case l__law_is_filling => k_is)
    (case c__law_is_filling => k_is)
    (case k__law_is_filling => k_is)
    (case a__law_all => k_is)
    (case l__law_all => k_is)
    (case c__law_all => k_is)
    (case k__law_all => k_is)
    (case a__law_good => k_is)
    (case l__law_good => k_is)
    (case c__law_good => k_is)
    (case k__law_good => k_is)
    (case a__law_small_good => k_is)
    (case l__law_small_good => k_is)
    (case c__law_small_good => k_is)
    (case k__law_small_good => k_is)
    (case a__law_refused_right => k_is)
    (case l__law_refused_right => k_is)
    (case c__law_refused_right => k_is)
    (case lc__law_refused_right => k_is)
    (case pv__law_refused_right => rfl)
    (case ch__law_refused_right => first | rfl | decide +kernel)
    (case np__law_refused_right => first | rfl | decide +kernel)
    (case rc__law_refused_right => first | rfl | decide +kernel)
    (case k__law_refused_right => k_is)
    (case a_law => k_is)
    (case l_law => k_is)
    (case c_law => k_is)
    (case k_law => k_is)
    (case z_ValueError => k_is)
    (case z_all => k_is)
    (case z_bool => k_is)
    (case z_int => k_is)
    (case z_isinstance => k_is)
    (case z_len => k_is)
    (case z_list => k_is)
    (case z_max => k_is)
    (case z_min => k_is)
    (case z_range => k_is)
    (case z_repr => k_is)
    (case z_sum => k_is)
    (case z_tuple => k_is)
    (case z_zip => k_is)
